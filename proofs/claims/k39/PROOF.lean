import PyProof.Rows.All
import Wide.All
import OpenK.AllK
import Wide.FinOn
import HandS.ForMost
import HandS.IsInst
import HandS.Gcd
import HandS.Wide
import HandS.Zip
import HandS.Conv
import HandS.Flow
import HandS.Walk
import HandS.Codes
import KE.GoesMore
import KE.GoesEnum
import HandS.TupMul
import HandS.TupAny
import PySem.Challenge.RW_sameontrees_k39_whole_made_or_apart
set_option Elab.async false
set_option linter.all false
set_option maxRecDepth 100000
/-! a small layer of our own over HandS: plain data that never changes, defs by name, zip of a list and a tuple -/
namespace Ly
open PySem PySem.Spec PyProof.Rows L2

/-! ### frames -/
/-- every tuple that is tracked stays -/
def TK (H H' : Hp) : Prop := ∀ b xs, H b = some (.tup xs) → H' b = some (.tup xs)
theorem TK.rfl (H : Hp) : TK H H := fun _ _ h => h
theorem TK.trans {H H1 H2 : Hp} (a : TK H H1) (b : TK H1 H2) : TK H H2 := fun c o h => b c o (a c o h)
theorem tk_same {H H' : Hp} (s : Same H H') : TK H H' := fun b _ h => s b _ h
theorem tk_new {H : Hp} {p : Addr} {o : HO} (h : H p = none) : TK H (upd H p o) := fun b xs e => by
  rw [upd_ne (ne_of_none e h)]; exact e
theorem tk_lst {H : Hp} {p : Addr} {o : HO} {xs : List V} (h : H p = some (.lst xs)) : TK H (upd H p o) := fun b ys e => by
  have : b ≠ p := by
    intro z; subst z; rw [h] at e; cases e
  rw [upd_ne this]; exact e
theorem same_new {H : Hp} {p : Addr} {o : HO} (h : H p = none) : Same H (upd H p o) := fun b x e => by
  rw [upd_ne (ne_of_none e h)]; exact e

/-! ### data: none, bools, ints, texts, tuples of such -/
/-- a tuple that stands: tracked, or of the module's own -/
def ITup (K : PySem.W.Frag) (H : Hp) (a : Addr) (xs : List V) : Prop :=
  H a = some (.tup xs) ∨ ∃ (o : Obj) (its : Array Value) (n : Nat), K.lookup a = some o ∧ o.cls = .type "tuple" ∧ o.data = .seq its n ∧ its.size ≤ sizeLine ∧ Vals xs its.toList
theorem ITup.sq {K : PySem.W.Frag} {H : Hp} {a : Addr} {xs : List V} (h : ITup K H a xs) : SqT K H a xs := h.elim (fun e => .inl (.inl e)) .inr
theorem ITup.mono {K : PySem.W.Frag} {H H' : Hp} {a : Addr} {xs : List V} (t : TK H H') (h : ITup K H a xs) : ITup K H' a xs := h.elim (fun e => .inl (t _ _ e)) .inr
mutual
inductive Im (K : PySem.W.Frag) (H : Hp) : V → PyData → Prop
  | non : Im K H .non .none
  | bl (b : Bool) : Im K H (.bl b) (.bool b)
  | int (i : Int) : Im K H (.int i) (.int i)
  | str (x : Str) : Im K H (.str x) (.str x)
  | tup {a : Addr} {xs : List V} {ds : List PyData} : ITup K H a xs → ImAll K H xs ds → Im K H (.ref a) (.tuple ds)
inductive ImAll (K : PySem.W.Frag) (H : Hp) : List V → List PyData → Prop
  | nil : ImAll K H [] []
  | cons {v : V} {vs : List V} {d : PyData} {ds : List PyData} : Im K H v d → ImAll K H vs ds → ImAll K H (v :: vs) (d :: ds)
end
section
variable {K : PySem.W.Frag} {H H' : Hp}
mutual
theorem Im.mono (t : TK H H') : ∀ (d : PyData) {v : V}, Im K H v d → Im K H' v d
  | .none, _, h => by cases h; exact .non
  | .bool _, _, h => by cases h; exact .bl _
  | .int _, _, h => by cases h; exact .int _
  | .str _, _, h => by cases h; exact .str _
  | .tuple ds, _, h => by cases h with | tup e r => exact .tup (e.mono t) (ImAll.mono t ds r)
  | .list _, _, h => by cases h
  | .dict _, _, h => by cases h
theorem ImAll.mono (t : TK H H') : ∀ (ds : List PyData) {vs : List V}, ImAll K H vs ds → ImAll K H' vs ds
  | [], _, h => by cases h; exact .nil
  | d :: ds, _, h => by cases h with | cons a r => exact .cons (Im.mono t d a) (ImAll.mono t ds r)
end
mutual
theorem Im.dp : ∀ (d : PyData) {v : V}, Im K H v d → Dp K H v d
  | .none, _, h => by cases h; exact .non
  | .bool _, _, h => by cases h; exact .bl _
  | .int _, _, h => by cases h; exact .int _
  | .str _, _, h => by cases h; exact .str _
  | .tuple ds, _, h => by cases h with | tup e r => exact .tup e.sq (ImAll.dp ds r)
  | .list _, _, h => by cases h
  | .dict _, _, h => by cases h
theorem ImAll.dp : ∀ (ds : List PyData) {vs : List V}, ImAll K H vs ds → DpAll K H vs ds
  | [], _, h => by cases h; exact .nil
  | d :: ds, _, h => by cases h with | cons a r => exact .cons (Im.dp d a) (ImAll.dp ds r)
end
theorem ImAll.length : ∀ {vs : List V} {ds : List PyData}, ImAll K H vs ds → vs.length = ds.length
  | [], ds, h => by cases h; rfl
  | _ :: _, _, h => by cases h with | cons _ r => rw [List.length_cons, List.length_cons, ImAll.length r]
theorem ImAll.get : ∀ {vs : List V} {ds : List PyData} {i : Nat} {d : PyData}, ImAll K H vs ds → ds[i]? = some d → ∃ v, vs[i]? = some v ∧ Im K H v d
  | _, _, 0, _, .cons a _, e => by
    simp at e; subst e; exact ⟨_, rfl, a⟩
  | _, _, i + 1, _, .cons _ r, e => by
    obtain ⟨v, h1, h2⟩ := ImAll.get (i := i) r (by simpa using e)
    exact ⟨v, by simpa using h1, h2⟩
  | _, _, _, _, .nil, e => by simp at e
theorem ImAll.getV : ∀ {vs : List V} {ds : List PyData} {i : Nat} {v : V}, ImAll K H vs ds → vs[i]? = some v → ∃ d, ds[i]? = some d ∧ Im K H v d
  | _, _, 0, _, .cons a _, e => by
    simp at e; subst e; exact ⟨_, rfl, a⟩
  | _, _, i + 1, _, .cons _ r, e => by
    obtain ⟨v, h1, h2⟩ := ImAll.getV (i := i) r (by simpa using e)
    exact ⟨v, by simpa using h1, h2⟩
  | _, _, _, _, .nil, e => by simp at e
theorem ImAll.snoc : ∀ {vs : List V} {ds : List PyData} {v : V} {d : PyData}, ImAll K H vs ds → Im K H v d → ImAll K H (vs ++ [v]) (ds ++ [d])
  | _, _, _, _, .nil, a => .cons a .nil
  | _, _, _, _, .cons b r, a => .cons b (ImAll.snoc r a)
theorem Im.tuple_inv {v : V} {ds : List PyData} (h : Im K H v (.tuple ds)) : ∃ a xs, v = .ref a ∧ ITup K H a xs ∧ ImAll K H xs ds := by
  cases h with | tup e r => exact ⟨_, _, rfl, e, r⟩
theorem Im.int_inv {v : V} {i : Int} (h : Im K H v (.int i)) : v = .int i := by cases h; rfl
theorem Im.bool_inv {v : V} {i : Bool} (h : Im K H v (.bool i)) : v = .bl i := by cases h; rfl
theorem Im.str_inv {v : V} {i : Str} (h : Im K H v (.str i)) : v = .str i := by cases h; rfl
theorem Im.none_inv {v : V} (h : Im K H v .none) : v = .non := by cases h; rfl
theorem ImAll.cons_inv {vs : List V} {d : PyData} {ds : List PyData} (h : ImAll K H vs (d :: ds)) : ∃ v r, vs = v :: r ∧ Im K H v d ∧ ImAll K H r ds := by
  cases h with | cons a r => exact ⟨_, _, rfl, a, r⟩
theorem ImAll.nil_inv {vs : List V} (h : ImAll K H vs []) : vs = [] := by cases h; rfl
/-- a new tuple of data -/
theorem Im.new {p : Addr} {xs : List V} {ds : List PyData} (n : H p = none) (r : ImAll K H xs ds) : Im K (upd H p (.tup xs)) (.ref p) (.tuple ds) :=
  .tup (.inl upd_same) (ImAll.mono (tk_new n) ds r)
end

/-! ### defs by their names -/
section
variable (P : Program) (w : World) (K : PySem.W.Frag) (mg : Str → Option Value) (base : Heap)
/-- the def st that the name x holds keeps the promise sp, by at most level k; nothing is raised out of it -/
structure Def (k : Nat) (x : Str) (st : Stmt) (ps : List Str) (sp : Sp) : Prop where
  ex : ∃ (f : Addr) (fd : FuncData), FnOk P w K mg base CX0 k f fd ps sp ∧ mg x = some (.ref f) ∧ PySem.W.keepIn K (.ref f) = true ∧ L2.Binds K fd ps [] ∧ Fun K x x st f fd
end
section
variable {X : Cx} {k : Nat} {x : Str} {st : Stmt} {ps ks : List Str} {sp : Sp} {p pos : Pos} {e : Expr} {es : List Expr} {kws : List Keyword} {t tk : TA} {g : List Value → List Value → List Value} {gV : List V → List V → List V}
theorem pe_def (O : Def X.prog X.w X.K X.mg X.base k x st ps sp) (hr : Room k X.A) (hg : Gl X x) (ha : PA X (e :: es) t) (hdb : (x == ("__debug__" : Str)) = false := by decide)
    (he : starEach (e :: es) X.env = (false, eval e X.env) :: starEach es X.env := by rfl) (hpl : (backTo pos (starEach es X.env)).any (·.1) = false := by rfl) :
    PE X (.Call (.Name x p) (e :: es) [] pos) (tCall sp [] E0 t) := by
  obtain ⟨f, fd, F, hm, hk, hb, _⟩ := O.ex
  exact pe_call F hr hg hm hk hb .nil pass0 ha hdb he hpl
/-- all arguments by their names -/
theorem pe_defK (O : Def X.prog X.w X.K X.mg X.base k x st ps sp) (hr : Room k X.A) (hg : Gl X x) (kb : ∀ f fd, Fun X.K x x st f fd → KBinds X.K fd ps ks g gV) (hkw : PK X kws tk)
    (hall : (backToKw pos (keywordEach kws X.env)).all (·.1.isSome) = true := by rfl) (hks : (backToKw pos (keywordEach kws X.env)).filterMap (·.1) = ks := by rfl) (hdb : (x == ("__debug__" : Str)) = false := by decide)
    (hpl : ((backTo pos (starEach [] X.env)).any (·.1) || (backToKw pos (keywordEach kws X.env)).any (·.1.isNone)) = false := by rfl) :
    PE X (.Call (.Name x p) [] kws pos) (tCallK sp gV E0 tNil tk) := by
  obtain ⟨f, fd, F, hm, hk, _, U⟩ := O.ex
  refine ⟨fun pins s σ H Q I h => wpAny_Call_Name_kw (ld_glob I hg hm (PySem.W.callWith_KW0 (h₀ := X.base) I.ok.mod.kin hk hall (thn (hkw.run pos pins s σ H _ I h) ?_) hpl) hdb)⟩
  rintro ws s2 ⟨zs, H2, I2, rz, q2⟩
  refine ⟨I2.kIn, ?_⟩
  rw [hks]
  exact run_fnk F hr (kb f fd U) pass0 I2 .nil rz q2
end
/-- a name of the module that holds a value -/
theorem pe_gv {X : Cx} {x : Str} {v : V} {pos : Pos} (hg : Gl X x) (h : ∃ u, X.mg x = some u ∧ RelV v u) (hd : (x == ("__debug__" : Str)) = false := by decide) : PE X (.Name x pos) (tC v) := by
  obtain ⟨u, h1, h2⟩ := h
  exact pe_glob hg h1 h2 hd
/-! ### zip of a list and a tuple -/
/-- the list at a and the tuple at b, as they stand at each turn, their items in new pairs -/
def ItzM (K : PySem.W.Frag) (a b : Addr) : It where
  go := fun i H => ∃ xs ys x y, SqL K H a xs ∧ SqT K H b ys ∧ xs[i]? = some x ∧ ys[i]? = some y
  yld := fun i H v H' => ∃ T x y, v = .ref T ∧ H T = none ∧ H' = upd H T (.tup [x, y]) ∧ (∀ l, SqL K H a l → l[i]? = some x) ∧ ∀ l, SqT K H b l → l[i]? = some y
  stop := fun i H => ∃ xs ys : List V, SqL K H a xs ∧ SqT K H b ys ∧ i ≤ xs.length ∧ i ≤ ys.length ∧ (i = xs.length ∨ i = ys.length)
theorem in5 {z a b c d e : Addr} (h : z ∈ [a, b, c, d, e]) : z = a ∨ z = b ∨ z = c ∨ z = d ∨ z = e := by simpa using h
theorem turnM {P : Program} {w : World} {K : PySem.W.Frag} {elts : List Expr} {kk : Nat} {tpos : Pos} {a b z TI TO i1 i2 : Addr} (S : ZipSep2 z TI TO i1 i2 [i1, a] [i2, b]) :
    Turn P w K (.Tuple elts kk tpos) (ItzM K a b) [z, TI, TO, i1, i2] z (fun i h => IsZip h z TI TO .none ∧ IsTupOf2 h TI (.ref i1) (.ref i2) ∧ (∃ x y, IsTupOf2 h TO x y) ∧ h.IsListIter i1 a i ∧ h.IsTupleIter i2 b i) := by
  have n12 : i1 ≠ i2 := fun q => S.sep1_2 (by rw [q]; exact List.mem_cons_self ..)
  have z1 := S.zi1
  have z2 := S.zi2
  have t1 := S.Ti1
  have t2 := S.Ti2
  have keep4 : ∀ {h h' : Heap} {c : Addr} {o : Obj}, (∀ c o, c ≠ z → c ≠ TO → c ≠ i1 → c ≠ i2 → h.get? c = some o → h'.get? c = some o) → c ∉ [z, TI, TO, i1, i2] → h.get? c = some o → h'.get? c = some o :=
    fun k hc q => k _ _ (fun e => hc (by simp [e])) (fun e => hc (by simp [e])) (fun e => hc (by simp [e])) (fun e => hc (by simp [e])) q
  have size5 : ∀ {h : Heap} {i : Nat}, IsZip h z TI TO .none → IsTupOf2 h TI (.ref i1) (.ref i2) → (∃ x y, IsTupOf2 h TO x y) → h.IsListIter i1 a i → h.IsTupleIter i2 b i → ∀ c ∈ [z, TI, TO, i1, i2], c < h.objs.size := by
    intro h i hz hT ⟨x, y, hO⟩ ⟨o1, e1, _⟩ ⟨o2, e2, _⟩ c hc
    rcases in5 hc with q | q | q | q | q <;> subst q
    · exact Heap.lt_size hz
    · exact Heap.lt_size hT
    · exact Heap.lt_size hO
    · exact Heap.lt_size e1
    · exact Heap.lt_size e2
  refine { mem := List.mem_cons_self .., obj := ?_, keep := ?_, item := ?_, done := ?_, self := fun A i s Q E st h => wpAny_pyIter_zip st.1 h }
  · rintro i h ⟨hz, hT, ⟨x, y, hO⟩, ⟨o1, e1, _, d1⟩, ⟨o2, e2, _, d2⟩⟩ c hc
    rcases in5 hc with q | q | q | q | q <;> subst q
    · exact ⟨_, hz, fun v q => nomatch q⟩
    · exact ⟨_, hT, fun v q => nomatch q⟩
    · exact ⟨_, hO, fun v q => nomatch q⟩
    · exact ⟨o1, e1, fun v q => by rw [d1] at q; cases q⟩
    · exact ⟨o2, e2, fun v q => by rw [d2] at q; cases q⟩
  · rintro i h h' ⟨hz, hT, ⟨x, y, hO⟩, l1, l2⟩ k
    exact ⟨k z (by simp) _ hz, k TI (by simp) _ hT, ⟨x, y, k TO (by simp) _ hO⟩, l1.at fun o q => k i1 (by simp) o q, l2.at fun o q => k i2 (by simp) o q⟩
  · intro X hP hw hK hc i pins s σ H E I hf st hg
    subst hP hw hK
    obtain ⟨hz, hT, hO, l1, l2⟩ := st
    have lts := size5 hz hT hO l1 l2
    obtain ⟨x0, y0, hO⟩ := hO
    obtain ⟨xs, ys, x, y, qx, qy, hx, hy⟩ := hg
    obtain ⟨its, rv, p, _⟩ := I.list qx
    obtain ⟨its2, rv2, p2, _⟩ := I.tuple qy
    obtain ⟨u, hu, ru⟩ := rv.get hx
    obtain ⟨u2, hu2, ru2⟩ := rv2.get hy
    have a1 : a ≠ i1 := fun q => by
      obtain ⟨o, ho, c, _⟩ := l1
      obtain ⟨o', ho', c', _⟩ := p.isList
      rw [← q, ho'] at ho; cases ho
      rw [c'] at c; simp at c
    have b2 : b ≠ i2 := fun q => by
      obtain ⟨o, ho, c, _⟩ := l2
      obtain ⟨o', ho', c', _⟩ := p2
      rw [← q, ho'] at ho; cases ho
      rw [c'] at c; simp at c
    have hd : X.A.in1.handled = none := I.ok.hd hc
    have D1 := Draws.list (prog := X.prog) (w := X.w) hd i1 a a1 its.toArray
    have D2 := Draws.tuple (prog := X.prog) (w := X.w) hd i2 b b2 its2.toArray
    have s1 : i < its.toArray.size := by
      have := (List.getElem?_eq_some_iff.mp hu).1
      simpa using this
    have s2 : i < its2.toArray.size := by
      have := (List.getElem?_eq_some_iff.mp hu2).1
      simpa using this
    refine wpAny_pyNext_zipD2_item S D1 D2 hz hT hO ⟨l1, p.isList⟩ ⟨l2, p2⟩ s1 s2 fun v1 v2 h' tk e1 e2 z' O' st1 st2 hN hsz hk => ?_
    have ev1 : u = v1 := by
      have : its[i]? = some v1 := by simpa using e1
      rw [hu] at this; exact Option.some.inj this
    have ev2 : u2 = v2 := by
      have : its2[i]? = some v2 := by simpa using e2
      rw [hu2] at this; exact Option.some.inj this
    subst ev1 ev2
    refine ⟨_, rfl, wpAny_letOwnedTupleGo_zip (s := { s with heap := h', toks := tk }) z' fun h2 zz sb => ?_⟩
    have zlt : z < s.heap.objs.size := lts z (by simp)
    have pair : h2.get? s.heap.objs.size = some { cls := .type "tuple", data := .seq #[u, u2] } := (sb.2 _ (Nat.ne_of_gt zlt)).trans hN
    have new : ObjOk X.prog X.w (upd H s.heap.objs.size (.tup [x, y])) h2 s.heap.objs.size (.tup [x, y]) := ⟨by show 2 ≤ sizeLine; decide, [u, u2], .cons ru (.cons ru2 .nil), ⟨_, pair, rfl, _, rfl⟩⟩
    have I2 : Inv X pins σ (upd H s.heap.objs.size (.tup [x, y])) { s with heap := h2, toks := tk } :=
      I.turnedNew (t' := tk) (ch := [z, TI, TO, i1, i2]) (fun c o hb q => (sb.2 c (fun e => hb (by simp [e]))).trans (keep4 hk hb q)) hf (Nat.le_refl _) new
    refine ⟨.ref s.heap.objs.size, _, I2, rfl, ⟨_, x, y, rfl, I.hok.fresh (Nat.le_refl _), rfl, fun l hl => by rw [I.list_inj hl qx]; exact hx, fun l hl => by rw [I.tuple_inj hl qy]; exact hy⟩, ⟨zz, ?_, ⟨u, u2, ?_⟩, ?_, ?_⟩, fun c hc => ?_⟩
    · exact (sb.2 _ S.TIz).trans (hk _ _ S.TIz S.TITO S.TIi1 S.TIi2 hT)
    · exact (sb.2 _ S.TOz).trans O'
    · exact st1.1.at fun o q => (sb.2 _ z1.symm).trans q
    · exact st2.1.at fun o q => (sb.2 _ z2.symm).trans q
    · rw [upd_ne (Nat.ne_of_lt (lts c hc))]
      exact (hf c hc).1
  · intro X hP hw hK hc i pins s σ H E I hf st hg
    subst hP hw hK
    obtain ⟨hz, hT, ⟨x0, y0, hO⟩, l1, l2⟩ := st
    obtain ⟨xs, ys, qx, qy, le1, le2, hend⟩ := hg
    obtain ⟨its, rv, p, _⟩ := I.list qx
    obtain ⟨its2, rv2, p2, _⟩ := I.tuple qy
    have a1 : a ≠ i1 := fun q => by
      obtain ⟨o, ho, c, _⟩ := l1
      obtain ⟨o', ho', c', _⟩ := p.isList
      rw [← q, ho'] at ho; cases ho
      rw [c'] at c; simp at c
    have b2 : b ≠ i2 := fun q => by
      obtain ⟨o, ho, c, _⟩ := l2
      obtain ⟨o', ho', c', _⟩ := p2
      rw [← q, ho'] at ho; cases ho
      rw [c'] at c; simp at c
    have hd : X.A.in1.handled = none := I.ok.hd hc
    have e1 := rv.length
    have e2 := rv2.length
    refine wpAny_pyNext_zipD2_end S (Draws.list (prog := X.prog) (w := X.w) hd i1 a a1 its.toArray) (Draws.tuple (prog := X.prog) (w := X.w) hd i2 b b2 its2.toArray) hz hT hO ⟨l1, p.isList⟩ ⟨l2, p2⟩ (by simp; omega) (by simp; omega) (by simp; omega) fun h' tk hk => ?_
    exact ⟨rfl, I.turnedL (t' := tk) (ch := [z, TI, TO, i1, i2]) (fun c o hb q => keep4 hk hb q) hf⟩
def iZipM (K : PySem.W.Frag) (ta : TA) : TI := fun σ H R => ta σ H fun vs H1 => ∃ a b xs ys, vs = [.ref a, .ref b] ∧ SqL K H1 a xs ∧ SqT K H1 b ys ∧ R (ItzM K a b) H1
theorem pi_zipM {X : Cx} {e e2 : Expr} {ta : TA} {p pos tpos : Pos} {elts : List Expr} {kk : Nat} (hg : Gl X "zip") (hm : X.mg "zip" = none) (ha : PA X [e, e2] ta)
    (hs : starEach [e, e2] X.env = (false, eval e X.env) :: starEach [e2] X.env := by rfl) (hpl : (backTo pos (starEach [e2] X.env)).any (·.1) = false := by rfl) :
    PI X (.Tuple elts kk tpos) (.Call (.Name "zip" p) [e, e2] [] pos) (iZipM X.K ta) := by
  refine ⟨fun pins s σ H R I h => Call_ (ld_blt I hg hm PyProof.Rows.boot_zip (PyProof.Rows.callWith_type1 (thn (ha.run pos pins s σ H _ I h) ?_) hs hpl))⟩
  rintro us s1 ⟨vs, H1, I1, r1, a, b, xs, ys, rfl, qx, qy, q⟩
  cases r1 with | cons r rr => cases rr with | cons r' rr =>
  cases rr
  cases r
  cases r'
  obtain ⟨its, rv, p1, _⟩ := I1.list qx
  obtain ⟨its2, rv2, p2, _⟩ := I1.tuple qy
  obtain ⟨o2, ho2, _⟩ := id p2
  have lb : b < s1.heap.objs.size := Heap.lt_size ho2
  have la : a < s1.heap.objs.size := p1.lt
  have S := zip_sep2 (N := s1.heap.objs.size) (fp1 := [a]) (fp2 := [b]) (fun c hc => by simp at hc; rw [hc]; exact la) (fun c hc => by simp at hc; rw [hc]; exact lb)
  refine zip_begins2 (begins_list a its.toArray) (begins_tuple b its2.toArray) p1.isList p2 fun h' hz hT hO g1 g2 hsz hk => wpAny_pyIter_zip hz ?_
  have I2 : Inv X pins σ H1 { s1 with heap := h' } := I1.kept (t' := s1.toks) hk
  refine ⟨_, [s1.heap.objs.size + 4, s1.heap.objs.size + 2, s1.heap.objs.size + 3, s1.heap.objs.size, s1.heap.objs.size + 1], _, _, H1, rfl, I2, turnM S, ⟨hz, hT, ⟨_, _, hO⟩, ⟨_, g1, rfl, rfl⟩, ⟨_, g2, rfl, rfl⟩⟩, fun c hc => ?_, q⟩
  have le : s1.heap.objs.size ≤ c := by
    rcases in5 hc with z | z | z | z | z <;> rw [z] <;> first | exact Nat.le_refl _ | exact Nat.le_add_right _ _
  exact I1.fpOk le (I1.hok.fresh le)
theorem walk_zipM {K : PySem.W.Frag} {a b : Addr} {xs ys : List V} (e : xs.length = ys.length) : Walk (ItzM K a b) xs.length (fun H => SqL K H a xs ∧ SqT K H b ys) (YPair (fun i => xs[i]?) (fun i => ys[i]?)) := by
  refine ⟨fun i _ hi q => ?_, fun _ q => ⟨xs, ys, q.1, q.2, Nat.le_refl _, Nat.le_of_eq e, .inl rfl⟩, fun i H v H' _ q y => ?_⟩
  · have h2 : i < ys.length := by omega
    exact ⟨xs, ys, xs[i], ys[i], q.1, q.2, by simp [hi], by simp [h2]⟩
  · obtain ⟨T, x, z, h1, h2, h3, h4, h5⟩ := y
    exact ⟨T, x, z, h1, h2, h3, h4 xs q.1, h5 ys q.2⟩
theorem walk_zipT {K : PySem.W.Frag} {a b : Addr} {xs ys : List V} (e : xs.length = ys.length) : Walk (RZ.ItzT K a b) xs.length (fun H => SqT K H a xs ∧ SqT K H b ys) (YPair (fun i => xs[i]?) (fun i => ys[i]?)) := by
  refine ⟨fun i _ hi q => ?_, fun _ q => ⟨xs, ys, q.1, q.2, .inl (Nat.le_refl _)⟩, fun i H v H' _ q y => ?_⟩
  · have h2 : i < ys.length := by omega
    exact ⟨xs, ys, xs[i], ys[i], q.1, q.2, by simp [hi], by simp [h2]⟩
  · obtain ⟨T, x, z, h1, h2, h3, h4, h5⟩ := y
    exact ⟨T, x, z, h1, h2, h3, h4 xs q.1, h5 ys q.2⟩

/-! ### lists of ints as data -/
section
variable {K : PySem.W.Frag} {H : Hp}
theorem dp_ints : ∀ ns : List Int, DpAll K H (ns.map V.int) (ns.map PyData.int)
  | [] => .nil
  | n :: ns => .cons (.int n) (dp_ints ns)
theorem lay_ints : ∀ ns : List Int, PyData.canLayAll0 (ns.map PyData.int) = true
  | [] => by simp [PyData.canLayAll0]
  | n :: ns => by simp [PyData.canLayAll0, PyData.canLay0, lay_ints ns]
theorem deep_ints : ∀ ns : List Int, PyData.depthAll (ns.map PyData.int) ≤ 1
  | [] => by simp [PyData.depthAll]
  | n :: ns => by
    have := deep_ints ns
    simp only [List.map_cons, PyData.depthAll, PyData.depth]
    omega
theorem shaped_ints (ns : List Int) : SeqAt.shaped (.list (ns.map PyData.int)) = true := by
  have h := deep_ints ns
  have h2 : PyData.depth (.list (ns.map PyData.int)) ≤ 64 := by
    simp only [PyData.depth]; omega
  show (PyData.canLay0 (.list (ns.map PyData.int)) && decide (PyData.depth (.list (ns.map PyData.int)) ≤ 64)) = true
  rw [Bool.and_eq_true]
  exact ⟨by simp only [PyData.canLay0]; exact lay_ints ns, decide_eq_true h2⟩
theorem eqv_ints_nil (ns : List Int) : PyData.eqv (.list (ns.map PyData.int)) (.list []) = ns.isEmpty := by
  cases ns <;> simp [PyData.eqv, PyData.eqvAll]
end
/-! ### rules with the written part told: what they ask hangs on no block's own things -/
section
variable {X : Cx} (K : PySem.W.Frag)
theorem kix_tup (e : X.K = K := by rfl) : IxR X (rIxT K) := by subst e; exact ix_tup
theorem kix_list (e : X.K = K := by rfl) : IxR X (rIxL K) := by subst e; exact ix_list
def rLenK : List V → Hp → VK → Prop := fun xs H Q => ∃ p ys, xs = [.ref p] ∧ (SqL K H p ys ∨ SqT K H p ys) ∧ Q (.int ys.length) H
theorem kcall_len (e : X.K = K := by rfl) : CallR X (.builtin "len") (rLenK K) := by subst e; exact call_len_seq
def rTupK : List V → Hp → VK → Prop := fun xs H Q => ∃ p ys, xs = [.ref p] ∧ ((SqL K H p ys ∧ ∀ l, H l = none → Q (.ref l) (upd H l (.tup ys))) ∨ (SqT K H p ys ∧ Q (.ref p) H))
theorem kcall_tuple (e : X.K = K := by rfl) : CallR X (.type "tuple") (rTupK K) := by subst e; exact call_tuple_of
def rLstK : List V → Hp → VK → Prop := fun xs H Q => ∃ p ys, xs = [.ref p] ∧ (SqL K H p ys ∨ SqT K H p ys) ∧ ∀ l, H l = none → Q (.ref l) (upd H l (.lst ys))
theorem kcall_list (e : X.K = K := by rfl) : CallR X (.type "list") (rLstK K) := by subst e; exact call_list_of
theorem kcall_isi (e : X.K = K := by rfl) : CallR X (.builtin "isinstance") (rIsi K) := by subst e; exact call_isi
theorem kcr_all (hc : X.calm = true := by rfl) (e : X.K = K := by rfl) : CallR X (.builtin "all") (rAll K) := by subst e; exact cr_all hc
theorem kop_eqD (hu : X.A.units + 64 < cLine) (e : X.K = K := by rfl) : OpR X (compareOp .Eq) (rEqD K) := by subst e; exact op_eqD hu
theorem kop_neD (hu : X.A.units + 64 < cLine) (e : X.K = K := by rfl) : OpR X (compareOp .NotEq) (rNeD K) := by subst e; exact op_neD hu
theorem kpi_tup {tg l : Expr} {tl : TE} (hl : PE X l tl) (e : X.K = K := by rfl) : PI X tg l (iTup K tl) := by subst e; exact pi_tup hl
theorem kpi_list {tg l : Expr} {tl : TE} (hl : PE X l tl) (e : X.K = K := by rfl) : PI X tg l (iList K tl) := by subst e; exact pi_list hl
theorem kpg_tup {es : List Expr} {k : Nat} {pos : Pos} {t : TGs} {n : Nat} (hc : X.calm = true) (h : PGs X es t) (hn : (assignEach es X.env).length = n := by rfl) (hst : (assignEach es X.env).findIdx? (·.1) = none := by rfl) (e : X.K = K := by rfl) : PG X (.Tuple es k pos) (gTup K n t) := by
  subst e; exact pg_tup hc h hn hst
theorem kpi_zipM {e1 e2 : Expr} {ta : TA} {p pos tpos : Pos} {elts : List Expr} {kk : Nat} (hg : Gl X "zip") (hm : X.mg "zip" = none) (ha : PA X [e1, e2] ta)
    (hs : starEach [e1, e2] X.env = (false, eval e1 X.env) :: starEach [e2] X.env := by rfl) (hpl : (backTo pos (starEach [e2] X.env)).any (·.1) = false := by rfl) (e : X.K = K := by rfl) :
    PI X (.Tuple elts kk tpos) (.Call (.Name "zip" p) [e1, e2] [] pos) (iZipM K ta) := by subst e; exact pi_zipM hg hm ha hs hpl
theorem kpi_zip {e1 e2 : Expr} {ta : TA} {p pos tpos : Pos} {elts : List Expr} {kk : Nat} (hg : Gl X "zip") (hm : X.mg "zip" = none) (ha : PA X [e1, e2] ta)
    (hs : starEach [e1, e2] X.env = (false, eval e1 X.env) :: starEach [e2] X.env := by rfl) (hpl : (backTo pos (starEach [e2] X.env)).any (·.1) = false := by rfl) (e : X.K = K := by rfl) :
    PI X (.Tuple elts kk tpos) (.Call (.Name "zip" p) [e1, e2] [] pos) (RZ.iZipA K ta) := by subst e; exact RZ.pi_zipA hg hm ha hs hpl
end
/-! ### a comprehension without tests -/
theorem lc_all {J : It} {n : Nat} {G : Hp → Prop} {Y : Nat → Hp → V → Hp → Prop} (w : Walk J n G Y) {g : TG} {te : TE} {vs : List Nat} {σ : L2.St} {H1 : Hp} {D : Addr} {Qd : Hp → Prop} (Pv : Nat → Hp → Prop) (h0 : Pv 0 (upd H1 D (.lst []))) (hG : ∀ i H, i ≤ n → Pv i H → G H)
    (hs : ∀ i x H H', i < n → Pv i H → Y i H x H' → g x (wipe σ vs) H' fun σ2 H2 => wipe σ2 vs = wipe σ vs ∧ te σ2 H2 fun y H4 => ∃ acc, H4 D = some (.lst acc) ∧ acc.length < sizeLine ∧ Pv (i + 1) (upd H4 D (.lst (acc ++ [y]))))
    (hd : ∀ H, Pv n H → Qd H) :
    ∃ W : Nat → Nat → Hp → Prop, (∃ m, W 0 m (upd H1 D (.lst []))) ∧ ∀ i m H, W i m H →
      (J.stop i H ∧ Qd H) ∨ (J.go i H ∧ ∃ Nx : Hp → Prop, (∀ H', Nx H' → ∃ m', m' < m ∧ W (i + 1) m' H') ∧ ∀ x H', J.yld i H x H' → g x (wipe σ vs) H' fun σ2 H2 => wipe σ2 vs = wipe σ vs ∧ tYes σ2 H2 fun b H3 =>
        if b = true then te σ2 H3 fun y H4 => ∃ acc, H4 D = some (.lst acc) ∧ acc.length < sizeLine ∧ Nx (upd H4 D (.lst (acc ++ [y]))) else Nx H3) := by
  refine lc_it w Pv h0 hG (fun i x H H' hi p y => ?_) hd
  have h := hs i x H H' hi p y
  refine Eq.mp (congrArg (g x (wipe σ vs) H') ?_) h
  funext σ2 H2
  simp only [tYes, if_true]
/-- nothing is kept but the values that came: the list holds f of each turn -/
theorem lc_acc {J : It} {n : Nat} {G : Hp → Prop} {Y : Nat → Hp → V → Hp → Prop} (w : Walk J n G Y) {g : TG} {te : TE} {vs : List Nat} {σ : L2.St} {H1 : Hp} {D : Addr} {Qd : Hp → Prop} (Pv : Nat → List V → Hp → Prop) (hn : n < sizeLine) (h0 : Pv 0 [] (upd H1 D (.lst []))) (hG : ∀ i acc H, i ≤ n → Pv i acc H → G H)
    (hs : ∀ i x acc H H', i < n → Pv i acc H → H D = some (.lst acc) → acc.length = i → Y i H x H' → g x (wipe σ vs) H' fun σ2 H2 => wipe σ2 vs = wipe σ vs ∧ te σ2 H2 fun y H4 => H4 D = some (.lst acc) ∧ Pv (i + 1) (acc ++ [y]) (upd H4 D (.lst (acc ++ [y]))))
    (mono : ∀ σ H (Q Q' : VK), (∀ v H1, Q v H1 → Q' v H1) → te σ H Q → te σ H Q') (gmono : ∀ x σ H (Q Q' : L2.St → Hp → Prop), (∀ σ1 H1, Q σ1 H1 → Q' σ1 H1) → g x σ H Q → g x σ H Q')
    (hd : ∀ acc H, Pv n acc H → H D = some (.lst acc) → acc.length = n → Qd H) :
    ∃ W : Nat → Nat → Hp → Prop, (∃ m, W 0 m (upd H1 D (.lst []))) ∧ ∀ i m H, W i m H →
      (J.stop i H ∧ Qd H) ∨ (J.go i H ∧ ∃ Nx : Hp → Prop, (∀ H', Nx H' → ∃ m', m' < m ∧ W (i + 1) m' H') ∧ ∀ x H', J.yld i H x H' → g x (wipe σ vs) H' fun σ2 H2 => wipe σ2 vs = wipe σ vs ∧ tYes σ2 H2 fun b H3 =>
        if b = true then te σ2 H3 fun y H4 => ∃ acc, H4 D = some (.lst acc) ∧ acc.length < sizeLine ∧ Nx (upd H4 D (.lst (acc ++ [y]))) else Nx H3) := by
  refine lc_all w (fun i H => ∃ acc, acc.length = i ∧ H D = some (.lst acc) ∧ Pv i acc H) ⟨[], rfl, upd_same, h0⟩ (fun i H hi ⟨acc, _, _, p⟩ => hG i acc H hi p) (fun i x H H' hi ⟨acc, l, e, p⟩ y => ?_) (fun H ⟨acc, l, e, p⟩ => hd acc H p e l)
  refine gmono _ _ _ _ _ (fun σ1 H2 ⟨a, b⟩ => ⟨a, mono _ _ _ _ (fun v H3 ⟨c, d⟩ => ⟨acc, c, by omega, acc ++ [v], by rw [List.length_append, l]; rfl, upd_same, d⟩) b⟩) (hs i x acc H H' hi p e l y)

/-! ### the end: where each def stands behind the top -/
/-- the name x holds the def st -/
def Here (K : PySem.W.Frag) (mg : Str → Option Value) (x : Str) (st : Stmt) : Prop := ∃ f fd, mg x = some (.ref f) ∧ Fun K x x st f fd
section
variable {P : Program} {w : World} {K : PySem.W.Frag} {mg : Str → Option Value} {base h : Heap}
theorem here (X : K.In h) (G : h.Ns mainGlobals mg) {x : Str} {st : Stmt} {f : Addr} {oc : Value} {od an : Option Addr} {osl : Array (Option Value)} {kV doc pm cdv ct : Value}
    (a : PySem.W.nsIn K mainGlobals x = some (some (.ref f)))
    (l : K.lookup f = some ⟨oc, od, .func (PySem.W.fnOf x x (defArgs st) (defBody st) (defScope st) .none kV doc pm an cdv ct), osl⟩)
    (c : PySem.W.codeIn K cdv x = true) (k : PySem.W.keepIn K (.ref f) = true) : Here K mg x st := ⟨f, _, PySem.W.mg_of X G a, fun_mk l c k⟩
theorem Here.toDef {x : Str} {st : Stmt} {k : Nat} {ps : List Str} {sp : Sp} (z : Here K mg x st) (ok : ∀ {f : Addr} {fd : FuncData}, Fun K x x st f fd → FnOk P w K mg base CX0 k f fd ps sp)
    (b : ∀ (kV doc pm : Value) (an : Option Addr) (cdv ct : Value) (us : List Value), us.length = ps.length → bindArgs (PySem.W.fnOf x x (defArgs st) (defBody st) (defScope st) .none kV doc pm an cdv ct) ⟨us, []⟩ = pure (ps.zip us)) : Def P w K mg base k x st ps sp := by
  obtain ⟨f, fd, hm, F⟩ := z
  exact ⟨f, fd, ok F, hm, F.kp, F.binds b, F⟩
theorem pair_mk (X : K.In h) (G : h.Ns mainGlobals mg) {x : Str} {a : Addr} {i j : Int} {t u : Tok} {dd : Option Addr} {n : Nat} {sl : Array (Option Value)}
    (h1 : PySem.W.nsIn K mainGlobals x = some (some (.ref a))) (h2 : K.lookup a = some ⟨.type "tuple", dd, .seq #[.int i t, .int j u] n, sl⟩) : ∃ a, mg x = some (.ref a) ∧ ∀ H, ITup K H a [.int i, .int j] :=
  ⟨a, PySem.W.mg_of X G h1, fun _ => .inr ⟨_, _, _, h2, rfl, rfl, by show 2 ≤ sizeLine; decide, .cons ⟨_, rfl⟩ (.cons ⟨_, rfl⟩ .nil)⟩⟩
end
end Ly

set_option linter.all false
set_option maxRecDepth 10000
/-! plain mathematics: ratios, sums of products, products of matrices -/
namespace Mt
theorem made_num {t b : Int} (hb : 0 < b) : t / ((Nat.gcd t.natAbs b.natAbs : Nat) : Int) = (Rat.divInt t b).num := by
  rw [Rat.num_divInt, Int.sign_eq_one_of_pos hb, Int.one_mul, Int.gcd_comm]; rfl
theorem made_den {t b : Int} (hb : 0 < b) : b / ((Nat.gcd t.natAbs b.natAbs : Nat) : Int) = ((Rat.divInt t b).den : Int) := by
  rw [Rat.den_divInt, if_neg (by omega), Int.gcd_comm]
  show b / ((Nat.gcd t.natAbs b.natAbs : Nat) : Int) = ((b.natAbs / Nat.gcd t.natAbs b.natAbs : Nat) : Int)
  have e : b = (b.natAbs : Int) := by omega
  rw [Int.natCast_ediv]
  congr 1
theorem gcd_pos {t b : Int} (hb : 0 < b) : (0 : Int) < ((Nat.gcd t.natAbs b.natAbs : Nat) : Int) := by
  have : 0 < Nat.gcd t.natAbs b.natAbs := Nat.gcd_pos_of_pos_right _ (by omega)
  omega
theorem gcd_le {t b : Int} (hb : 0 < b) : ((Nat.gcd t.natAbs b.natAbs : Nat) : Int).natAbs ≤ b.natAbs := by
  show Nat.gcd t.natAbs b.natAbs ≤ b.natAbs
  exact Nat.gcd_le_right _ (by omega)
theorem den_pos (q : Rat) : (0 : Int) < (q.den : Int) := by have := q.den_pos; omega
theorem cop (q : Rat) : Nat.gcd q.num.natAbs ((q.den : Int)).natAbs = 1 := q.reduced
theorem add_as (x y : Rat) : Rat.divInt (x.num * (y.den : Int) + y.num * (x.den : Int)) ((x.den : Int) * (y.den : Int)) = x + y := by
  have hx : (x.den : Int) ≠ 0 := by have := den_pos x; omega
  have hy : (y.den : Int) ≠ 0 := by have := den_pos y; omega
  rw [← Rat.divInt_add_divInt _ _ hx hy, Rat.num_divInt_den, Rat.num_divInt_den]
theorem mul_as (x y : Rat) : Rat.divInt (x.num * y.num) ((x.den : Int) * (y.den : Int)) = x * y := by
  rw [← Rat.divInt_mul_divInt, Rat.num_divInt_den, Rat.num_divInt_den]
theorem num_zero {q : Rat} (h : q.num = 0) : q = 0 := by
  have := Rat.num_divInt_den q
  rw [h] at this
  rw [← this]
  simp
/-- bounds of both parts -/
def Bd (n m : Nat) (q : Rat) : Prop := q.num.natAbs < 2 ^ n ∧ ((q.den : Int)).natAbs < 2 ^ m
theorem Bd.mono {n m n' m' : Nat} {q : Rat} (h : Bd n m q) (hn : n ≤ n') (hm : m ≤ m') : Bd n' m' q :=
  ⟨Nat.lt_of_lt_of_le h.1 (Nat.pow_le_pow_right (by decide) hn), Nat.lt_of_lt_of_le h.2 (Nat.pow_le_pow_right (by decide) hm)⟩
theorem bd_divInt {n m : Nat} {t b : Int} (hb : 0 < b) (ht : t.natAbs < 2 ^ n) (hm : b.natAbs < 2 ^ m) : Bd n m (Rat.divInt t b) := by
  refine ⟨?_, ?_⟩
  · rw [← made_num hb, Int.natAbs_ediv_of_dvd (Int.ofNat_dvd_left.mpr (Nat.gcd_dvd_left _ _))]
    exact Nat.lt_of_le_of_lt (Nat.div_le_self _ _) ht
  · rw [← made_den hb, Int.natAbs_ediv_of_dvd (Int.ofNat_dvd_left.mpr (Nat.gcd_dvd_right _ _))]
    exact Nat.lt_of_le_of_lt (Nat.div_le_self _ _) hm
theorem lt_mul {i j : Int} {a b : Nat} (ha : i.natAbs < 2 ^ a) (hb : j.natAbs < 2 ^ b) : (i * j).natAbs < 2 ^ (a + b) := by
  rw [Int.natAbs_mul, Nat.pow_add]
  exact Nat.mul_lt_mul'' ha hb
theorem lt_add {i j : Int} {a : Nat} (ha : i.natAbs < 2 ^ a) (hb : j.natAbs < 2 ^ a) : (i + j).natAbs < 2 ^ (a + 1) := by
  have := Int.natAbs_add_le i j
  rw [Nat.pow_succ]; omega
theorem lt_up {i : Int} {a b : Nat} (ha : i.natAbs < 2 ^ a) (h : a ≤ b) : i.natAbs < 2 ^ b := Nat.lt_of_lt_of_le ha (Nat.pow_le_pow_right (by decide) h)
theorem Bd.mul {n m n' m' : Nat} {x y : Rat} (h : Bd n m x) (k : Bd n' m' y) : Bd (n + n') (m + m') (x * y) := by
  rw [← mul_as]
  exact bd_divInt (Int.mul_pos (den_pos x) (den_pos y)) (lt_mul h.1 k.1) (lt_mul h.2 k.2)
theorem Bd.add {n m n' m' N : Nat} {x y : Rat} (h : Bd n m x) (k : Bd n' m' y) (h1 : n + m' ≤ N) (h2 : n' + m ≤ N) : Bd (N + 1) (m + m') (x + y) := by
  rw [← add_as]
  exact bd_divInt (Int.mul_pos (den_pos x) (den_pos y)) (lt_add (lt_up (lt_mul h.1 k.2) h1) (lt_up (lt_mul k.1 h.2) h2)) (lt_mul h.2 k.2)
theorem bd_zero {n m : Nat} (hm : 1 ≤ m) : Bd n m 0 := by
  refine ⟨?_, ?_⟩
  · show 0 < 2 ^ n
    exact Nat.two_pow_pos n
  · show 1 < 2 ^ m
    exact Nat.lt_of_lt_of_le (by decide : 1 < 2 ^ 1) (Nat.pow_le_pow_right (by decide) hm)

/-! ### sums of products -/
def dot : List Rat → List Rat → Rat
  | x :: xs, y :: ys => x * y + dot xs ys
  | _, _ => 0
theorem dot_nil (ys : List Rat) : dot [] ys = 0 := by cases ys <;> rfl
theorem dot_nil2 (xs : List Rat) : dot xs [] = 0 := by cases xs <;> rfl
theorem dot_take : ∀ {xs ys : List Rat} {i : Nat} {x y : Rat}, xs[i]? = some x → ys[i]? = some y → dot (xs.take (i + 1)) (ys.take (i + 1)) = dot (xs.take i) (ys.take i) + x * y
  | a :: xs, b :: ys, 0, x, y, h, k => by
    simp at h k; subst h k
    simp [dot]; grind
  | a :: xs, b :: ys, i + 1, x, y, h, k => by
    have ih := dot_take (xs := xs) (ys := ys) (i := i) (by simpa using h) (by simpa using k)
    simp only [List.take_succ_cons, dot] at ih ⊢
    rw [ih]; grind
  | [], _, _, _, _, h, _ => by simp at h
  | _ :: _, [], _, _, _, _, k => by simp at k
/-- a row and a multiple of another one -/
def addS (acc : List Rat) (w : Rat) (r : List Rat) : List Rat := List.zipWith (fun o t => o + w * t) acc r
/-- the sum of multiples of rows, ahead of it acc -/
def comb : List Rat → List (List Rat) → List Rat → List Rat
  | w :: ws, r :: rs, acc => comb ws rs (addS acc w r)
  | _, _, acc => acc
theorem addS_length {acc r : List Rat} {w : Rat} (h : r.length = acc.length) : (addS acc w r).length = acc.length := by
  unfold addS; rw [List.length_zipWith]; omega
theorem addS_zero : ∀ {acc r : List Rat}, r.length = acc.length → addS acc 0 r = acc
  | [], [], _ => rfl
  | a :: acc, b :: r, h => by
    have ih := addS_zero (acc := acc) (r := r) (by simpa using h)
    show (a + 0 * b) :: addS acc 0 r = a :: acc
    rw [ih, Rat.zero_mul, Rat.add_zero]
  | [], _ :: _, h => by simp at h
  | _ :: _, [], h => by simp at h
theorem addS_get {acc r : List Rat} {w : Rat} {k : Nat} {a b : Rat} (ha : acc[k]? = some a) (hb : r[k]? = some b) : (addS acc w r)[k]? = some (a + w * b) := by
  unfold addS; rw [List.getElem?_zipWith, ha, hb]
theorem comb_length : ∀ {ws : List Rat} {rs : List (List Rat)} {acc : List Rat}, (∀ r ∈ rs, r.length = acc.length) → (comb ws rs acc).length = acc.length
  | [], _, _, _ => by simp [comb]
  | _ :: _, [], _, _ => by simp [comb]
  | w :: ws, r :: rs, acc, h => by
    have h0 := h r (List.mem_cons_self ..)
    have e := addS_length (w := w) h0
    show (comb ws rs (addS acc w r)).length = acc.length
    rw [comb_length (fun q hq => by rw [e]; exact h q (List.mem_cons_of_mem _ hq)), e]
/-- the k-th column -/
def col (rs : List (List Rat)) (k : Nat) : List Rat := rs.map fun r => r.getD k 0
theorem comb_get : ∀ {ws : List Rat} {rs : List (List Rat)} {acc : List Rat} {k : Nat} {a : Rat}, (∀ r ∈ rs, r.length = acc.length) → acc[k]? = some a → (comb ws rs acc)[k]? = some (a + dot ws (col rs k))
  | [], rs, acc, k, a, _, ha => by
    rw [dot_nil, Rat.add_zero]; simpa [comb] using ha
  | _ :: _, [], acc, k, a, _, ha => by
    show acc[k]? = some (a + dot _ [])
    rw [dot_nil2, Rat.add_zero]; exact ha
  | w :: ws, r :: rs, acc, k, a, h, ha => by
    have h0 := h r (List.mem_cons_self ..)
    have hk : k < r.length := by rw [h0]; exact (List.getElem?_eq_some_iff.mp ha).1
    have hr : r[k]? = some r[k] := List.getElem?_eq_getElem hk
    have e := addS_length (w := w) h0
    have ih := comb_get (ws := ws) (rs := rs) (acc := addS acc w r) (k := k) (fun q hq => by rw [e]; exact h q (List.mem_cons_of_mem _ hq)) (addS_get (w := w) ha hr)
    show (comb ws rs (addS acc w r))[k]? = some (a + (w * r.getD k 0 + dot ws (col rs k)))
    rw [ih, List.getD_eq_getElem?_getD, hr]
    show some (a + w * r[k] + dot ws (col rs k)) = some (a + (w * r[k] + dot ws (col rs k)))
    rw [Rat.add_assoc]
theorem comb_snoc : ∀ {ws : List Rat} {rs : List (List Rat)} {acc : List Rat} {w : Rat} {r : List Rat}, ws.length = rs.length → comb (ws ++ [w]) (rs ++ [r]) acc = addS (comb ws rs acc) w r
  | [], [], _, _, _, _ => rfl
  | a :: ws, b :: rs, acc, w, r, h => by
    show comb (ws ++ [w]) (rs ++ [r]) (addS acc a b) = addS (comb ws rs (addS acc a b)) w r
    exact comb_snoc (by simpa using h)
  | [], _ :: _, _, _, _, h => by simp at h
  | _ :: _, [], _, _, _, h => by simp at h
/-- one row times a matrix whose rows have n entries -/
def vm (n : Nat) (r : List Rat) (B : List (List Rat)) : List Rat := comb r B (List.replicate n 0)
theorem vm_as {n : Nat} {r : List Rat} {B : List (List Rat)} (h : ∀ b ∈ B, b.length = n) : vm n r B = (List.range n).map fun k => dot r (col B k) := by
  have h' : ∀ b ∈ B, b.length = (List.replicate n (0 : Rat)).length := fun b hb => by rw [h b hb, List.length_replicate]
  apply List.ext_getElem?
  intro k
  by_cases hk : k < n
  · have e : (List.replicate n (0 : Rat))[k]? = some 0 := by rw [List.getElem?_replicate, if_pos hk]
    have := comb_get (ws := r) h' e
    unfold vm
    rw [this, List.getElem?_map, List.getElem?_range hk, Rat.zero_add]
    rfl
  · have l1 : (vm n r B).length = n := by unfold vm; rw [comb_length h', List.length_replicate]
    rw [List.getElem?_eq_none (by omega), List.getElem?_eq_none (by simp; omega)]
theorem vm_length {n : Nat} {r : List Rat} {B : List (List Rat)} (h : ∀ b ∈ B, b.length = n) : (vm n r B).length = n := by
  rw [vm_as h]; simp
def mm (n : Nat) (A B : List (List Rat)) : List (List Rat) := A.map fun r => vm n r B
theorem dot_addS : ∀ {acc b c : List Rat} {w : Rat}, b.length = acc.length → dot (addS acc w b) c = dot acc c + w * dot b c
  | [], [], c, w, _ => by
    show dot [] c = dot [] c + w * dot [] c
    rw [dot_nil]; grind
  | x :: acc, y :: b, [], w, _ => by
    rw [dot_nil2, dot_nil2, dot_nil2]; grind
  | x :: acc, y :: b, z :: c, w, h => by
    have ih := dot_addS (acc := acc) (b := b) (c := c) (w := w) (by simpa using h)
    show (x + w * y) * z + dot (addS acc w b) c = x * z + dot acc c + w * (y * z + dot b c)
    rw [ih]; grind
  | [], _ :: _, _, _, h => by simp at h
  | _ :: _, [], _, _, h => by simp at h
theorem dot_comb : ∀ {ws : List Rat} {rs : List (List Rat)} {acc c : List Rat}, (∀ r ∈ rs, r.length = acc.length) → dot (comb ws rs acc) c = dot acc c + dot ws (rs.map fun r => dot r c)
  | [], rs, acc, c, _ => by
    rw [dot_nil, Rat.add_zero]; simp [comb]
  | _ :: _, [], acc, c, _ => by
    show dot acc c = dot acc c + dot _ []
    rw [dot_nil2, Rat.add_zero]
  | w :: ws, r :: rs, acc, c, h => by
    have h0 := h r (List.mem_cons_self ..)
    have e := addS_length (w := w) h0
    have ih := dot_comb (ws := ws) (rs := rs) (acc := addS acc w r) (c := c) (fun q hq => by rw [e]; exact h q (List.mem_cons_of_mem _ hq))
    show dot (comb ws rs (addS acc w r)) c = dot acc c + (w * dot r c + dot ws (rs.map fun r => dot r c))
    rw [ih, dot_addS h0, Rat.add_assoc]
theorem dot_zeros : ∀ {n : Nat} {c : List Rat}, dot (List.replicate n 0) c = 0
  | 0, c => dot_nil c
  | n + 1, [] => dot_nil2 _
  | n + 1, z :: c => by
    rw [List.replicate_succ]
    show 0 * z + dot (List.replicate n 0) c = 0
    rw [dot_zeros, Rat.zero_mul, Rat.add_zero]
theorem dot_vm {n : Nat} {r c : List Rat} {B : List (List Rat)} (h : ∀ b ∈ B, b.length = n) : dot (vm n r B) c = dot r (B.map fun b => dot b c) := by
  unfold vm
  rw [dot_comb (fun b hb => by rw [h b hb, List.length_replicate]), dot_zeros, Rat.zero_add]
/-- of three matrices it is the same whichever two come first -/
theorem mm_assoc {n m : Nat} {A B C : List (List Rat)} (hB : ∀ b ∈ B, b.length = n) (hC : ∀ c ∈ C, c.length = m) : mm m (mm n A B) C = mm m A (mm m B C) := by
  unfold mm
  rw [List.map_map]
  refine List.map_congr_left fun r _ => ?_
  show vm m (vm n r B) C = vm m r (B.map fun b => vm m b C)
  have hM : ∀ x ∈ B.map (fun b => vm m b C), x.length = m := fun x hx => by
    obtain ⟨b', _, rfl⟩ := List.mem_map.mp hx
    exact vm_length hC
  rw [vm_as hM, vm_as (r := vm n r B) hC]
  refine List.map_congr_left fun k hk => ?_
  have hk' : k < m := List.mem_range.mp hk
  rw [dot_vm hB]
  congr 1
  unfold col
  rw [List.map_map]
  refine List.map_congr_left fun b _ => ?_
  show dot b (C.map fun r => r.getD k 0) = (vm m b C).getD k 0
  rw [vm_as hC, List.getD_eq_getElem?_getD, List.getElem?_map, List.getElem?_range hk']
  rfl
/-! ### bounds of what comes -/
theorem bd_dot {N M : Nat} : ∀ {i : Nat} {xs ys : List Rat}, (∀ x ∈ xs, ∀ y ∈ ys, Bd N M (x * y)) → xs.length ≤ i → Bd (N + i * (M + 2)) (i * M + 1) (dot xs ys)
  | i, [], ys, _, _ => by rw [dot_nil]; exact bd_zero (by omega)
  | i, _ :: _, [], _, _ => by rw [dot_nil2]; exact bd_zero (by omega)
  | 0, _ :: _, _ :: _, _, h => by simp at h
  | i + 1, x :: xs, y :: ys, h, hl => by
    have ih := bd_dot (i := i) (xs := xs) (ys := ys) (fun a ha b hb => h a (List.mem_cons_of_mem _ ha) b (List.mem_cons_of_mem _ hb)) (by simpa using hl)
    have h0 := h x (List.mem_cons_self ..) y (List.mem_cons_self ..)
    have e1 : (i + 1) * (M + 2) = i * M + 2 * i + M + 2 := by grind
    have e2 : (i + 1) * M = i * M + M := by grind
    have e3 : i * (M + 2) = i * M + 2 * i := by grind
    show Bd _ _ (x * y + dot xs ys)
    have q := Bd.add h0 ih (N := N + i * M + 2 * i + M + 1) (by omega) (by rw [e3]; omega)
    refine q.mono (by rw [e1]; omega) (by rw [e2]; omega)
theorem bd_vm {n : Nat} {ws : List Rat} {B : List (List Rat)} (h : ∀ b ∈ B, b.length = n) (hw : ∀ x ∈ ws, Bd 400 40 x) (hB : ∀ b ∈ B, ∀ y ∈ b, Bd 400 40 y) (hl : ws.length ≤ 48) : ∀ q ∈ vm n ws B, Bd 5000 4000 q := by
  intro q hq
  rw [vm_as h] at hq
  obtain ⟨k, hk, rfl⟩ := List.mem_map.mp hq
  have hk' := List.mem_range.mp hk
  refine (bd_dot (N := 800) (M := 80) (i := 48) (fun x hx y hy => ?_) hl).mono (by decide) (by decide)
  obtain ⟨b, hb, rfl⟩ := List.mem_map.mp hy
  have e : b.getD k 0 ∈ b := by
    have hkb : k < b.length := by rw [h b hb]; exact hk'
    rw [List.getD_eq_getElem?_getD, List.getElem?_eq_getElem hkb]
    exact List.getElem_mem hkb
  exact (Bd.mul (hw x hx) (hB b hb _ e)).mono (by decide) (by decide)
theorem vm_step {n i : Nat} {ws : List Rat} {B : List (List Rat)} {w : Rat} {r : List Rat} (hl : ws.length = B.length) (hw : ws[i]? = some w) (hr : B[i]? = some r) : vm n (ws.take (i + 1)) (B.take (i + 1)) = addS (vm n (ws.take i) (B.take i)) w r := by
  unfold vm
  rw [List.take_add_one, List.take_add_one, hw, hr]
  exact comb_snoc (by rw [List.length_take, List.length_take, hl])
end Mt

set_option Elab.async false
set_option linter.all false
set_option maxRecDepth 100000
/-! ratios, vectors and matrices as data -/
namespace Ly
open PySem PySem.Spec PyProof.Rows L2 Mt
def rD (q : Rat) : PyData := .tuple [.int q.num, .int (q.den : Int)]
def vD (r : List Rat) : PyData := .tuple (r.map rD)
def mD (A : List (List Rat)) : PyData := .tuple (A.map vD)
section
variable {K : PySem.W.Frag} {H H' : Hp} {v : V}
theorem ity {a : Addr} {xs : List V} (h : ITup K H a xs) : TyX K H (.ref a) (.type "tuple") := by
  rcases h with h | ⟨o, its, n, hk, hc, _⟩
  · exact .base (.tup h)
  · exact .kTuple hk hc
theorem rat_inv {q : Rat} (h : Im K H v (rD q)) : ∃ p, v = .ref p ∧ ITup K H p [.int q.num, .int (q.den : Int)] := by
  obtain ⟨a, xs, rfl, h1, h2⟩ := h.tuple_inv
  obtain ⟨x, r, rfl, h3, h4⟩ := h2.cons_inv
  obtain ⟨y, r', rfl, h5, h6⟩ := h4.cons_inv
  rw [h6.nil_inv, h3.int_inv, h5.int_inv] at h1
  exact ⟨a, rfl, h1⟩
theorem rat_mk {q : Rat} {p : Addr} (h : ITup K H p [.int q.num, .int (q.den : Int)]) : Im K H (.ref p) (rD q) := .tup h (.cons (.int _) (.cons (.int _) .nil))
theorem vec_inv {r : List Rat} (h : Im K H v (vD r)) : ∃ p xs, v = .ref p ∧ ITup K H p xs ∧ ImAll K H xs (r.map rD) := h.tuple_inv
theorem mat_inv {A : List (List Rat)} (h : Im K H v (mD A)) : ∃ p xs, v = .ref p ∧ ITup K H p xs ∧ ImAll K H xs (A.map vD) := h.tuple_inv
theorem all_get {α : Type} {f : α → PyData} {xs : List V} {l : List α} {i : Nat} {x : V} (h : ImAll K H xs (l.map f)) (e : xs[i]? = some x) : ∃ a, l[i]? = some a ∧ Im K H x (f a) := by
  obtain ⟨d, h1, h2⟩ := h.getV e
  rw [List.getElem?_map] at h1
  cases hl : l[i]? with
  | none => rw [hl] at h1; simp at h1
  | some a =>
    rw [hl] at h1
    have : f a = d := by simpa using h1
    subst this
    exact ⟨a, rfl, h2⟩
theorem all_at {α : Type} {f : α → PyData} {xs : List V} {l : List α} {i : Nat} {a : α} (h : ImAll K H xs (l.map f)) (e : l[i]? = some a) : ∃ x, xs[i]? = some x ∧ Im K H x (f a) := h.get (by rw [List.getElem?_map, e]; rfl)
theorem all_len {α : Type} {f : α → PyData} {xs : List V} {l : List α} (h : ImAll K H xs (l.map f)) : xs.length = l.length := by rw [h.length, List.length_map]
theorem all_rep {α : Type} {f : α → PyData} {x : V} {a : α} (h : Im K H x (f a)) : ∀ n : Nat, ImAll K H (List.replicate n x) ((List.replicate n a).map f)
  | 0 => .nil
  | n + 1 => by
    rw [List.replicate_succ, List.replicate_succ, List.map_cons]
    exact .cons h (all_rep h n)
theorem flat1 {x : V} : ∀ n : Nat, (List.replicate n [x]).flatten = List.replicate n x
  | 0 => rfl
  | n + 1 => by
    rw [List.replicate_succ, List.flatten_cons, flat1 n]; rfl
/-- the parts so far, one more -/
theorem all_snoc {α : Type} {f : α → PyData} {xs : List V} {l : List α} {i : Nat} {a : α} {x : V} (h : ImAll K H xs ((l.take i).map f)) (e : l[i]? = some a) (r : Im K H x (f a)) : ImAll K H (xs ++ [x]) ((l.take (i + 1)).map f) := by
  rw [List.take_add_one, e, List.map_append]
  exact h.snoc r
end
end Ly

set_option linter.all false
/-! determinants by rows, as much of them as bounds the entries of reduced rows -/
namespace Dt
/-- the columns' signs by turns: what a row s and the minors F of the others make -/
def X {R : Type} [Zero R] [Mul R] [Sub R] (F : List (Nat → R) → R) (s : Nat) : List (Nat → R) → List (Nat → R) → R
  | _, [] => 0
  | pre, c :: post => c s * F (pre ++ post) - X F s (pre ++ [c]) post
def D {R : Type} [Zero R] [One R] [Mul R] [Sub R] : Nat → Nat → List (Nat → R) → R
  | 0, _, _ => 1
  | k + 1, s, cols => X (D k (s + 1)) s [] cols
abbrev Col := Nat → Rat
/-- linear at each place, upon lists of length k -/
def Lin (k : Nat) (F : List Col → Rat) : Prop := ∀ (l1 : List Col) (x : Col) (a : Rat) (y : Col) (l2 : List Col), l1.length + 1 + l2.length = k → F (l1 ++ (fun i => x i + a * y i) :: l2) = F (l1 ++ x :: l2) + a * F (l1 ++ y :: l2)
def Alt (k : Nat) (F : List Col → Rat) : Prop := ∀ (l1 : List Col) (x : Col) (l2 : List Col), l1.length + 2 + l2.length = k → F (l1 ++ x :: x :: l2) = 0
theorem X_lin_pre {k s : Nat} {F : List Col → Rat} (h : Lin k F) (x : Col) (a : Rat) (y : Col) (l1 : List Col) : ∀ (post l2 : List Col), l1.length + 1 + l2.length + post.length = k + 1 →
    X F s (l1 ++ (fun i => x i + a * y i) :: l2) post = X F s (l1 ++ x :: l2) post + a * X F s (l1 ++ y :: l2) post
  | [], l2, _ => by simp only [X]; grind
  | c :: post, l2, hl => by
    have ih := X_lin_pre (s := s) h x a y l1 post (l2 ++ [c]) (by simp at hl ⊢; omega)
    have e := h l1 x a y (l2 ++ post) (by simp at hl ⊢; omega)
    simp only [X, List.append_assoc, List.cons_append] at ih e ⊢
    rw [ih, e]; grind
theorem X_lin_post {k s : Nat} {F : List Col → Rat} (h : Lin k F) (x : Col) (a : Rat) (y : Col) (l2 : List Col) : ∀ (l1 pre : List Col), pre.length + l1.length + 1 + l2.length = k + 1 →
    X F s pre (l1 ++ (fun i => x i + a * y i) :: l2) = X F s pre (l1 ++ x :: l2) + a * X F s pre (l1 ++ y :: l2)
  | [], pre, hl => by
    have e := X_lin_pre (s := s) h x a y pre l2 [] (by simp at hl ⊢; omega)
    simp only [X, List.nil_append]
    rw [e]; grind
  | c :: l1, pre, hl => by
    have ih := X_lin_post (s := s) h x a y l2 l1 (pre ++ [c]) (by simp at hl ⊢; omega)
    have e := h (pre ++ l1) x a y l2 (by simp at hl ⊢; omega)
    simp only [X, List.append_assoc, List.cons_append] at ih e ⊢
    rw [ih, e]; grind
theorem X_alt_pre {k s : Nat} {F : List Col → Rat} (h : Alt k F) (x : Col) (l1 : List Col) : ∀ (post l2 : List Col), l1.length + 2 + l2.length + post.length = k + 1 → X F s (l1 ++ x :: x :: l2) post = 0
  | [], _, _ => rfl
  | c :: post, l2, hl => by
    have ih := X_alt_pre (s := s) h x l1 post (l2 ++ [c]) (by simp at hl ⊢; omega)
    have e := h l1 x (l2 ++ post) (by simp at hl ⊢; omega)
    simp only [X, List.append_assoc, List.cons_append] at ih e ⊢
    rw [ih, e]; grind
theorem X_alt_post {k s : Nat} {F : List Col → Rat} (h : Alt k F) (x : Col) (l2 : List Col) : ∀ (l1 pre : List Col), pre.length + l1.length + 2 + l2.length = k + 1 → X F s pre (l1 ++ x :: x :: l2) = 0
  | [], pre, hl => by
    have e := X_alt_pre (s := s) h x pre l2 [] (by simp at hl ⊢; omega)
    simp only [X, List.append_assoc, List.cons_append, List.nil_append] at e ⊢
    rw [e]; grind
  | c :: l1, pre, hl => by
    have ih := X_alt_post (s := s) h x l2 l1 (pre ++ [c]) (by simp at hl ⊢; omega)
    have e := h (pre ++ l1) x l2 (by simp at hl ⊢; omega)
    simp only [X, List.append_assoc, List.cons_append] at ih e ⊢
    rw [ih, e]; grind
theorem D_lin : ∀ (k s : Nat), Lin k (D k s)
  | 0, _ => fun _ _ _ _ _ h => by omega
  | k + 1, s => fun l1 x a y l2 h => X_lin_post (D_lin k (s + 1)) x a y l2 l1 [] (by simpa using h)
theorem D_alt : ∀ (k s : Nat), Alt k (D k s)
  | 0, _ => fun _ _ _ h => by omega
  | k + 1, s => fun l1 x l2 h => X_alt_post (D_alt k (s + 1)) x l2 l1 [] (by simpa using h)
theorem swap {k : Nat} {F : List Col → Rat} (h : Lin k F) (g : Alt k F) (l1 : List Col) (x y : Col) (l2 : List Col) (hl : l1.length + 2 + l2.length = k) : F (l1 ++ x :: y :: l2) = - F (l1 ++ y :: x :: l2) := by
  have e1 := g l1 (fun i => x i + 1 * y i) l2 hl
  have e2 := h l1 x 1 y ((fun i => x i + 1 * y i) :: l2) (by simp; omega)
  have e3 := h (l1 ++ [x]) x 1 y l2 (by simp; omega)
  have e4 := h (l1 ++ [y]) x 1 y l2 (by simp; omega)
  have e5 := g l1 x l2 hl
  have e6 := g l1 y l2 hl
  simp only [List.append_assoc, List.cons_append, List.nil_append] at e3 e4
  rw [e2, e3, e4, e5, e6] at e1
  grind
/-- a column that stands twice -/
theorem twice {k : Nat} {F : List Col → Rat} (h : Lin k F) (g : Alt k F) (x : Col) (l3 : List Col) : ∀ (l2 l1 : List Col), l1.length + 1 + l2.length + 1 + l3.length = k → F (l1 ++ x :: (l2 ++ x :: l3)) = 0
  | [], l1, hl => g l1 x l3 (by simp at hl; omega)
  | y :: l2, l1, hl => by
    have e := swap h g l1 x y (l2 ++ x :: l3) (by simp at hl ⊢; omega)
    have ih := twice h g x l3 l2 (l1 ++ [y]) (by simp at hl ⊢; omega)
    simp only [List.append_assoc, List.cons_append, List.nil_append] at ih e ⊢
    rw [e, ih]; grind
theorem zero_col {k : Nat} {F : List Col → Rat} (h : Lin k F) (l1 l2 : List Col) (hl : l1.length + 1 + l2.length = k) : F (l1 ++ (fun _ => (0 : Rat)) :: l2) = 0 := by
  have e := h l1 (fun _ => 0) 1 (fun _ => 0) l2 hl
  have e2 : (fun i : Nat => (0 : Rat) + 1 * 0) = fun _ => 0 := by funext i; grind
  rw [e2] at e
  grind
/-- a sum of multiples of columns -/
def mix : List (Rat × Col) → Col
  | [] => fun _ => 0
  | (a, c) :: r => fun i => mix r i + a * c i
theorem D_mix {k : Nat} {F : List Col → Rat} (h : Lin k F) (l1 l2 : List Col) (hl : l1.length + 1 + l2.length = k) : ∀ hc : List (Rat × Col), F (l1 ++ mix hc :: l2) = (hc.map fun p => p.1 * F (l1 ++ p.2 :: l2)).sum
  | [] => by
    show F (l1 ++ (fun _ => (0 : Rat)) :: l2) = _
    rw [zero_col h l1 l2 hl]; rfl
  | (a, c) :: r => by
    have ih := D_mix h l1 l2 hl r
    have e := h l1 (mix r) a c l2 hl
    show F (l1 ++ (fun i => mix r i + a * c i) :: l2) = _
    rw [e, ih, List.map_cons, List.sum_cons]; grind
/-- Cramer: the column that is a mix of the columns themselves -/
theorem cramer {k : Nat} {F : List Col → Rat} (h : Lin k F) (g : Alt k F) (h1 h2 : List (Rat × Col)) (a : Rat) (c : Col) (hl : h1.length + 1 + h2.length = k) :
    F (h1.map (·.2) ++ mix (h1 ++ (a, c) :: h2) :: h2.map (·.2)) = a * F (h1.map (·.2) ++ c :: h2.map (·.2)) := by
  rw [D_mix h _ _ (by simpa using hl), List.map_append, List.map_cons, List.sum_append, List.sum_cons]
  have z : ∀ l : List (Rat × Col), (∀ p ∈ l, F (h1.map (·.2) ++ p.2 :: h2.map (·.2)) = 0) → (l.map fun p => p.1 * F (h1.map (·.2) ++ p.2 :: h2.map (·.2))).sum = 0 := by
    intro l
    induction l with
    | nil => intro _; rfl
    | cons p r ih =>
      intro hp
      rw [List.map_cons, List.sum_cons, ih (fun q hq => hp q (List.mem_cons_of_mem _ hq)), hp p (List.mem_cons_self ..)]; grind
  have z1 := z h1 (fun p hp => by
    obtain ⟨u, v, e⟩ := List.append_of_mem hp
    rw [e] at hl
    rw [e, List.map_append, List.map_cons, List.append_assoc, List.cons_append]
    exact twice h g p.2 (h2.map (·.2)) (v.map (·.2)) (u.map (·.2)) (by simp at hl ⊢; omega))
  have z2 := z h2 (fun p hp => by
    obtain ⟨u, v, e⟩ := List.append_of_mem hp
    rw [e] at hl
    rw [e, List.map_append, List.map_cons]
    exact twice h g p.2 (v.map (·.2)) (u.map (·.2)) (h1.map (·.2)) (by simp at hl ⊢; omega))
  rw [z1, z2]; grind
/-- a last column that has something in the first row alone -/
theorem X_last {k s : Nat} {F : List Col → Rat} {e : Col} (z : ∀ l1 l2 : List Col, l1.length + 1 + l2.length = k → F (l1 ++ e :: l2) = 0) : ∀ (post pre : List Col), pre.length + post.length = k →
    X F s pre (post ++ [e]) = e s * F (pre ++ post) ∨ X F s pre (post ++ [e]) = - (e s * F (pre ++ post))
  | [], pre, _ => .inl (by simp only [X, List.nil_append]; grind)
  | c :: post, pre, hl => by
    have ih := X_last (s := s) z post (pre ++ [c]) (by simp at hl ⊢; omega)
    have e0 := z (pre ++ post) [] (by simp at hl ⊢; omega)
    simp only [List.append_assoc, List.cons_append, List.nil_append] at ih e0
    simp only [X, List.cons_append]
    rw [e0]
    rcases ih with h | h
    · right; rw [h]; grind
    · left; rw [h]; grind
/-! ### wholes -/
def up (c : Nat → Int) : Col := fun i => (c i : Rat)
theorem X_cast {F : List (Nat → Int) → Int} {G : List Col → Rat} (h : ∀ l, G (l.map up) = ((F l : Int) : Rat)) (s : Nat) : ∀ (post pre : List (Nat → Int)), X G s (pre.map up) (post.map up) = ((X F s pre post : Int) : Rat)
  | [], _ => by simp [X]
  | c :: post, pre => by
    have ih := X_cast h s post (pre ++ [c])
    have e := h (pre ++ post)
    simp only [List.map_append, List.map_cons, List.map_nil] at ih e
    simp only [X, List.map_cons, ih, e, up]
    rw [Rat.intCast_sub, Rat.intCast_mul]
theorem D_cast : ∀ (k s : Nat) (l : List (Nat → Int)), D k s (l.map up) = ((D k s l : Int) : Rat)
  | 0, _, _ => by simp [D]
  | k + 1, s, l => X_cast (fun l => D_cast k (s + 1) l) s l []
/-- the rows' sums of absolute values are at most A -/
def Small (A : Nat) (l : List (Nat → Int)) : Prop := ∀ i, (l.map fun c => (c i).natAbs).sum ≤ A
theorem Small.drop {A : Nat} {pre post : List (Nat → Int)} {c : Nat → Int} (h : Small A (pre ++ c :: post)) : Small A (pre ++ post) := fun i => by
  have := h i
  simp only [List.map_append, List.map_cons, List.sum_append, List.sum_cons] at this ⊢
  omega
theorem X_le {F : List (Nat → Int) → Int} {s A B : Nat} (h : ∀ l, Small A l → (F l).natAbs ≤ B) : ∀ (post pre : List (Nat → Int)), Small A (pre ++ post) → (X F s pre post).natAbs ≤ (post.map fun c => (c s).natAbs).sum * B
  | [], _, _ => by simp [X]
  | c :: post, pre, hs => by
    have ih := X_le (s := s) h post (pre ++ [c]) (by simpa using hs)
    have h1 := h (pre ++ post) hs.drop
    simp only [X, List.map_cons, List.sum_cons]
    have e1 : (c s * F (pre ++ post)).natAbs ≤ (c s).natAbs * B := by rw [Int.natAbs_mul]; exact Nat.mul_le_mul_left _ h1
    have e2 := Int.natAbs_sub_le (c s * F (pre ++ post)) (X F s (pre ++ [c]) post)
    rw [Nat.add_mul]
    omega
theorem D_le {A : Nat} : ∀ (k s : Nat) (l : List (Nat → Int)), Small A l → (D k s l).natAbs ≤ A ^ k
  | 0, _, _, _ => by simp [D]
  | k + 1, s, l, h => by
    have e := X_le (F := D k (s + 1)) (s := s) (A := A) (B := A ^ k) (fun l hl => D_le k (s + 1) l hl) l [] h
    have hs := h s
    show (X (D k (s + 1)) s [] l).natAbs ≤ A ^ (k + 1)
    rw [Nat.pow_succ, Nat.mul_comm]
    exact Nat.le_trans e (Nat.mul_le_mul_right _ hs)
end Dt

set_option linter.all false
set_option maxRecDepth 10000
/-! elimination: reduced rows, their bounds, what they tell -/
namespace El
open Mt Dt
abbrev Fn := Nat → Rat
/-- a sum over the held rows -/
def over (held : List (Nat × Fn)) (f : Nat × Fn → Rat) : Rat := (held.map f).sum
theorem over_nil (f : Nat × Fn → Rat) : over [] f = 0 := rfl
theorem over_cons (x : Nat × Fn) (h : List (Nat × Fn)) (f : Nat × Fn → Rat) : over (x :: h) f = f x + over h f := by
  unfold over; rw [List.map_cons, List.sum_cons]
theorem over_append (h k : List (Nat × Fn)) (f : Nat × Fn → Rat) : over (h ++ k) f = over h f + over k f := by
  unfold over; rw [List.map_append, List.sum_append]
theorem over_congr {h : List (Nat × Fn)} {f g : Nat × Fn → Rat} (e : ∀ x ∈ h, f x = g x) : over h f = over h g := by
  unfold over; rw [List.map_congr_left e]
theorem over_map (h : List (Nat × Fn)) (m : Nat × Fn → Nat × Fn) (f : Nat × Fn → Rat) : over (h.map m) f = over h fun x => f (m x) := by
  unfold over; rw [List.map_map]; rfl
theorem over_mul (h : List (Nat × Fn)) (a : Rat) (f : Nat × Fn → Rat) : over h (fun x => f x * a) = over h f * a := by
  induction h with
  | nil => rw [over_nil, over_nil, Rat.zero_mul]
  | cons x h ih => rw [over_cons, over_cons, ih]; grind
theorem over_add (h : List (Nat × Fn)) (f g : Nat × Fn → Rat) : over h (fun x => f x + g x) = over h f + over h g := by
  induction h with
  | nil => rw [over_nil, over_nil, over_nil]; grind
  | cons x h ih => rw [over_cons, over_cons, over_cons, ih]; grind
theorem over_sub (h : List (Nat × Fn)) (f g : Nat × Fn → Rat) : over h (fun x => f x - g x) = over h f - over h g := by
  induction h with
  | nil => rw [over_nil, over_nil, over_nil]; grind
  | cons x h ih => rw [over_cons, over_cons, over_cons, ih]; grind
theorem over_zero {h : List (Nat × Fn)} {f : Nat × Fn → Rat} (e : ∀ x ∈ h, f x = 0) : over h f = 0 := by
  induction h with
  | nil => rfl
  | cons x h ih => rw [over_cons, ih fun y hy => e y (List.mem_cons_of_mem _ hy), e x (List.mem_cons_self ..)]; grind
/-- the column q of the taken rows, times s -/
def col (s : Rat) (taken : List Fn) (q : Nat) : Col := fun j => s * (taken.getD j (fun _ => 0)) q
def lft (held : List (Nat × Fn)) (e : Fn) : Fn := fun q => e q - over held fun x => e x.1 * x.2 q
/-- what always holds of the held rows and of the rows that they were made of -/
structure Red (s : Rat) (E size : Nat) (held : List (Nat × Fn)) (taken : List Fn) : Prop where
  piv : ∀ x ∈ held, x.1 < size
  delta : ∀ (i j : Nat) (x y : Nat × Fn), held[i]? = some x → held[j]? = some y → x.2 y.1 = if i = j then 1 else 0
  len : taken.length = held.length
  span : ∀ t ∈ taken, ∀ q, t q = over held fun x => t x.1 * x.2 q
  det : D held.length 0 (held.map fun x => col s taken x.1) ≠ 0
  wholes : ∀ t ∈ taken, ∀ q, ∃ z : Int, s * t q = (z : Rat) ∧ z.natAbs ≤ E
/-- a sum over held rows at a pivot -/
theorem over_delta : ∀ (h : List (Nat × Fn)) (f : Nat × Fn → Rat) (j : Nat) (y : Nat × Fn), h[j]? = some y → (∀ (i : Nat) (x : Nat × Fn), h[i]? = some x → f x = if i = j then f y else 0) → over h f = f y
  | [], _, _, _, h, _ => by simp at h
  | x :: h, f, 0, y, e, k => by
    have e1 : x = y := by simpa using e
    rw [over_cons, over_zero (fun z hz => by
      obtain ⟨i, hi⟩ := List.mem_iff_getElem?.mp hz
      have := k (i + 1) z (by simpa using hi)
      simpa using this), e1]; grind
  | x :: h, f, j + 1, y, e, k => by
    have hx := k 0 x rfl
    rw [over_cons, over_delta h f j y (by simpa using e) (fun i z hz => by
      have := k (i + 1) z (by simpa using hz)
      simpa using this), hx, if_neg (by omega), Rat.zero_add]
theorem Red.at_piv {s : Rat} {E size : Nat} {held : List (Nat × Fn)} {taken : List Fn} (R : Red s E size held taken) (e : Fn) {j : Nat} {y : Nat × Fn} (hj : held[j]? = some y) : over held (fun x => e x.1 * x.2 y.1) = e y.1 := by
  rw [over_delta held (fun x => e x.1 * x.2 y.1) j y hj]
  · show e y.1 * y.2 y.1 = e y.1
    rw [R.delta j j y y hj hj, if_pos rfl]; grind
  · intro i x hx
    show e x.1 * x.2 y.1 = if i = j then e y.1 * y.2 y.1 else 0
    rw [R.delta i j x y hx hj]
    by_cases h : i = j
    · subst h
      rw [hx] at hj
      injection hj with e1
      subst e1
      rw [if_pos rfl, if_pos rfl, R.delta i i x x hx hx, if_pos rfl]
    · rw [if_neg h, if_neg h]; grind
theorem Red.lft_piv {s : Rat} {E size : Nat} {held : List (Nat × Fn)} {taken : List Fn} (R : Red s E size held taken) (e : Fn) {y : Nat × Fn} (hy : y ∈ held) : lft held e y.1 = 0 := by
  obtain ⟨j, hj⟩ := List.mem_iff_getElem?.mp hy
  unfold lft
  rw [R.at_piv e hj]; grind
theorem D_shift : ∀ (k s : Nat) (l : List Col), D k (s + 1) l = D k s (l.map fun c i => c (i + 1))
  | 0, _, _ => rfl
  | k + 1, s, l => by
    have key : ∀ (post pre : List Col), X (D k (s + 1 + 1)) (s + 1) pre post = X (D k (s + 1)) s (pre.map fun c i => c (i + 1)) (post.map fun c i => c (i + 1)) := by
      intro post
      induction post with
      | nil => intro pre; rfl
      | cons c post ih =>
        intro pre
        have e := ih (pre ++ [c])
        have e2 := D_shift k (s + 1) (pre ++ post)
        simp only [List.map_append, List.map_cons, List.map_nil] at e e2
        simp only [X, List.map_cons]
        rw [e, e2]
    exact key l []
/-- the held rows with one more -/
def grow (held : List (Nat × Fn)) (p : Nat) (l : Fn) : List (Nat × Fn) := held.map (fun x => (x.1, fun q => x.2 q - x.2 p * (l q / l p))) ++ [(p, fun q => l q / l p)]
theorem mix_map (h : List (Nat × Fn)) (f : Nat × Fn → Rat) (g : Nat × Fn → Col) (i : Nat) : mix (h.map fun x => (f x, g x)) i = over h fun x => g x i * f x := by
  induction h with
  | nil => rfl
  | cons x h ih =>
    rw [List.map_cons, over_cons]
    show mix _ i + f x * g x i = _
    rw [ih]; grind
theorem Red.step {s : Rat} {E size : Nat} {held : List (Nat × Fn)} {taken : List Fn} (R : Red s E size held taken) (hs : s ≠ 0) {e : Fn} (he : ∀ q, ∃ z : Int, s * e q = (z : Rat) ∧ z.natAbs ≤ E) {p : Nat} (hp : p < size) (h0 : lft held e p ≠ 0) : Red s E size (grow held p (lft held e)) (e :: taken) := by
  have hinv : lft held e p / lft held e p = 1 := by grind
  refine ⟨fun x hx => ?_, fun i j x y hi hj => ?_, ?_, fun t ht q => ?_, ?_, fun t ht => ?_⟩
  · rcases List.mem_append.mp hx with h | h
    · obtain ⟨y, hy, rfl⟩ := List.mem_map.mp h
      exact R.piv y hy
    · rw [List.mem_singleton.mp h]; exact hp
  · have hl : (held.map (fun x : Nat × Fn => (x.1, fun q => x.2 q - x.2 p * (lft held e q / lft held e p)))).length = held.length := List.length_map ..
    have get : ∀ (i : Nat) (x : Nat × Fn), (grow held p (lft held e))[i]? = some x → (∃ z, held[i]? = some z ∧ x = (z.1, fun q => z.2 q - z.2 p * (lft held e q / lft held e p))) ∨ (i = held.length ∧ x = (p, fun q => lft held e q / lft held e p)) := by
      intro i x h
      unfold grow at h
      by_cases hi : i < held.length
      · rw [List.getElem?_append_left (by omega), List.getElem?_map] at h
        cases hz : held[i]? with
        | none => rw [hz] at h; simp at h
        | some z => rw [hz] at h; exact .inl ⟨z, rfl, by simpa using h.symm⟩
      · rw [List.getElem?_append_right (by omega), hl] at h
        by_cases h2 : i - held.length = 0
        · rw [h2] at h
          exact .inr ⟨by omega, by simpa using h.symm⟩
        · obtain ⟨n, hn⟩ : ∃ n, i - held.length = n + 1 := ⟨i - held.length - 1, by omega⟩
          rw [hn] at h; simp at h
    have lt_of : ∀ {i : Nat} {z : Nat × Fn}, held[i]? = some z → i < held.length := fun h => (List.getElem?_eq_some_iff.mp h).1
    rcases get i x hi with ⟨z, hz, rfl⟩ | ⟨rfl, rfl⟩ <;> rcases get j y hj with ⟨w, hw, rfl⟩ | ⟨rfl, rfl⟩
    · show z.2 w.1 - z.2 p * (lft held e w.1 / lft held e p) = _
      rw [R.lft_piv e (List.mem_of_getElem? hw), R.delta i j z w hz hw]; grind
    · show z.2 p - z.2 p * (lft held e p / lft held e p) = _
      rw [hinv, if_neg (by have := lt_of hz; omega)]; grind
    · show lft held e w.1 / lft held e p = _
      rw [R.lft_piv e (List.mem_of_getElem? hw), if_neg (by have := lt_of hw; omega)]; grind
    · show lft held e p / lft held e p = _
      rw [hinv, if_pos rfl]
  · unfold grow; simp [R.len]
  · -- each taken row is made of the new held ones
    have key : ∀ t : Fn, over (grow held p (lft held e)) (fun x => t x.1 * x.2 q) = over held (fun x => t x.1 * x.2 q) + (t p - over held fun x => t x.1 * x.2 p) * (lft held e q / lft held e p) := by
      intro t
      unfold grow
      rw [over_append, over_map, over_cons, over_nil]
      show over held (fun x => t x.1 * (x.2 q - x.2 p * (lft held e q / lft held e p))) + (t p * (lft held e q / lft held e p) + 0) = _
      have e1 : over held (fun x => t x.1 * (x.2 q - x.2 p * (lft held e q / lft held e p))) = over held (fun x => t x.1 * x.2 q) - over held (fun x => t x.1 * x.2 p) * (lft held e q / lft held e p) := by
        rw [← over_mul, ← over_sub]
        refine over_congr fun x _ => ?_
        grind
      rw [e1]; grind
    rw [key t]
    rcases List.mem_cons.mp ht with rfl | ht
    · have e2 : t p - (over held fun x => t x.1 * x.2 p) = lft held t p := rfl
      have e3 : lft held t q = t q - over held fun x => t x.1 * x.2 q := rfl
      rw [e2]
      have e4 : lft held t p * (lft held t q / lft held t p) = lft held t q := by grind
      rw [e4, e3]; grind
    · rw [← R.span t ht p, ← R.span t ht q]; grind
  · -- the determinant
    have lg : (grow held p (lft held e)).length = held.length + 1 := by unfold grow; simp
    rw [lg]
    have cols : (grow held p (lft held e)).map (fun x => col s (e :: taken) x.1) = (held.map fun x => col s (e :: taken) x.1) ++ [col s (e :: taken) p] := by
      unfold grow; rw [List.map_append, List.map_map]; rfl
    rw [cols]
    let ee : Col := fun j => if j = 0 then s * lft held e p else 0
    have cs : col s (e :: taken) p = fun i => mix (held.map fun x => (x.2 p, col s (e :: taken) x.1)) i + 1 * ee i := by
      funext i
      rw [mix_map]
      cases i with
      | zero =>
        show s * e p = over held (fun x => s * e x.1 * x.2 p) + 1 * (s * lft held e p)
        have e1 : over held (fun x => s * e x.1 * x.2 p) = s * over held fun x => e x.1 * x.2 p := by
          rw [show (s * over held fun x => e x.1 * x.2 p) = (over held fun x => e x.1 * x.2 p) * s by grind, ← over_mul]
          refine over_congr fun x _ => ?_
          grind
        rw [e1]
        show _ = _ + 1 * (s * (e p - over held fun x => e x.1 * x.2 p))
        grind
      | succ i =>
        show s * (taken.getD i fun _ => 0) p = over held (fun x => s * (taken.getD i fun _ => 0) x.1 * x.2 p) + 1 * 0
        have e1 : ∀ t : Fn, over held (fun x => s * t x.1 * x.2 p) = s * over held fun x => t x.1 * x.2 p := by
          intro t
          rw [show (s * over held fun x => t x.1 * x.2 p) = (over held fun x => t x.1 * x.2 p) * s by grind, ← over_mul]
          refine over_congr fun x _ => ?_
          grind
        rw [e1]
        by_cases hi : i < taken.length
        · have hm : (taken.getD i fun _ => 0) ∈ taken := by
            rw [List.getD_eq_getElem?_getD, List.getElem?_eq_getElem hi]; exact List.getElem_mem hi
          rw [← R.span _ hm p]; grind
        · rw [List.getD_eq_getElem?_getD, List.getElem?_eq_none (by omega)]
          rw [over_zero (fun x _ => by show (0 : Rat) * x.2 p = 0; grind)]
          show s * (0 : Rat) = _
          grind
    have L := D_lin (held.length + 1) 0
    have G := D_alt (held.length + 1) 0
    have lc : (held.map fun x => col s (e :: taken) x.1).length = held.length := List.length_map ..
    rw [cs, L _ _ 1 ee [] (by rw [lc]; rfl), D_mix L _ [] (by rw [lc]; rfl)]
    have zs : ((held.map fun x => (x.2 p, col s (e :: taken) x.1)).map fun pr => pr.1 * D (held.length + 1) 0 ((held.map fun x => col s (e :: taken) x.1) ++ pr.2 :: [])).sum = 0 := by
      have z : ∀ l : List (Nat × Fn), (∀ x ∈ l, x ∈ held) → ((l.map fun x => (x.2 p, col s (e :: taken) x.1)).map fun pr => pr.1 * D (held.length + 1) 0 ((held.map fun x => col s (e :: taken) x.1) ++ pr.2 :: [])).sum = 0 := by
        intro l
        induction l with
        | nil => intro _; rfl
        | cons x r ih =>
          intro hx
          rw [List.map_cons, List.map_cons, List.sum_cons, ih fun y hy => hx y (List.mem_cons_of_mem _ hy)]
          obtain ⟨u, v, ev⟩ := List.append_of_mem (hx x (List.mem_cons_self ..))
          have tw := twice L G (col s (e :: taken) x.1) [] (v.map fun x => col s (e :: taken) x.1) (u.map fun x => col s (e :: taken) x.1) (by rw [ev]; simp; omega)
          have ec : (held.map fun x => col s (e :: taken) x.1) ++ [col s (e :: taken) x.1] = (u.map fun x => col s (e :: taken) x.1) ++ col s (e :: taken) x.1 :: ((v.map fun x => col s (e :: taken) x.1) ++ [col s (e :: taken) x.1]) := by
            rw [ev]; simp
          show x.2 p * D (held.length + 1) 0 ((held.map fun x => col s (e :: taken) x.1) ++ [col s (e :: taken) x.1]) + 0 = 0
          rw [ec, tw]; grind
      exact z held fun x h => h
    rw [zs]
    have shf : (held.map fun x => col s (e :: taken) x.1).map (fun (c : Col) i => c (i + 1)) = held.map fun x => col s taken x.1 := by
      rw [List.map_map]; rfl
    have zee : ∀ l1 l2 : List Col, l1.length + 1 + l2.length = held.length → D held.length (0 + 1) (l1 ++ ee :: l2) = 0 := by
      intro l1 l2 hl
      rw [D_shift, List.map_append, List.map_cons]
      have : (fun i => ee (i + 1)) = fun _ => (0 : Rat) := by funext i; rfl
      rw [this]
      exact zero_col (D_lin held.length 0) _ _ (by simpa using hl)
    have lst := X_last (s := 0) (F := D held.length (0 + 1)) (e := ee) zee (held.map fun x => col s (e :: taken) x.1) [] (by simp)
    have ed : D held.length (0 + 1) ([] ++ held.map fun x => col s (e :: taken) x.1) = D held.length 0 (held.map fun x => col s taken x.1) := by
      rw [List.nil_append, D_shift, shf]
    rw [ed] at lst
    have e0 : ee 0 = s * lft held e p := rfl
    rw [e0] at lst
    have nz : s * lft held e p * D held.length 0 (held.map fun x => col s taken x.1) ≠ 0 := by
      have := R.det
      intro h
      rcases Rat.mul_eq_zero.mp h with h | h
      · rcases Rat.mul_eq_zero.mp h with h | h
        · exact hs h
        · exact h0 h
      · exact this h
    show 0 + 1 * X (D held.length (0 + 1)) 0 [] ((held.map fun x => col s (e :: taken) x.1) ++ [ee]) ≠ 0
    rcases lst with h | h <;> rw [h] <;> grind
  · rcases List.mem_cons.mp ht with rfl | ht
    · exact he
    · exact R.wholes t ht
theorem Red.start {s : Rat} {E size : Nat} : Red s E size [] [] := by
  refine ⟨fun x hx => by simp at hx, fun i j x y hi => by simp at hi, rfl, fun t ht => by simp at ht, ?_, fun t ht => by simp at ht⟩
  show (1 : Rat) ≠ 0
  decide

/-! ### bounds -/
theorem bd_of {x : Rat} {d z : Int} {n m : Nat} (h : x * (d : Rat) = (z : Rat)) (hd : d ≠ 0) (hz : z.natAbs < 2 ^ n) (hm : d.natAbs < 2 ^ m) : Bd n m x := by
  have dr : (d : Rat) ≠ 0 := by
    intro e
    exact hd (Rat.intCast_inj.mp (by simpa using e))
  have ex : x = Rat.divInt z d := by
    rw [Rat.divInt_eq_div]
    grind
  by_cases h0 : 0 < d
  · rw [ex]; exact bd_divInt h0 hz hm
  · have e2 : Rat.divInt z d = Rat.divInt (-z) (-d) := by
      exact (Rat.divInt_eq_divInt_iff (by omega) (by omega)).mpr (by rw [Int.mul_neg, Int.neg_mul])
    rw [ex, e2]
    exact bd_divInt (by omega) (by omega) (by omega)
theorem small_of {A k : Nat} {l : List (Nat → Int)} (hl : l.length ≤ k) (h : ∀ c ∈ l, ∀ i, (c i).natAbs ≤ A) : Small (k * A) l := by
  intro i
  have : ∀ l : List (Nat → Int), (∀ c ∈ l, ∀ i, (c i).natAbs ≤ A) → (l.map fun c => (c i).natAbs).sum ≤ l.length * A := by
    intro l
    induction l with
    | nil => intro _; simp
    | cons c r ih =>
      intro hc
      rw [List.map_cons, List.sum_cons, List.length_cons, Nat.add_mul]
      have h1 := ih fun x hx => hc x (List.mem_cons_of_mem _ hx)
      have h2 := hc c (List.mem_cons_self ..) i
      omega
  exact Nat.le_trans (this l h) (Nat.mul_le_mul_right _ hl)
theorem pick {α : Type} (P : Nat → α → Prop) (h : ∀ q, ∃ z, P q z) : ∃ f : Nat → α, ∀ q, P q (f q) := ⟨fun q => (h q).choose, fun q => (h q).choose_spec⟩
/-- the columns are of wholes -/
theorem Red.icol {s : Rat} {E size : Nat} {held : List (Nat × Fn)} {taken : List Fn} (R : Red s E size held taken) : ∃ f : Nat → Nat → Int, (∀ q, col s taken q = up (f q)) ∧ ∀ q i, (f q i).natAbs ≤ E := by
  have h1 : ∀ q i, ∃ z : Int, col s taken q i = (z : Rat) ∧ z.natAbs ≤ E := by
    intro q i
    unfold col
    by_cases hi : i < taken.length
    · have hm : (taken.getD i fun _ => 0) ∈ taken := by
        rw [List.getD_eq_getElem?_getD, List.getElem?_eq_getElem hi]; exact List.getElem_mem hi
      exact R.wholes _ hm q
    · rw [List.getD_eq_getElem?_getD, List.getElem?_eq_none (by omega)]
      exact ⟨0, by show s * (0 : Rat) = _; simp, Nat.zero_le _⟩
  refine ⟨fun q i => (h1 q i).choose, fun q => ?_, fun q i => (h1 q i).choose_spec.2⟩
  funext i
  exact (h1 q i).choose_spec.1
/-- all entries of held rows have one small denominator -/
theorem Red.bound {s : Rat} {E size m : Nat} {held : List (Nat × Fn)} {taken : List Fn} (R : Red s E size held taken) (hm : held.length ≤ m) (hE : 1 ≤ E) (h1 : 1 ≤ m) : ∃ d : Int, d ≠ 0 ∧ d.natAbs ≤ (m * E) ^ m ∧ ∀ x ∈ held, ∀ q, ∃ z : Int, x.2 q * (d : Rat) = (z : Rat) ∧ z.natAbs ≤ (m * E) ^ m := by
  obtain ⟨f, hf, bf⟩ := R.icol
  have A1 : 1 ≤ m * E := Nat.mul_le_mul h1 hE
  have pw : (m * E) ^ held.length ≤ (m * E) ^ m := Nat.pow_le_pow_right A1 hm
  have eC : (held.map fun x => col s taken x.1) = (held.map fun x => f x.1).map up := by
    rw [List.map_map]; exact List.map_congr_left fun x _ => hf x.1
  have dC := R.det
  rw [eC, D_cast] at dC
  refine ⟨D held.length 0 (held.map fun x => f x.1), fun h => dC (by rw [h]; rfl), ?_, fun x hx q => ?_⟩
  · refine Nat.le_trans (D_le held.length 0 _ (small_of (k := m) (A := E) (by simpa using hm) ?_)) pw
    intro c hc i
    obtain ⟨y, _, rfl⟩ := List.mem_map.mp hc
    exact bf y.1 i
  · obtain ⟨u, v, ev⟩ := List.append_of_mem hx
    have mx : col s taken q = mix ((u.map fun y => (y.2 q, col s taken y.1)) ++ (x.2 q, col s taken x.1) :: (v.map fun y => (y.2 q, col s taken y.1))) := by
      have e0 : (u.map fun y => (y.2 q, col s taken y.1)) ++ (x.2 q, col s taken x.1) :: (v.map fun y => (y.2 q, col s taken y.1)) = held.map fun y => (y.2 q, col s taken y.1) := by rw [ev]; simp
      rw [e0]
      funext i
      rw [mix_map]
      have e1 : ∀ t : Fn, over held (fun x => s * t x.1 * x.2 q) = s * over held fun x => t x.1 * x.2 q := by
        intro t
        rw [show (s * over held fun x => t x.1 * x.2 q) = (over held fun x => t x.1 * x.2 q) * s by grind, ← over_mul]
        refine over_congr fun x _ => ?_
        grind
      show s * (taken.getD i fun _ => 0) q = over held (fun x => s * (taken.getD i fun _ => 0) x.1 * x.2 q)
      rw [e1]
      by_cases hi : i < taken.length
      · have hm : (taken.getD i fun _ => 0) ∈ taken := by
          rw [List.getD_eq_getElem?_getD, List.getElem?_eq_getElem hi]; exact List.getElem_mem hi
        rw [← R.span _ hm q]
      · rw [List.getD_eq_getElem?_getD, List.getElem?_eq_none (by omega)]
        rw [over_zero (fun x _ => by show (0 : Rat) * x.2 q = 0; grind)]
        show s * (0 : Rat) = s * 0
        rfl
    have cr := cramer (D_lin held.length 0) (D_alt held.length 0) (u.map fun y => (y.2 q, col s taken y.1)) (v.map fun y => (y.2 q, col s taken y.1)) (x.2 q) (col s taken x.1) (by rw [ev]; simp; omega)
    rw [← mx] at cr
    have e1 : (List.map (fun p : Rat × Col => p.2) (u.map fun y => (y.2 q, col s taken y.1))) ++ col s taken x.1 :: (List.map (fun p : Rat × Col => p.2) (v.map fun y => (y.2 q, col s taken y.1))) = held.map fun y => col s taken y.1 := by rw [ev]; simp; rfl
    rw [e1, eC, D_cast] at cr
    have e2 : (List.map (fun p : Rat × Col => p.2) (u.map fun y => (y.2 q, col s taken y.1))) ++ col s taken q :: (List.map (fun p : Rat × Col => p.2) (v.map fun y => (y.2 q, col s taken y.1))) = ((u.map fun y => f y.1) ++ f q :: (v.map fun y => f y.1)).map up := by
      simp [List.map_map, hf]; rfl
    rw [e2, D_cast] at cr
    refine ⟨_, cr.symm, Nat.le_trans (D_le held.length 0 _ (small_of (k := m) (A := E) ?_ ?_)) pw⟩
    · rw [ev] at hm; simp at hm ⊢; omega
    · intro c hc i
      rcases List.mem_append.mp hc with h | h
      · obtain ⟨y, _, rfl⟩ := List.mem_map.mp h
        exact bf y.1 i
      · rcases List.mem_cons.mp h with rfl | h
        · exact bf q i
        · obtain ⟨y, _, rfl⟩ := List.mem_map.mp h
          exact bf y.1 i
/-- what is left, with some of the held rows, has a small denominator too -/
theorem lft_bound {s : Int} {E B m : Nat} {part : List (Nat × Fn)} {e : Fn} {d : Int} (hm : part.length ≤ m) (hd : ∀ x ∈ part, ∀ q, ∃ z : Int, x.2 q * (d : Rat) = (z : Rat) ∧ z.natAbs ≤ B) (dB : d.natAbs ≤ B) (he : ∀ q, ∃ z : Int, (s : Rat) * e q = (z : Rat) ∧ z.natAbs ≤ E) (q : Nat) :
    ∃ z : Int, lft part e q * ((s * d : Int) : Rat) = (z : Rat) ∧ z.natAbs ≤ (m + 1) * (E * B) := by
  obtain ⟨ze, h1, h2⟩ := he q
  have key : ∀ part : List (Nat × Fn), (∀ x ∈ part, ∀ q, ∃ z : Int, x.2 q * (d : Rat) = (z : Rat) ∧ z.natAbs ≤ B) → ∃ z : Int, (over part fun x => e x.1 * x.2 q) * ((s * d : Int) : Rat) = (z : Rat) ∧ z.natAbs ≤ part.length * (E * B) := by
    intro part
    induction part with
    | nil => intro _; exact ⟨0, by rw [over_nil]; simp, Nat.zero_le _⟩
    | cons x r ih =>
      intro hx
      obtain ⟨z1, e1, b1⟩ := ih fun y hy => hx y (List.mem_cons_of_mem _ hy)
      obtain ⟨z2, e2, b2⟩ := hx x (List.mem_cons_self ..) q
      obtain ⟨z3, e3, b3⟩ := he x.1
      refine ⟨z3 * z2 + z1, ?_, ?_⟩
      · rw [over_cons]
        simp only [Rat.intCast_mul, Rat.intCast_add] at e1 ⊢
        rw [← e1, ← e2, ← e3]; grind
      · have a1 := Int.natAbs_add_le (z3 * z2) z1
        rw [Int.natAbs_mul] at a1
        have a2 := Nat.mul_le_mul b3 b2
        rw [List.length_cons, Nat.add_mul]
        omega
  obtain ⟨z1, e1, b1⟩ := key part hd
  refine ⟨ze * d - z1, ?_, ?_⟩
  · unfold lft
    simp only [Rat.intCast_mul, Rat.intCast_sub] at e1 ⊢
    rw [← e1, ← h1]; grind
  · have a1 := Int.natAbs_sub_le (ze * d) z1
    rw [Int.natAbs_mul] at a1
    have a2 := Nat.mul_le_mul h2 dB
    have a3 : part.length * (E * B) ≤ m * (E * B) := Nat.mul_le_mul_right _ hm
    rw [Nat.add_mul]
    omega
end El

set_option linter.all false
set_option maxRecDepth 10000
/-! elimination upon lists, as the program does it -/
namespace El
open Mt Dt
def fn (r : List Rat) : Fn := fun q => r.getD q 0
theorem fn_get {r : List Rat} {q : Nat} {x : Rat} (h : r[q]? = some x) : fn r q = x := by
  unfold fn; rw [List.getD_eq_getElem?_getD, h]; rfl
theorem fn_none {r : List Rat} {q : Nat} (h : r.length ≤ q) : fn r q = 0 := by
  unfold fn; rw [List.getD_eq_getElem?_getD, List.getElem?_eq_none h]; rfl
theorem get_fn {r : List Rat} {q : Nat} (h : q < r.length) : r[q]? = some (fn r q) := by
  unfold fn; rw [List.getD_eq_getElem?_getD, List.getElem?_eq_getElem h]; rfl
def sub (e : List Rat) (f : Rat) (r : List Rat) : List Rat := List.zipWith (fun o t => o - f * t) e r
theorem sub_length {e r : List Rat} {f : Rat} (h : e.length = r.length) : (sub e f r).length = e.length := by
  unfold sub; rw [List.length_zipWith]; omega
theorem sub_get {e r : List Rat} {f : Rat} {q : Nat} {a b : Rat} (ha : e[q]? = some a) (hb : r[q]? = some b) : (sub e f r)[q]? = some (a - f * b) := by
  unfold sub; rw [List.getElem?_zipWith, ha, hb]
theorem fn_sub {e r : List Rat} {f : Rat} (h : e.length = r.length) : fn (sub e f r) = fun q => fn e q - f * fn r q := by
  funext q
  by_cases hq : q < e.length
  · rw [fn_get (sub_get (f := f) (get_fn hq) (get_fn (show q < r.length by omega)))]
  · rw [fn_none (by rw [sub_length h]; omega), fn_none (r := e) (by omega), fn_none (r := r) (by omega)]; grind
theorem sub_zero {e r : List Rat} (h : e.length = r.length) : sub e 0 r = e := by
  apply List.ext_getElem?
  intro q
  by_cases hq : q < e.length
  · rw [sub_get (f := 0) (get_fn hq) (get_fn (show q < r.length by omega)), get_fn hq]
    congr 1; grind
  · rw [List.getElem?_eq_none (by rw [sub_length h]; omega), List.getElem?_eq_none (by omega)]
abbrev HL := List (Nat × List Rat)
def fh (h : HL) : List (Nat × Fn) := h.map fun x => (x.1, fn x.2)
def clr : List Rat → HL → List Rat
  | e, [] => e
  | e, (p, r) :: h => clr (sub e (fn e p) r) h
theorem clr_length : ∀ {h : HL} {e : List Rat}, (∀ x ∈ h, x.2.length = e.length) → (clr e h).length = e.length
  | [], _, _ => rfl
  | (p, r) :: h, e, hl => by
    have h0 := hl (p, r) (List.mem_cons_self ..)
    have e1 := sub_length (f := fn e p) h0.symm
    show (clr (sub e (fn e p) r) h).length = e.length
    rw [clr_length (fun x hx => by rw [e1]; exact hl x (List.mem_cons_of_mem _ hx)), e1]
theorem clr_snoc : ∀ {h : HL} {e : List Rat} {p : Nat} {r : List Rat}, clr e (h ++ [(p, r)]) = sub (clr e h) (fn (clr e h) p) r
  | [], _, _, _ => rfl
  | (q, t) :: h, e, p, r => by
    show clr (sub e (fn e q) t) (h ++ [(p, r)]) = sub (clr (sub e (fn e q) t) h) (fn (clr (sub e (fn e q) t) h) p) r
    exact clr_snoc
theorem clr_fn : ∀ {h : HL} {e : List Rat}, (∀ x ∈ h, x.2.length = e.length) → h.Pairwise (fun x y => fn x.2 y.1 = 0) → fn (clr e h) = lft (fh h) (fn e)
  | [], e, _, _ => by
    funext q
    show fn e q = fn e q - over [] _
    rw [over_nil]; grind
  | (p, r) :: h, e, hl, hp => by
    have h0 := hl (p, r) (List.mem_cons_self ..)
    have e1 := sub_length (f := fn e p) h0.symm
    rw [List.pairwise_cons] at hp
    have ih := clr_fn (h := h) (e := sub e (fn e p) r) (fun x hx => by rw [e1]; exact hl x (List.mem_cons_of_mem _ hx)) hp.2
    funext q
    show fn (clr (sub e (fn e p) r) h) q = _
    rw [ih, fn_sub h0.symm]
    show fn e q - fn e p * fn r q - over (fh h) (fun x => (fn e x.1 - fn e p * fn r x.1) * x.2 q) = fn e q - over ((p, fn r) :: fh h) (fun x => fn e x.1 * x.2 q)
    rw [over_cons]
    have e2 : over (fh h) (fun x => (fn e x.1 - fn e p * fn r x.1) * x.2 q) = over (fh h) (fun x => fn e x.1 * x.2 q) := by
      refine over_congr fun x hx => ?_
      obtain ⟨y, hy, rfl⟩ := List.mem_map.mp hx
      have := hp.1 y hy
      show (fn e y.1 - fn e p * fn r y.1) * _ = _
      rw [this]; grind
    rw [e2]; grind
/-- the first place below size that is not 0 -/
def first (e : List Rat) (size : Nat) : Option Nat := (List.range size).find? fun p => decide (fn e p ≠ 0)
theorem first_none {e : List Rat} {size : Nat} (h : first e size = none) : ∀ q, q < size → fn e q = 0 := fun q hq => by
  have := List.find?_eq_none.mp h q (List.mem_range.mpr hq)
  simpa using this
theorem first_some {e : List Rat} {size p : Nat} (h : first e size = some p) : p < size ∧ fn e p ≠ 0 := by
  have h1 := List.find?_some h
  have h2 := List.mem_of_find?_eq_some h
  exact ⟨List.mem_range.mp h2, by simpa using h1⟩
def nrm (l : List Rat) (p : Nat) : List Rat := l.map fun x => x / fn l p
def tin (held : HL) (e : List Rat) (size : Nat) : HL :=
  match first (clr e held) size with
  | none => held
  | some p => held.map (fun x => (x.1, sub x.2 (fn x.2 p) (nrm (clr e held) p))) ++ [(p, nrm (clr e held) p)]
theorem nrm_length {l : List Rat} {p : Nat} : (nrm l p).length = l.length := List.length_map ..
theorem fn_nrm {l : List Rat} {p : Nat} : fn (nrm l p) = fun q => fn l q / fn l p := by
  funext q
  by_cases hq : q < l.length
  · have : (nrm l p)[q]? = some (fn l q / fn l p) := by unfold nrm; rw [List.getElem?_map, get_fn hq]; rfl
    rw [fn_get this]
  · rw [fn_none (by rw [nrm_length]; omega), fn_none (r := l) (by omega)]; grind
/-- reduced rows upon lists -/
structure RL (s : Rat) (E size N : Nat) (held : HL) (taken : List Fn) : Prop where
  red : Red s E size (fh held) taken
  len : ∀ x ∈ held, x.2.length = N
theorem RL.pw {s : Rat} {E size N : Nat} {held : HL} {taken : List Fn} (R : RL s E size N held taken) : held.Pairwise (fun x y => fn x.2 y.1 = 0) := by
  rw [List.pairwise_iff_getElem]
  intro i j hi hj hij
  have hd := R.red.delta i j (held[i].1, fn held[i].2) (held[j].1, fn held[j].2) (by unfold fh; rw [List.getElem?_map, List.getElem?_eq_getElem hi]; rfl) (by unfold fh; rw [List.getElem?_map, List.getElem?_eq_getElem hj]; rfl)
  rw [if_neg (by omega)] at hd
  exact hd
theorem RL.clr_fn {s : Rat} {E size N : Nat} {held : HL} {taken : List Fn} (R : RL s E size N held taken) {e : List Rat} (he : e.length = N) : fn (clr e held) = lft (fh held) (fn e) :=
  El.clr_fn (fun x hx => by rw [R.len x hx, he]) R.pw
theorem RL.clr_len {s : Rat} {E size N : Nat} {held : HL} {taken : List Fn} (R : RL s E size N held taken) {e : List Rat} (he : e.length = N) : (clr e held).length = N := by
  rw [clr_length (fun x hx => by rw [R.len x hx, he]), he]
theorem RL.step {s : Rat} {E size N : Nat} {held : HL} {taken : List Fn} (R : RL s E size N held taken) (hs : s ≠ 0) {e : List Rat} (hl : e.length = N) (he : ∀ q, ∃ z : Int, s * fn e q = (z : Rat) ∧ z.natAbs ≤ E) : ∃ taken', RL s E size N (tin held e size) taken' := by
  unfold tin
  cases hf : first (clr e held) size with
  | none => exact ⟨taken, R⟩
  | some p =>
    have h := first_some hf
    rw [R.clr_fn hl] at h
    have st := R.red.step hs he h.1 h.2
    refine ⟨fn e :: taken, ?_, fun x hx => ?_⟩
    · have eq : fh (held.map (fun x => (x.1, sub x.2 (fn x.2 p) (nrm (clr e held) p))) ++ [(p, nrm (clr e held) p)]) = grow (fh held) p (lft (fh held) (fn e)) := by
        unfold fh grow
        rw [List.map_append, List.map_map, List.map_map]
        congr 1
        · refine List.map_congr_left fun x hx => ?_
          show (x.1, fn (sub x.2 (fn x.2 p) (nrm (clr e held) p))) = _
          rw [fn_sub (by rw [nrm_length, R.clr_len hl, R.len x hx]), fn_nrm, R.clr_fn hl]
          rfl
        · show [(p, fn (nrm (clr e held) p))] = _
          rw [fn_nrm, R.clr_fn hl]
          rfl
      rw [eq]
      exact st
    · rcases List.mem_append.mp hx with h | h
      · obtain ⟨y, hy, rfl⟩ := List.mem_map.mp h
        rw [sub_length (by rw [nrm_length, R.clr_len hl, R.len y hy]), R.len y hy]
      · rw [List.mem_singleton.mp h, nrm_length, R.clr_len hl]
theorem RL.start {s : Rat} {E size N : Nat} : RL s E size N [] [] := ⟨Red.start, fun x hx => by simp at hx⟩
/-- what the given rows come to, one by one -/
def tins (size : Nat) : List (List Rat) → HL → HL
  | [], held => held
  | e :: es, held => tins size es (tin held e size)
theorem tins_snoc (size : Nat) : ∀ (es : List (List Rat)) (e : List Rat) (held : HL), tins size (es ++ [e]) held = tin (tins size es held) e size
  | [], _, _ => rfl
  | _ :: es, e, held => tins_snoc size es e _
theorem tin_length {held : HL} {e : List Rat} {size : Nat} : (tin held e size).length ≤ held.length + 1 := by
  unfold tin
  split <;> simp
theorem tins_length {size : Nat} : ∀ {es : List (List Rat)} {held : HL}, (tins size es held).length ≤ held.length + es.length
  | [], _ => by simp [tins]
  | e :: es, held => by
    have h1 := tins_length (size := size) (es := es) (held := tin held e size)
    have h2 := tin_length (held := held) (e := e) (size := size)
    show (tins size es (tin held e size)).length ≤ _
    rw [List.length_cons]; omega
theorem tins_red {s : Rat} {E size N : Nat} (hs : s ≠ 0) : ∀ {es : List (List Rat)} {held : HL} {taken : List Fn}, RL s E size N held taken → (∀ e ∈ es, e.length = N ∧ ∀ q, ∃ z : Int, s * fn e q = (z : Rat) ∧ z.natAbs ≤ E) → ∃ taken', RL s E size N (tins size es held) taken'
  | [], _, taken, R, _ => ⟨taken, R⟩
  | e :: es, held, taken, R, h => by
    have h0 := h e (List.mem_cons_self ..)
    obtain ⟨t', R'⟩ := R.step hs h0.1 h0.2
    exact tins_red (es := es) (held := tin held e size) hs R' fun x hx => h x (List.mem_cons_of_mem _ hx)
/-! ### linear laws of what is held -/
/-- a linear property: closed under sums of multiples -/
structure Closed (W : Fn → Prop) : Prop where
  mix : ∀ a b f, W a → W b → W (fun q => a q - f * b q)
  div : ∀ a f, W a → W (fun q => a q / f)
theorem clr_closed {V W : Fn → Prop} (c : ∀ a b f, V a → W b → V (fun q => a q - f * b q)) : ∀ {h : HL} {e : List Rat}, (∀ x ∈ h, x.2.length = e.length) → (∀ x ∈ h, W (fn x.2)) → V (fn e) → V (fn (clr e h))
  | [], _, _, _, w => w
  | (p, r) :: h, e, hl, hw, w => by
    have h0 := hl (p, r) (List.mem_cons_self ..)
    have e1 := sub_length (f := fn e p) h0.symm
    refine clr_closed c (h := h) (e := sub e (fn e p) r) (fun x hx => by rw [e1]; exact hl x (List.mem_cons_of_mem _ hx)) (fun x hx => hw x (List.mem_cons_of_mem _ hx)) ?_
    rw [fn_sub h0.symm]
    exact c _ _ _ w (hw (p, r) (List.mem_cons_self ..))
theorem tin_closed {W : Fn → Prop} (c : Closed W) {N size : Nat} {held : HL} {e : List Rat} (hl : ∀ x ∈ held, x.2.length = N) (he : e.length = N) (hw : ∀ x ∈ held, W (fn x.2)) (we : W (fn e)) : ∀ x ∈ tin held e size, W (fn x.2) := by
  unfold tin
  have wl := clr_closed c.mix (h := held) (e := e) (fun x hx => by rw [hl x hx, he]) hw we
  have ll : (clr e held).length = N := by rw [clr_length (fun x hx => by rw [hl x hx, he]), he]
  split
  · exact hw
  · rename_i p hp
    have wn : W (fn (nrm (clr e held) p)) := by rw [fn_nrm]; exact c.div _ _ wl
    intro x hx
    rcases List.mem_append.mp hx with h | h
    · obtain ⟨y, hy, rfl⟩ := List.mem_map.mp h
      show W (fn (sub y.2 _ _))
      rw [fn_sub (by rw [nrm_length, ll, hl y hy])]
      exact c.mix _ _ _ (hw y hy) wn
    · rw [List.mem_singleton.mp h]; exact wn
theorem tin_len {N size : Nat} {held : HL} {e : List Rat} (hl : ∀ x ∈ held, x.2.length = N) (he : e.length = N) : ∀ x ∈ tin held e size, x.2.length = N := by
  unfold tin
  have ll : (clr e held).length = N := by rw [clr_length (fun x hx => by rw [hl x hx, he]), he]
  split
  · exact hl
  · intro x hx
    rcases List.mem_append.mp hx with h | h
    · obtain ⟨y, hy, rfl⟩ := List.mem_map.mp h
      rw [sub_length (by rw [nrm_length, ll, hl y hy]), hl y hy]
    · rw [List.mem_singleton.mp h, nrm_length, ll]
theorem tins_closed {W : Fn → Prop} (c : Closed W) {N size : Nat} : ∀ {es : List (List Rat)} {held : HL}, (∀ x ∈ held, x.2.length = N) → (∀ x ∈ held, W (fn x.2)) → (∀ e ∈ es, e.length = N ∧ W (fn e)) → ∀ x ∈ tins size es held, W (fn x.2)
  | [], _, _, hw, _ => hw
  | e :: es, held, hl, hw, h => by
    have h0 := h e (List.mem_cons_self ..)
    exact tins_closed c (es := es) (held := tin held e size) (tin_len hl h0.1) (tin_closed c hl h0.1 hw h0.2) fun x hx => h x (List.mem_cons_of_mem _ hx)
/-- a linear functional that asks the places below size alone -/
structure LinF (size : Nat) (g : Fn → Rat) : Prop where
  mix : ∀ a b f, g (fun q => a q - f * b q) = g a - f * g b
  div : ∀ a f, g (fun q => a q / f) = g a / f
  low : ∀ a, (∀ q, q < size → a q = 0) → g a = 0
theorem clr_lin {size : Nat} {g : Fn → Rat} (c : LinF size g) : ∀ {h : HL} {e : List Rat}, (∀ x ∈ h, x.2.length = e.length) → (∀ x ∈ h, g (fn x.2) = 0) → g (fn (clr e h)) = g (fn e)
  | [], _, _, _ => rfl
  | (p, r) :: h, e, hl, hw => by
    have h0 := hl (p, r) (List.mem_cons_self ..)
    have e1 := sub_length (f := fn e p) h0.symm
    have ih := clr_lin c (h := h) (e := sub e (fn e p) r) (fun x hx => by rw [e1]; exact hl x (List.mem_cons_of_mem _ hx)) (fun x hx => hw x (List.mem_cons_of_mem _ hx))
    have e2 := hw (p, r) (List.mem_cons_self ..)
    show g (fn (clr (sub e (fn e p) r) h)) = g (fn e)
    rw [ih, fn_sub h0.symm, c.mix, e2]; grind
theorem tin_kills {size N : Nat} {g : Fn → Rat} (c : LinF size g) {held : HL} {e : List Rat} (hl : ∀ x ∈ held, x.2.length = N) (he : e.length = N) (k : ∀ x ∈ tin held e size, g (fn x.2) = 0) : (∀ x ∈ held, g (fn x.2) = 0) ∧ g (fn e) = 0 := by
  have hl' : ∀ x ∈ held, x.2.length = e.length := fun x hx => by rw [hl x hx, he]
  have ll : (clr e held).length = N := by rw [clr_length hl', he]
  unfold tin at k
  cases hf : first (clr e held) size with
  | none =>
    rw [hf] at k
    exact ⟨k, by rw [← clr_lin c hl' k]; exact c.low _ (first_none hf)⟩
  | some p =>
    rw [hf] at k
    have kn := k (p, nrm (clr e held) p) (List.mem_append_right _ (List.mem_singleton.mpr rfl))
    have h0 := (first_some hf).2
    have kl : g (fn (clr e held)) = 0 := by
      have : g (fn (nrm (clr e held) p)) = 0 := kn
      rw [fn_nrm, c.div] at this
      grind
    have kh : ∀ x ∈ held, g (fn x.2) = 0 := by
      intro x hx
      have := k (x.1, sub x.2 (fn x.2 p) (nrm (clr e held) p)) (List.mem_append_left _ (List.mem_map.mpr ⟨x, hx, rfl⟩))
      have e1 : g (fn (sub x.2 (fn x.2 p) (nrm (clr e held) p))) = 0 := this
      rw [fn_sub (by rw [nrm_length, ll, hl x hx]), c.mix] at e1
      have e2 : g (fn (nrm (clr e held) p)) = 0 := kn
      rw [e2] at e1
      grind
    exact ⟨kh, by rw [← clr_lin c hl' kh]; exact kl⟩
theorem tins_kills {size N : Nat} {g : Fn → Rat} (c : LinF size g) : ∀ {es : List (List Rat)} {held : HL}, (∀ x ∈ held, x.2.length = N) → (∀ e ∈ es, e.length = N) → (∀ x ∈ tins size es held, g (fn x.2) = 0) → (∀ x ∈ held, g (fn x.2) = 0) ∧ ∀ e ∈ es, g (fn e) = 0
  | [], _, _, _, k => ⟨k, fun e he => by simp at he⟩
  | e :: es, held, hl, h, k => by
    have h0 := h e (List.mem_cons_self ..)
    have ih := tins_kills c (es := es) (held := tin held e size) (tin_len hl h0) (fun x hx => h x (List.mem_cons_of_mem _ hx)) k
    have i2 := tin_kills c hl h0 ih.1
    exact ⟨i2.1, fun x hx => (List.mem_cons.mp hx).elim (fun z => by rw [z]; exact i2.2) (ih.2 x)⟩
/-! ### what is told -/
def sumf (n : Nat) (f : Nat → Rat) : Rat := ((List.range n).map f).sum
theorem sumf_zero (f : Nat → Rat) : sumf 0 f = 0 := rfl
theorem sumf_succ (n : Nat) (f : Nat → Rat) : sumf (n + 1) f = sumf n f + f n := by
  unfold sumf
  rw [List.range_succ, List.map_append, List.sum_append, List.map_cons, List.map_nil, List.sum_cons, List.sum_nil, Rat.add_zero]
theorem sumf_congr {n : Nat} {f g : Nat → Rat} (h : ∀ q, q < n → f q = g q) : sumf n f = sumf n g := by
  unfold sumf
  rw [List.map_congr_left fun q hq => h q (List.mem_range.mp hq)]
theorem sumf_lin {n : Nat} (f g : Nat → Rat) (a : Rat) : sumf n (fun q => f q - a * g q) = sumf n f - a * sumf n g := by
  induction n with
  | zero => rw [sumf_zero, sumf_zero, sumf_zero]; grind
  | succ n ih => rw [sumf_succ, sumf_succ, sumf_succ, ih]; grind
theorem sumf_div {n : Nat} (f : Nat → Rat) (a : Rat) : sumf n (fun q => f q / a) = sumf n f / a := by
  induction n with
  | zero => rw [sumf_zero, sumf_zero]; grind
  | succ n ih => rw [sumf_succ, sumf_succ, ih]; grind
theorem sumf_all_zero {n : Nat} {f : Nat → Rat} (h : ∀ q, q < n → f q = 0) : sumf n f = 0 := by
  induction n with
  | zero => rfl
  | succ n ih => rw [sumf_succ, ih fun q hq => h q (by omega), h n (by omega)]; grind
theorem sumf_shift (n : Nat) (f : Nat → Rat) : sumf (n + 1) f = f 0 + sumf n fun q => f (q + 1) := by
  induction n with
  | zero => rw [sumf_succ, sumf_zero, sumf_zero]; grind
  | succ n ih => rw [sumf_succ, ih, sumf_succ]; grind
theorem dot_sumf : ∀ {xs ys : List Rat}, xs.length = ys.length → dot xs ys = sumf xs.length fun q => fn xs q * fn ys q
  | [], [], _ => by rw [dot_nil]; rfl
  | x :: xs, y :: ys, h => by
    have ih := dot_sumf (xs := xs) (ys := ys) (by simpa using h)
    show x * y + dot xs ys = sumf (xs.length + 1) _
    rw [sumf_shift, ih]
    rfl
  | [], _ :: _, h => by simp at h
  | _ :: _, [], h => by simp at h
/-- one more at a place -/
theorem sumf_point {n p : Nat} (hp : p < n) (f : Nat → Rat) (a : Rat) : sumf n (fun q => if q = p then a else f q) = sumf n f + (a - f p) := by
  induction n with
  | zero => omega
  | succ n ih =>
    rw [sumf_succ, sumf_succ]
    by_cases h : p = n
    · subst h
      have : sumf p (fun q => if q = p then a else f q) = sumf p f := sumf_congr fun q hq => by rw [if_neg (by omega)]
      rw [this, if_pos rfl]; grind
    · rw [ih (by omega), if_neg (by omega)]; grind
/-- the row with its unit behind -/
def unitL (i n : Nat) : List Rat := (List.range n).map fun q => if q = i then 1 else 0
theorem unitL_length {i n : Nat} : (unitL i n).length = n := by unfold unitL; simp
theorem fn_unitL {i n q : Nat} (h : q < n) : fn (unitL i n) q = if q = i then 1 else 0 := by
  have : (unitL i n)[q]? = some (if q = i then 1 else 0) := by unfold unitL; rw [List.getElem?_map, List.getElem?_range h]; rfl
  exact fn_get this
theorem fn_app_left {a b : List Rat} {q : Nat} (h : q < a.length) : fn (a ++ b) q = fn a q := by
  unfold fn; rw [List.getD_eq_getElem?_getD, List.getD_eq_getElem?_getD, List.getElem?_append_left h]
theorem fn_app_right {a b : List Rat} {q : Nat} : fn (a ++ b) (a.length + q) = fn b q := by
  unfold fn; rw [List.getD_eq_getElem?_getD, List.getD_eq_getElem?_getD, List.getElem?_append_right (by omega), Nat.add_sub_cancel_left]
def exts (rows : List (List Rat)) : List (List Rat) := (List.range rows.length).map fun i => rows.getD i [] ++ unitL i rows.length
/-- what a solver holds of rows -/
def solved (rows : List (List Rat)) (size : Nat) : HL := tins size (exts rows) []
def leftOf (rows : List (List Rat)) (size : Nat) (target : List Rat) : List Rat := clr (target ++ List.replicate rows.length 0) (solved rows size)
section
variable {rows : List (List Rat)} {size : Nat} (hr : ∀ r ∈ rows, r.length = size)
include hr
theorem exts_len : ∀ e ∈ exts rows, e.length = size + rows.length := by
  intro e he
  obtain ⟨i, hi, rfl⟩ := List.mem_map.mp he
  have hi' := List.mem_range.mp hi
  have hm : rows.getD i [] ∈ rows := by rw [List.getD_eq_getElem?_getD, List.getElem?_eq_getElem hi']; exact List.getElem_mem hi'
  rw [List.length_append, unitL_length, hr _ hm]
theorem solved_len : ∀ x ∈ solved rows size, x.2.length = size + rows.length := by
  have : ∀ {es : List (List Rat)} {held : HL}, (∀ x ∈ held, x.2.length = size + rows.length) → (∀ e ∈ es, e.length = size + rows.length) → ∀ x ∈ tins size es held, x.2.length = size + rows.length := by
    intro es
    induction es with
    | nil => intro held h _; exact h
    | cons e es ih =>
      intro held h he
      exact ih (tin_len h (he e (List.mem_cons_self ..))) fun x hx => he x (List.mem_cons_of_mem _ hx)
  exact this (fun x hx => by simp at hx) (exts_len hr)
/-- each held row is, below size, the sum of the rows times its entries from size on -/
theorem solved_made : ∀ x ∈ solved rows size, ∀ k, k < size → fn x.2 k = sumf rows.length fun i => fn x.2 (size + i) * fn (rows.getD i []) k := by
  have c : Closed (fun f => ∀ k, k < size → f k = sumf rows.length fun i => f (size + i) * fn (rows.getD i []) k) := by
    refine ⟨fun a b f ha hb k hk => ?_, fun a f ha k hk => ?_⟩
    · show a k - f * b k = _
      rw [ha k hk, hb k hk, ← sumf_lin]
      refine sumf_congr fun i _ => ?_
      grind
    · show a k / f = _
      rw [ha k hk, ← sumf_div]
      refine sumf_congr fun i _ => ?_
      grind
  refine tins_closed c (N := size + rows.length) (held := []) (fun x hx => by simp at hx) (fun x hx => by simp at hx) fun e he => ⟨exts_len hr e he, fun k hk => ?_⟩
  obtain ⟨i, hi, rfl⟩ := List.mem_map.mp he
  have hi' := List.mem_range.mp hi
  have hm : rows.getD i [] ∈ rows := by rw [List.getD_eq_getElem?_getD, List.getElem?_eq_getElem hi']; exact List.getElem_mem hi'
  have hl := hr _ hm
  rw [fn_app_left (by omega)]
  have e1 : (sumf rows.length fun j => fn (rows.getD i [] ++ unitL i rows.length) (size + j) * fn (rows.getD j []) k) = sumf rows.length fun j => if j = i then fn (rows.getD i []) k else 0 := by
    refine sumf_congr fun j hj => ?_
    have : fn (rows.getD i [] ++ unitL i rows.length) (size + j) = fn (unitL i rows.length) j := by rw [← hl]; exact fn_app_right
    rw [this, fn_unitL hj]
    by_cases h : j = i
    · rw [if_pos h, if_pos h, h]; grind
    · rw [if_neg h, if_neg h]; grind
  rw [e1, sumf_point hi', sumf_all_zero (fun _ _ => rfl)]; grind
/-- made: the weights make the target -/
theorem made_ok {target : List Rat} (ht : target.length = size) (h : first (leftOf rows size target) size = none) (k : Nat) (hk : k < size) :
    dot (((leftOf rows size target).drop size).map fun x => -x) (Mt.col rows k) = fn target k := by
  have hl : (target ++ List.replicate rows.length (0 : Rat)).length = size + rows.length := by simp [ht]
  have ll : (leftOf rows size target).length = size + rows.length := by
    unfold leftOf; rw [clr_length (fun x hx => by rw [solved_len hr x hx, hl]), hl]
  have aff := clr_closed (V := fun f => ∀ k, k < size → f k - fn target k = sumf rows.length fun i => f (size + i) * fn (rows.getD i []) k) (W := fun f => ∀ k, k < size → f k = sumf rows.length fun i => f (size + i) * fn (rows.getD i []) k)
    (fun a b f ha hb k hk => by
      show a k - f * b k - fn target k = _
      have e1 := ha k hk
      have e2 := hb k hk
      have e3 := sumf_lin (n := rows.length) (fun i => a (size + i) * fn (rows.getD i []) k) (fun i => b (size + i) * fn (rows.getD i []) k) f
      have e4 : (sumf rows.length fun i => (a (size + i) - f * b (size + i)) * fn (rows.getD i []) k) = sumf rows.length fun q => a (size + q) * fn (rows.getD q []) k - f * (b (size + q) * fn (rows.getD q []) k) := sumf_congr fun i _ => by grind
      rw [e4, e3, ← e1, ← e2]; grind)
    (h := solved rows size) (e := target ++ List.replicate rows.length 0) (fun x hx => by rw [solved_len hr x hx, hl]) (solved_made hr)
    (fun k hk => by
      rw [fn_app_left (by omega), sumf_all_zero (fun i hi => by
        have : fn (target ++ List.replicate rows.length 0) (size + i) = 0 := by
          rw [← ht, fn_app_right]
          exact fn_get (by rw [List.getElem?_replicate, if_pos hi])
        rw [this]; grind)]
      grind)
  have z := aff k hk
  have z0 := first_none h k hk
  have ld : (((leftOf rows size target).drop size).map fun x => -x).length = (Mt.col rows k).length := by
    unfold Mt.col; rw [List.length_map, List.length_drop, List.length_map]; omega
  rw [dot_sumf ld]
  have e1 : (((leftOf rows size target).drop size).map fun x => -x).length = rows.length := by rw [List.length_map, List.length_drop]; omega
  rw [e1]
  have e2 : (sumf rows.length fun q => fn (((leftOf rows size target).drop size).map fun x => -x) q * fn (Mt.col rows k) q) = - sumf rows.length fun i => fn (leftOf rows size target) (size + i) * fn (rows.getD i []) k := by
    have e3 : (sumf rows.length fun q => fn (((leftOf rows size target).drop size).map fun x => -x) q * fn (Mt.col rows k) q) = sumf rows.length fun q => 0 - 1 * (fn (leftOf rows size target) (size + q) * fn (rows.getD q []) k) := by
      refine sumf_congr fun i hi => ?_
      have a1 : fn (((leftOf rows size target).drop size).map fun x => -x) i = - fn (leftOf rows size target) (size + i) := by
        refine fn_get ?_
        rw [List.getElem?_map, List.getElem?_drop, get_fn (by omega)]; rfl
      have a2 : fn (Mt.col rows k) i = fn (rows.getD i []) k := by
        refine fn_get ?_
        unfold Mt.col
        rw [List.getElem?_map, List.getD_eq_getElem?_getD, List.getElem?_eq_getElem hi]; rfl
      rw [a1, a2]; grind
    rw [e3, sumf_lin, sumf_all_zero (fun _ _ => rfl)]; grind
  rw [e2]
  have z1 : fn (leftOf rows size target) k - fn target k = sumf rows.length fun i => fn (leftOf rows size target) (size + i) * fn (rows.getD i []) k := z
  rw [← z1, z0]; grind
end
/-- the marks, held row by held row -/
def mkf (l : List Rat) (place : Nat) : HL → Nat → Rat
  | [], q => if q = place then 1 / fn l place else 0
  | x :: h, q => if q = x.1 then -(fn x.2 place) / fn l place else mkf l place h q
def marksL (l : List Rat) (place size : Nat) (h : HL) : List Rat := (List.range size).map (mkf l place h)
theorem mkf_other {l : List Rat} {place q : Nat} (hq : q ≠ place) : ∀ {h : HL}, (∀ x ∈ h, q ≠ x.1) → mkf l place h q = 0
  | [], _ => if_neg hq
  | x :: h, k => by
    show (if q = x.1 then _ else mkf l place h q) = 0
    rw [if_neg (k x (List.mem_cons_self ..))]
    exact mkf_other hq fun y hy => k y (List.mem_cons_of_mem _ hy)
theorem mkf_sum {l : List Rat} {place size : Nat} (hp : place < size) (f : Fn) : ∀ {h : HL}, (∀ x ∈ h, x.1 < size ∧ x.1 ≠ place) → (h.map (·.1)).Nodup → (sumf size fun q => mkf l place h q * f q) = (1 / fn l place) * (f place - over (fh h) fun x => x.2 place * f x.1)
  | [], _, _ => by
    have : (sumf size fun q => mkf l place [] q * f q) = sumf size fun q => if q = place then (1 / fn l place) * f place else 0 := by
      refine sumf_congr fun q _ => ?_
      show (if q = place then 1 / fn l place else 0) * f q = _
      by_cases h : q = place
      · rw [if_pos h, if_pos h, h]
      · rw [if_neg h, if_neg h]; grind
    rw [this, sumf_point hp, sumf_all_zero (fun _ _ => rfl)]
    show _ = (1 / fn l place) * (f place - over [] _)
    rw [over_nil]; grind
  | x :: h, k, nd => by
    rw [List.map_cons, List.nodup_cons] at nd
    have ih := mkf_sum (l := l) hp f (h := h) (fun y hy => k y (List.mem_cons_of_mem _ hy)) nd.2
    have hx := k x (List.mem_cons_self ..)
    have mx : mkf l place h x.1 = 0 := mkf_other hx.2 fun y hy e => nd.1 (by rw [e]; exact List.mem_map.mpr ⟨y, hy, rfl⟩)
    have e1 : (sumf size fun q => mkf l place (x :: h) q * f q) = sumf size fun q => if q = x.1 then (-(fn x.2 place) / fn l place) * f x.1 else mkf l place h q * f q := by
      refine sumf_congr fun q _ => ?_
      show (if q = x.1 then _ else mkf l place h q) * f q = _
      by_cases h : q = x.1
      · rw [if_pos h, if_pos h, h]
      · rw [if_neg h, if_neg h]
    rw [e1, sumf_point hx.1, ih, mx]
    show _ = (1 / fn l place) * (f place - over ((x.1, fn x.2) :: fh h) _)
    rw [over_cons]
    show _ = (1 / fn l place) * (f place - (fn x.2 place * f x.1 + over (fh h) _))
    grind
end El

set_option linter.all false
set_option maxRecDepth 10000
namespace El
open Mt Dt
theorem over_reverse (h : List (Nat × Fn)) (f : Nat × Fn → Rat) : over h.reverse f = over h f := by
  induction h with
  | nil => rfl
  | cons x h ih =>
    rw [List.reverse_cons, over_append, over_cons, over_nil, over_cons, ih]; grind
theorem fh_reverse (h : HL) : fh h.reverse = (fh h).reverse := by
  unfold fh; rw [List.map_reverse]
theorem fh_take (h : HL) (j : Nat) : fh (h.take j) = (fh h).take j := by
  unfold fh; rw [List.map_take]
/-- rows whose multiples by s are wholes that are not too great -/
structure Okay (s : Int) (E m size : Nat) (rows : List (List Rat)) : Prop where
  s0 : s ≠ 0
  sE : s.natAbs ≤ E
  len : ∀ r ∈ rows, r.length = size
  wholes : ∀ r ∈ rows, ∀ q, ∃ z : Int, (s : Rat) * fn r q = (z : Rat) ∧ z.natAbs ≤ E
  few : rows.length ≤ m
  m1 : 1 ≤ m
  E1 : 1 ≤ E
section
variable {s : Int} {E m size : Nat} {rows : List (List Rat)} (O : Okay s E m size rows)
include O
theorem Okay.sr : (s : Rat) ≠ 0 := fun e => O.s0 (Rat.intCast_inj.mp (by simpa using e))
theorem Okay.ext_ints : ∀ e ∈ exts rows, e.length = size + rows.length ∧ ∀ q, ∃ z : Int, (s : Rat) * fn e q = (z : Rat) ∧ z.natAbs ≤ E := by
  intro e he
  refine ⟨exts_len O.len e he, fun q => ?_⟩
  obtain ⟨i, hi, rfl⟩ := List.mem_map.mp he
  have hi' := List.mem_range.mp hi
  have hm : rows.getD i [] ∈ rows := by rw [List.getD_eq_getElem?_getD, List.getElem?_eq_getElem hi']; exact List.getElem_mem hi'
  have hl := O.len _ hm
  by_cases h1 : q < size
  · rw [fn_app_left (by omega)]
    exact O.wholes _ hm q
  · obtain ⟨j, rfl⟩ : ∃ j, q = (rows.getD i []).length + j := ⟨q - (rows.getD i []).length, by omega⟩
    rw [fn_app_right]
    by_cases h2 : j < rows.length
    · rw [fn_unitL h2]
      by_cases h3 : j = i
      · rw [if_pos h3]; exact ⟨s, by grind, O.sE⟩
      · rw [if_neg h3]; exact ⟨0, by simp, Nat.zero_le _⟩
    · rw [fn_none (by rw [unitL_length]; omega)]
      exact ⟨0, by simp, Nat.zero_le _⟩
/-- what is held behind the first i rows -/
theorem Okay.stage (i : Nat) : ∃ taken, RL (s : Rat) E size (size + rows.length) (tins size ((exts rows).take i) []) taken :=
  tins_red O.sr RL.start fun e he => O.ext_ints e (List.mem_of_mem_take he)
theorem exts_length : (exts rows).length = rows.length := by unfold exts; simp
theorem Okay.stage_few (i : Nat) : (tins size ((exts rows).take i) []).length ≤ m := by
  have h := tins_length (size := size) (es := (exts rows).take i) (held := [])
  have h2 : ((exts rows).take i).length ≤ rows.length := by rw [List.length_take, exts_length O]; omega
  have h3 := O.few
  rw [List.length_nil, Nat.zero_add] at h
  omega
theorem Okay.whole : ∃ taken, RL (s : Rat) E size (size + rows.length) (solved rows size) taken := by
  have := O.stage rows.length
  rw [List.take_of_length_le (by rw [exts_length O]; omega)] at this
  exact this
end
/-- all entries of held rows are bounded -/
theorem RL.bd {s : Rat} {E size N m b : Nat} {held : HL} {taken : List Fn} (R : RL s E size N held taken) (hm : held.length ≤ m) (hE : 1 ≤ E) (h1 : 1 ≤ m) (hb : (m * E) ^ m < 2 ^ b) : ∀ x ∈ held, ∀ q, Bd b b (fn x.2 q) := by
  obtain ⟨d, d0, dB, h⟩ := R.red.bound (m := m) (by unfold fh; rw [List.length_map]; exact hm) hE h1
  intro x hx q
  obtain ⟨z, e, zB⟩ := h (x.1, fn x.2) (List.mem_map.mpr ⟨x, hx, rfl⟩) q
  exact bd_of e d0 (by omega) (by omega)
theorem fn_mem {r : List Rat} {y : Rat} (h : y ∈ r) : ∃ q, y = fn r q := by
  obtain ⟨i, hi⟩ := List.mem_iff_getElem?.mp h
  exact ⟨i, (fn_get hi).symm⟩
/-- and what is left of a row, behind the first j of them -/
theorem RL.part {s : Rat} {s' : Int} {E E' size N m b c : Nat} {held : HL} {taken : List Fn} (R : RL s E size N held taken) (hm : held.length ≤ m) (hE : 1 ≤ E) (h1 : 1 ≤ m) {e : List Rat} (he : e.length = N) (s0 : s' ≠ 0)
    (hi : ∀ q, ∃ z : Int, (s' : Rat) * fn e q = (z : Rat) ∧ z.natAbs ≤ E') (hc : (m + 1) * (E' * (m * E) ^ m) < 2 ^ c) (hd : s'.natAbs * (m * E) ^ m < 2 ^ c) (j : Nat) : ∀ q, Bd c c (fn (clr e (held.take j)) q) := by
  obtain ⟨d, d0, dB, h⟩ := R.red.bound (m := m) (by unfold fh; rw [List.length_map]; exact hm) hE h1
  intro q
  have hl : ∀ x ∈ held.take j, x.2.length = e.length := fun x hx => by rw [R.len x (List.mem_of_mem_take hx), he]
  have hp : (held.take j).Pairwise (fun x y => fn x.2 y.1 = 0) := R.pw.sublist (List.take_sublist j held)
  rw [El.clr_fn hl hp]
  obtain ⟨z, ez, zB⟩ := lft_bound (s := s') (E := E') (B := (m * E) ^ m) (m := m) (part := fh (held.take j)) (e := fn e) (d := d) (by unfold fh; rw [List.length_map, List.length_take]; omega)
    (fun x hx => by
      rw [fh_take] at hx
      exact h x (List.mem_of_mem_take hx)) dB hi q
  refine bd_of ez ?_ (by omega) ?_
  · intro e0
    rcases Int.mul_eq_zero.mp e0 with h | h
    · exact s0 h
    · exact d0 h
  · rw [Int.natAbs_mul]
    exact Nat.lt_of_le_of_lt (Nat.mul_le_mul_left _ dB) hd
/-- apart: the marks are 0 with each row and 1 with the target -/
theorem apart_ok {s : Int} {E m size : Nat} {rows : List (List Rat)} (O : Okay s E m size rows) {target : List Rat} (ht : target.length = size) {place : Nat} (h : first (leftOf rows size target) size = some place) :
    (∀ r ∈ rows, dot (marksL (leftOf rows size target) place size (solved rows size).reverse) r = 0) ∧ dot (marksL (leftOf rows size target) place size (solved rows size).reverse) target = 1 := by
  obtain ⟨taken, R⟩ := O.whole
  have hf := first_some h
  have hl : (target ++ List.replicate rows.length (0 : Rat)).length = size + rows.length := by simp [ht]
  have eL : fn (leftOf rows size target) = lft (fh (solved rows size)) (fn (target ++ List.replicate rows.length 0)) := R.clr_fn hl
  have piv : ∀ x ∈ (solved rows size).reverse, x.1 < size ∧ x.1 ≠ place := by
    intro x hx
    have hx' : (x.1, fn x.2) ∈ fh (solved rows size) := List.mem_map.mpr ⟨x, List.mem_reverse.mp hx, rfl⟩
    refine ⟨R.red.piv _ hx', fun e => hf.2 ?_⟩
    rw [← e, eL]
    exact R.red.lft_piv _ hx'
  have nd : ((solved rows size).reverse.map (·.1)).Nodup := by
    rw [List.map_reverse]
    refine (List.reverse_perm _).nodup_iff.mpr ?_
    rw [List.Nodup, List.pairwise_map, List.pairwise_iff_getElem]
    intro i j hi hj hij e
    have d1 := R.red.delta i j _ _ (show (fh (solved rows size))[i]? = some ((solved rows size)[i].1, fn (solved rows size)[i].2) by unfold fh; rw [List.getElem?_map, List.getElem?_eq_getElem hi]; rfl) (show (fh (solved rows size))[j]? = some ((solved rows size)[j].1, fn (solved rows size)[j].2) by unfold fh; rw [List.getElem?_map, List.getElem?_eq_getElem hj]; rfl)
    have d2 := R.red.delta i i _ _ (show (fh (solved rows size))[i]? = some ((solved rows size)[i].1, fn (solved rows size)[i].2) by unfold fh; rw [List.getElem?_map, List.getElem?_eq_getElem hi]; rfl) (show (fh (solved rows size))[i]? = some ((solved rows size)[i].1, fn (solved rows size)[i].2) by unfold fh; rw [List.getElem?_map, List.getElem?_eq_getElem hi]; rfl)
    rw [if_neg (by omega)] at d1
    rw [if_pos rfl] at d2
    have e' : (solved rows size)[i].1 = (solved rows size)[j].1 := e
    simp only at d1 d2
    rw [← e', d2] at d1
    exact absurd d1 (by decide)
  let g : Fn → Rat := fun f => sumf size fun q => mkf (leftOf rows size target) place (solved rows size).reverse q * f q
  have gv : ∀ f : Fn, g f = (1 / fn (leftOf rows size target) place) * (f place - over (fh (solved rows size)) fun x => x.2 place * f x.1) := by
    intro f
    have := mkf_sum (l := leftOf rows size target) hf.1 f piv nd
    rw [fh_reverse, over_reverse] at this
    exact this
  have lg : LinF size g := by
    refine ⟨fun a b f => ?_, fun a f => ?_, fun a ha => ?_⟩
    · show (sumf size fun q => _ * (a q - f * b q)) = _
      rw [← sumf_lin]
      exact sumf_congr fun q _ => by grind
    · show (sumf size fun q => _ * (a q / f)) = _
      rw [← sumf_div]
      exact sumf_congr fun q _ => by grind
    · exact sumf_all_zero fun q hq => by rw [ha q hq]; grind
  have kh : ∀ x ∈ solved rows size, g (fn x.2) = 0 := by
    intro y hy
    rw [gv]
    obtain ⟨j, hj⟩ := List.mem_iff_getElem?.mp hy
    have hj' : (fh (solved rows size))[j]? = some (y.1, fn y.2) := by unfold fh; rw [List.getElem?_map, hj]; rfl
    have ov := over_delta (fh (solved rows size)) (fun x => x.2 place * fn y.2 x.1) j (y.1, fn y.2) hj' (fun i x hx => by
      have d1 := R.red.delta j i _ _ hj' hx
      have d2 := R.red.delta j j _ _ hj' hj'
      rw [if_pos rfl] at d2
      show x.2 place * fn y.2 x.1 = if i = j then fn y.2 place * fn y.2 y.1 else 0
      have e1 : fn y.2 x.1 = if j = i then 1 else 0 := d1
      have e2 : fn y.2 y.1 = 1 := d2
      rw [e1, e2]
      by_cases h : i = j
      · subst h
        rw [if_pos rfl, if_pos rfl]
        rw [hj'] at hx
        injection hx with hx1
        rw [← hx1]
      · rw [if_neg (fun e => h e.symm), if_neg h]; grind)
    rw [ov]
    have d2 := R.red.delta j j _ _ hj' hj'
    rw [if_pos rfl] at d2
    have e2 : fn y.2 y.1 = 1 := d2
    show _ * (fn y.2 place - fn y.2 place * fn y.2 y.1) = 0
    rw [e2]; grind
  have kr := (tins_kills lg (N := size + rows.length) (es := exts rows) (held := []) (fun x hx => by simp at hx) (exts_len O.len) kh).2
  have lm : (marksL (leftOf rows size target) place size (solved rows size).reverse).length = size := by unfold marksL; simp
  have fm : ∀ q, q < size → fn (marksL (leftOf rows size target) place size (solved rows size).reverse) q = mkf (leftOf rows size target) place (solved rows size).reverse q := fun q hq => fn_get (by unfold marksL; rw [List.getElem?_map, List.getElem?_range hq]; rfl)
  have dg : ∀ r : List Rat, r.length = size → dot (marksL (leftOf rows size target) place size (solved rows size).reverse) r = g (fn r) := by
    intro r hr
    rw [dot_sumf (by omega), lm]
    exact sumf_congr fun q hq => by rw [fm q hq]
  refine ⟨fun r hr => ?_, ?_⟩
  · rw [dg r (O.len r hr)]
    obtain ⟨i, hi⟩ := List.mem_iff_getElem?.mp hr
    have hi' := (List.getElem?_eq_some_iff.mp hi).1
    have ke := kr (rows.getD i [] ++ unitL i rows.length) (List.mem_map.mpr ⟨i, List.mem_range.mpr hi', rfl⟩)
    have er : rows.getD i [] = r := by rw [List.getD_eq_getElem?_getD, hi]; rfl
    rw [er] at ke
    rw [← ke]
    refine sumf_congr fun q hq => ?_
    rw [fn_app_left (by rw [O.len r hr]; exact hq)]
  · rw [dg target ht]
    have e1 : g (fn target) = g (fn (target ++ List.replicate rows.length 0)) := sumf_congr fun q hq => by rw [fn_app_left (by omega)]
    rw [e1, gv]
    have e2 : fn (target ++ List.replicate rows.length 0) place - (over (fh (solved rows size)) fun x => x.2 place * fn (target ++ List.replicate rows.length 0) x.1) = fn (leftOf rows size target) place := by
      rw [eL]
      unfold lft
      congr 1
      exact over_congr fun x _ => by grind
    rw [e2]
    have := hf.2
    grind
end El

set_option Elab.async false
set_option linter.all false
set_option maxRecDepth 100000
/-! enumerate of a tuple; methods and instances of own classes by their defs -/
namespace Ly
open PySem PySem.Spec PyProof.Rows L2
/-- iter and enumerate as they are laid -/
abbrev tupIt (a : Addr) : Obj := { cls := .type "tuple_iterator", data := .fields #[.ref a, .int 0 0] }
abbrev enumOf (n : Nat) : Obj := { cls := .type "enumerate", data := .fields #[.none, .bool false, .ref n, rawInt 0, .none, .none] }
theorem meets_enumT (a : Addr) (items : Array Value) :
    Meets (Builtin.«enumerate.__new__» ⟨[.type "enumerate", .ref a], []⟩) (fun _ R s => s.heap.IsTuple a items ∧ R (.ok (.ret (.ref (s.heap.push (tupIt a)).objs.size))) { s with heap := (s.heap.push (tupIt a)).push (enumOf s.heap.objs.size) }) :=
  .of_wp fun prog w A R s h => by
    obtain ⟨hp, g, d, tk, os⟩ := s
    obtain ⟨h1, h⟩ := h
    have sub := sub_enumerate
    have go : ∀ {A' : Around} {E Q : Value → Shared → Prop}, Q (.ref hp.objs.size) ⟨hp.push (tupIt a), g, d, tk, os⟩ → wpAny (model prog w) A' (pyIter (.ref a)) Q E ⟨hp, g, d, tk, os⟩ := fun q => (begins_tuple a items).iter prog w _ _ ⟨hp, g, d, tk, os⟩ _ h1 q
    have ld : ∃ o, hp.get? a = some o ∧ o.cls = .type "tuple" := let ⟨o, e1, e2, _⟩ := h1; ⟨o, e1, e2⟩
    obtain ⟨⟨oc, od, dt, sl⟩, lo, lc⟩ := ld
    simp only at lc
    subst lc
    wp_walk using AutoSeq1.wpAny_loadPart' lo, go
    refine wpAny_stack_any fun st => wpAny_pure ?_
    split
    · rename_i c _ _ _ _ _
      cases (c == Value.type "enumerate") <;> (wp_walk using AutoSeq1.wpAny_loadPart' lo, go; exact ⟨_, rfl, h⟩)
    · wp_walk using AutoSeq1.wpAny_loadPart' lo, go
      exact ⟨_, rfl, h⟩
theorem call_enumT {prog : Program} {w : World} {A : Around} {E : Value → Shared → Prop} {s : Shared} {a : Addr} {items : Array Value} {Q : Value → Shared → Prop} (hT : s.heap.IsTuple a items)
    (h : ∀ h', IsEnum h' (s.heap.objs.size + 1) s.heap.objs.size 0 .none → h'.IsTupleIter s.heap.objs.size a 0 → (∀ b o, s.heap.get? b = some o → h'.get? b = some o) → Q (.ref (s.heap.objs.size + 1)) { s with heap := h' }) :
    wpAny (model prog w) A (call (.type "enumerate") [.ref a]) Q E s := by
  refine callType_new F.called_enumerate (by decide) (F.typeCall_enumerate_1 _) (F.newCall_enumerate_1 _) (fun obj => F.args_object_init_2 obj _) F.entry_enumerate_new (meets_enumT a items) ⟨hT, ?_⟩
  have z1 : (s.heap.push (tupIt a)).objs.size = s.heap.objs.size + 1 := Heap.size_push ..
  have g2 : ((s.heap.push (tupIt a)).push (enumOf s.heap.objs.size)).get? (s.heap.push (tupIt a)).objs.size = some (enumOf s.heap.objs.size) := Heap.get?_push_size _ rfl
  have g1 : ((s.heap.push (tupIt a)).push (enumOf s.heap.objs.size)).get? s.heap.objs.size = some (tupIt a) := Heap.get?_push_of_some _ (Heap.get?_push_size _ rfl)
  show _ ∧ _
  rw [z1] at g2 ⊢
  exact ⟨⟨_, g2, rfl⟩, h _ g2 ⟨_, g1, rfl, rfl⟩ fun b o x => Heap.get?_push_of_some _ (Heap.get?_push_of_some _ x)⟩
/-- the tuple at a as it stands at each turn, its items with their numbers in new pairs -/
def IteT (K : PySem.W.Frag) (a : Addr) : It where
  go := fun i H => ∃ xs x, SqT K H a xs ∧ xs[i]? = some x
  yld := fun i H v H' => ∃ T x, v = .ref T ∧ H T = none ∧ H' = upd H T (.tup [.int (i : Nat), x]) ∧ ∀ l, SqT K H a l → l[i]? = some x
  stop := fun i H => ∃ xs : List V, SqT K H a xs ∧ xs.length = i
theorem in2 {z a b : Addr} (h : z ∈ [a, b]) : z = a ∨ z = b := by simpa using h
theorem turnE {P : Program} {w : World} {K : PySem.W.Frag} {elts : List Expr} {kk : Nat} {tpos : Pos} {a e it : Addr} (ne : e ≠ it) :
    Turn P w K (.Tuple elts kk tpos) (IteT K a) [e, it] e (fun i h => (∃ old, IsEnum h e it ((i : Nat) : Int) old) ∧ h.IsTupleIter it a i) := by
  refine { mem := List.mem_cons_self .., obj := ?_, keep := ?_, item := ?_, done := ?_, self := fun A i s Q E st h => let ⟨⟨_, he⟩, _⟩ := st; wpAny_pyIter_enum he h }
  · rintro i h ⟨⟨old, he⟩, ⟨o, ho, hc, hd⟩⟩ b hb
    rcases in2 hb with z | z <;> subst z
    · exact ⟨_, he, fun v q => nomatch q⟩
    · exact ⟨o, ho, fun v q => by rw [hd] at q; cases q⟩
  · rintro i h h' ⟨⟨old, he⟩, hi⟩ k
    exact ⟨⟨old, k e (by simp) _ he⟩, hi.at fun o q => k it (by simp) o q⟩
  · intro X hP hw hK hc i pins s σ H E I hf st hg
    subst hP hw hK
    obtain ⟨⟨old, he⟩, hit⟩ := st
    obtain ⟨xs, x, hq, hx⟩ := hg
    obtain ⟨its, rv, p, _⟩ := I.tuple hq
    obtain ⟨u, hu, ru⟩ := rv.get hx
    have le : e < s.heap.objs.size := Heap.lt_size he
    have li : it < s.heap.objs.size := by obtain ⟨_, q, _⟩ := hit; exact Heap.lt_size q
    have na : a ≠ it := fun q => by
      obtain ⟨o, ho, c, _⟩ := hit
      obtain ⟨o', ho', c', _⟩ := p
      rw [← q, ho'] at ho; cases ho
      rw [c'] at c; simp at c
    have nea : e ≠ a := fun q => by
      obtain ⟨o', ho', c', _⟩ := p
      rw [← q, he] at ho'; cases ho'
      simp at c'
    have hd : X.A.in1.handled = none := I.ok.hd hc
    have D := Draws.tuple (prog := X.prog) (w := X.w) hd it a na its.toArray
    have s1 : i < its.toArray.size := by
      have := (List.getElem?_eq_some_iff.mp hu).1
      simpa using this
    refine wpAny_pyNext_enum_itemC D he ⟨hit, p⟩ s1 ne (by simp [ne, nea]) fun v h' tk ev out st' hT hsz hk => ?_
    have eu : u = v := by
      have : its[i]? = some v := by simpa using ev
      rw [hu] at this; exact Option.some.inj this
    subst eu
    refine ⟨_, rfl, wpAny_letOwnedTupleGo_enum (s := { s with heap := h', toks := tk + 1 }) out fun h2 he2 sb => ?_⟩
    have pair : h2.get? s.heap.objs.size = some { cls := .type "tuple", data := .seq #[.int ((i : Nat) : Int) tk, u] } := (sb.2 _ (Nat.ne_of_gt le)).trans hT
    have new : ObjOk X.prog X.w (upd H s.heap.objs.size (.tup [.int (i : Nat), x])) h2 s.heap.objs.size (.tup [.int (i : Nat), x]) := ⟨by show 2 ≤ sizeLine; decide, [.int ((i : Nat) : Int) tk, u], .cons ⟨_, rfl⟩ (.cons ru .nil), ⟨_, pair, rfl, _, rfl⟩⟩
    have I2 : Inv X pins σ (upd H s.heap.objs.size (.tup [.int (i : Nat), x])) { s with heap := h2, toks := tk + 1 } :=
      I.turnedNew (ch := [e, it]) (fun b o hb q => (sb.2 b (fun z => hb (by simp [z]))).trans (hk b o (fun z => hb (by simp [z])) (fun z => hb (by simp [z])) q)) hf (Nat.le_refl _) new
    refine ⟨.ref s.heap.objs.size, _, I2, rfl, ⟨_, x, rfl, I.hok.fresh (Nat.le_refl _), rfl, fun l hl => by rw [I.tuple_inj hl hq]; exact hx⟩, ⟨⟨u, ?_⟩, st'.1.at fun o q => (sb.2 it ne.symm).trans q⟩, fun b hb => ?_⟩
    · rw [show ((i + 1 : Nat) : Int) = (i : Int) + 1 by omega]
      exact he2
    · have hb' : b < s.heap.objs.size := by rcases in2 hb with z | z <;> rw [z] <;> assumption
      rw [upd_ne (Nat.ne_of_lt hb')]
      exact (hf b hb).1
  · intro X hP hw hK hc i pins s σ H E I hf st hg
    subst hP hw hK
    obtain ⟨⟨old, he⟩, hit⟩ := st
    obtain ⟨xs, hq, hx⟩ := hg
    obtain ⟨its, rv, p, _⟩ := I.tuple hq
    have na : a ≠ it := fun q => by
      obtain ⟨o, ho, c, _⟩ := hit
      obtain ⟨o', ho', c', _⟩ := p
      rw [← q, ho'] at ho; cases ho
      rw [c'] at c; simp at c
    have hd : X.A.in1.handled = none := I.ok.hd hc
    have hl := rv.length
    have es : its.toArray.size = i := by simp; omega
    obtain ⟨f0, f1, f2, f3, f4, f5⟩ := hf it (by simp)
    exact wpAny_pyNext_enum_endD (Draws.tuple (prog := X.prog) (w := X.w) hd it a na its.toArray) he (by rw [es]; exact ⟨hit, p⟩) fun h' eb => ⟨rfl, I.turned (t' := s.toks) (fun b o hb q => eb b o hb q) f0 f1 f3 f4 f5⟩
def iEnumT (K : PySem.W.Frag) (ta : TA) : TI := fun σ H R => ta σ H fun vs H1 => ∃ a xs, vs = [.ref a] ∧ SqT K H1 a xs ∧ R (IteT K a) H1
theorem kpi_enumT {X : Cx} (K : PySem.W.Frag) {e : Expr} {ta : TA} {p pos tpos : Pos} {elts : List Expr} {kk : Nat} (hg : Gl X "enumerate") (hm : X.mg "enumerate" = none) (ha : PA X [e] ta) (hs : starEach [e] X.env = [(false, eval e X.env)] := by rfl) (ek : X.K = K := by rfl) :
    PI X (.Tuple elts kk tpos) (.Call (.Name "enumerate" p) [e] [] pos) (iEnumT K ta) := by
  subst ek
  refine ⟨fun pins s σ H R I h => Call_ (ld_blt I hg hm boot_enumerate (PyProof.Rows.callWith_type1 (thn (ha.run pos pins s σ H _ I h) ?_) hs rfl))⟩
  rintro us s1 ⟨vs, H1, I1, r1, a, xs, rfl, hq, q⟩
  cases r1 with | cons r rr =>
  cases rr
  cases r
  obtain ⟨its, rv, p', _⟩ := I1.tuple hq
  refine call_enumT (show s1.heap.IsTuple a its.toArray from p') fun h' he hit hk => wpAny_pyIter_enum he ?_
  have I2 : Inv X pins σ H1 { s1 with heap := h' } := I1.kept (t' := s1.toks) hk
  refine ⟨s1.heap.objs.size + 1, [s1.heap.objs.size + 1, s1.heap.objs.size], _, _, H1, rfl, I2, turnE (Nat.succ_ne_self _), ⟨⟨.none, he⟩, hit⟩, fun b hb => ?_, q⟩
  have le : s1.heap.objs.size ≤ b := by
    rcases in2 hb with z | z <;> rw [z] <;> first | exact Nat.le_refl _ | exact Nat.le_add_right _ _
  exact I1.fpOk le (I1.hok.fresh le)
theorem walk_enumT {K : PySem.W.Frag} {a : Addr} {xs : List V} : Walk (IteT K a) xs.length (fun H => SqT K H a xs) (YPair (fun i => some (.int (i : Nat))) (fun i => xs[i]?)) := by
  refine ⟨fun i _ hi q => ⟨xs, xs[i], q, by simp [hi]⟩, fun _ q => ⟨xs, q, rfl⟩, fun i H v H' _ q y => ?_⟩
  obtain ⟨T, x, h1, h2, h3, h4⟩ := y
  exact ⟨T, .int (i : Nat), x, h1, h2, h3, rfl, h4 xs q⟩
/-! ### own classes -/
section
variable (P : Program) (w : World) (K : PySem.W.Frag) (mg : Str → Option Value) (base : Heap)
/-- the method m of the class at C keeps the promise -/
structure Met (k : Nat) (C : Addr) (m : Str) (ps : List Str) (sp : Sp) : Prop where
  ex : ∃ (f : Addr) (fd : FuncData), FnOk P w K mg base CX0 k f fd ps sp ∧ Meth K C m f ∧ L2.Binds K fd ps []
/-- the class's __init__ does -/
structure Ini (k : Nat) (C : Addr) (ps : List Str) (sp : Sp) : Prop where
  ex : ∃ (f : Addr) (fd : FuncData), FnOk P w K mg base CX0 k f fd ps sp ∧ Mk K C f ∧ L2.Binds K fd ps []
end
section
variable {X : Cx} {k : Nat} {C : Addr} {m x : Str} {ps : List Str} {sp : Sp} {apos p pos : Pos} {o e : Expr} {es : List Expr} {to : TE} {t : TA}
theorem pe_ini (O : Ini X.prog X.w X.K X.mg X.base k C ps sp) (hr : Room (k + 1) X.A) (hg : Gl X x) (hm : X.mg x = some (.ref C)) (ha : PA X (e :: es) t) (hdb : (x == ("__debug__" : Str)) = false := by decide)
    (he : starEach (e :: es) X.env = (false, eval e X.env) :: starEach es X.env := by rfl) (hpl : (backTo pos (starEach es X.env)).any (·.1) = false := by rfl) : PE X (.Call (.Name x p) (e :: es) [] pos) (tMake C sp [] E0 t) := by
  obtain ⟨f, fd, F, M, hb⟩ := O.ex
  exact pe_make M F hr hg hm hb .nil pass0 ha hdb he hpl
theorem pe_met {pl : Sem Bool} (O : Met X.prog X.w X.K X.mg X.base k C m ps sp) (c : Cls X.K C) (hr : Room k X.A) (ho : PE X o to) (ha : PA X (e :: es) t)
    (hst : starEach (e :: es) X.env = (false, eval e X.env) :: starEach es X.env := by rfl) (hpl : (backTo pos (starEach es X.env)).any (·.1) = false := by rfl)
    (ht : eval (.Call (.Attribute o m apos) (e :: es) [] pos) X.env = (do
      let ov ← eval o X.env
      standAt apos.atName
      let (f, first) ← holding [ov] (getMethod ov m pl)
      callWith pos f first (backTo pos (starEach (e :: es) X.env)) (backToKw pos (keywordEach [] X.env))) := by rfl) : PE X (.Call (.Attribute o m apos) (e :: es) [] pos) (tMeth C m sp [] E0 to t) := by
  obtain ⟨f, fd, F, M, hb⟩ := O.ex
  exact pe_meth ho c M F hr hb .nil pass0 ha hst hpl ht
theorem kpe_fld (K : PySem.W.Frag) {f : Str} (ho : PE X o to) (hb : attributeBase o f X.env (eval o X.env) = eval o X.env := by rfl) (ek : X.K = K := by rfl) : PE X (.Attribute o f pos) (tFld K to f) := by
  subst ek
  exact pe_fld ho hb
end
end Ly

set_option Elab.async false
set_option linter.all false
set_option maxRecDepth 100000
set_option maxHeartbeats 4000000
/-! tuple * int for 0 and 1 too; items of a list or a tuple, whichever it be -/
namespace Ly
open PySem PySem.Spec PyProof.Rows L2
theorem tuple_mul0 (l : Addr) (items : Array Value) (n : Nat) (dd : Option Addr) (sl : Array (Option Value)) (u : Tok) (hi : items.isEmpty = false) :
    Meets (Builtin.«tuple.__mul__» ⟨[.ref l, .int 0 u], []⟩) (fun _ R s => s.heap.get? l = some { cls := .type "tuple", dict := dd, data := .seq items n, slots := sl } ∧
      R (.ok (.ret (Value.ref s.heap.objs.size))) { s with heap := s.heap.push { cls := Value.type "tuple", data := Data.seq #[] }, toks := s.toks }) :=
  .of_wp fun prog w A R s h => by
    obtain ⟨hp, g, d, tk, os⟩ := s
    obtain ⟨hl, h⟩ := h
    have f1 := AutoSeq1.idx_int
    wp_walk using wpAny_loadPart' hl
    repeat (first
      | (refine wpAny_ite_false (decide_eq_false (by rw [hi]; decide)) ?_; wp_walk using wpAny_loadPart' hl)
      | (refine wpAny_ite_true (decide_eq_true (by rw [hi]; decide)) ?_; wp_walk using wpAny_loadPart' hl)
      | (refine wpAny_ite_false (decide_eq_false (by decide)) ?_; wp_walk using wpAny_loadPart' hl)
      | (refine wpAny_ite_true (decide_eq_true (by decide)) ?_; wp_walk using wpAny_loadPart' hl))
    exact ⟨_, rfl, h⟩
theorem tuple_mul1 (l : Addr) (items : Array Value) (n : Nat) (dd : Option Addr) (sl : Array (Option Value)) (u : Tok) (hi : items.isEmpty = false) :
    Meets (Builtin.«tuple.__mul__» ⟨[.ref l, .int 1 u], []⟩) (fun _ R s => s.heap.get? l = some { cls := .type "tuple", dict := dd, data := .seq items n, slots := sl } ∧
      R (.ok (.ret (Value.ref l))) s) :=
  .of_wp fun prog w A R s h => by
    obtain ⟨hp, g, d, tk, os⟩ := s
    obtain ⟨hl, h⟩ := h
    have f1 := AutoSeq1.idx_int
    wp_walk using wpAny_loadPart' hl
    repeat (first
      | (refine wpAny_ite_false (decide_eq_false (by rw [hi]; decide)) ?_; wp_walk using wpAny_loadPart' hl)
      | (refine wpAny_ite_true (decide_eq_true (by rw [hi]; decide)) ?_; wp_walk using wpAny_loadPart' hl)
      | (refine wpAny_ite_false (decide_eq_false (by decide)) ?_; wp_walk using wpAny_loadPart' hl)
      | (refine wpAny_ite_true (decide_eq_true (by decide)) ?_; wp_walk using wpAny_loadPart' hl))
    exact ⟨_, rfl, h⟩
def rRepTA (K : PySem.W.Frag) : R2 := fun x y H Q => ∃ l k xs, x = .ref l ∧ y = .int k ∧ SqT K H l xs ∧ xs ≠ [] ∧ 0 ≤ k ∧ k ≤ 1000 ∧ xs.length ≤ 1000 ∧ (k = 1 → Q (.ref l) H) ∧ (k ≠ 1 → ∀ p, H p = none → Q (.ref p) (upd H p (.tup (List.replicate k.toNat xs).flatten)))
section
variable {X : Cx}
theorem op_repTA : OpR X (binaryOp .Mult) (rRepTA X.K) := by
  intro pins s σ H x y v u Q I rx ry h
  obtain ⟨l, k, xs, rfl, rfl, hT, hne, h1, h2, hz, q1, q2⟩ := h
  by_cases k2 : 2 ≤ k
  · exact op_repT pins s σ H _ _ v u Q I rx ry ⟨l, k, xs, rfl, rfl, hT, hne, k2, h2, hz, q2 (by omega)⟩
  cases rx
  obtain ⟨t, rfl⟩ := ry
  obtain ⟨its, r, ⟨⟨cls, dd, data, sl⟩, ho, hc, n, hd⟩, hs⟩ := I.tuple hT
  simp only at hc hd
  subst hc hd
  have hle : its.length = xs.length := r.length.symm
  have hn : its ≠ [] := fun e => hne (by
    rw [e] at hle
    exact List.eq_nil_of_length_eq_zero hle.symm)
  have hi : its.toArray.isEmpty = false := by
    cases its with
    | nil => exact absurd rfl hn
    | cons a b => rfl
  have hk : k = 0 ∨ k = 1 := by omega
  rcases hk with rfl | rfl
  · refine wpAny_binaryOp_repeat_ref (T := "tuple") (U := "int") (by decide) ⟨_, ho, rfl⟩ (fun s' => typeIs_int s' 0 t) noFill_tuple_mul F.fills_int_mul F.slot_int_rmul repeat_tuple F.slot_int_index.lookup
      (call_meets F.slot_int_rmul (typeIs_int s 0 t) F.entry_int_rmul (F.args_int_rmul_2 _ _) (int_rmul_tuple 0 t l its.toArray n dd sl)
        ⟨ho, rfl, ⟨_, ho, rfl⟩, call_meets F.slot_tuple_mul ⟨_, ho, rfl⟩ F.entry_tuple_mul (F.args_tuple_mul_2 _ _) (tuple_mul0 l its.toArray n dd sl t hi) ⟨ho, ?_⟩⟩)
    refine ⟨.ref s.heap.objs.size, _, I.laid (t' := s.toks) (o := .tup []) (fun b ob q => Heap.get?_push_of_some _ q) (Nat.le_refl _) ?_, rfl, q2 (by decide) _ (I.hok.fresh (Nat.le_refl _))⟩
    exact ⟨Nat.zero_le _, [], .nil, IsTup.new _ _⟩
  · exact wpAny_binaryOp_repeat_ref (T := "tuple") (U := "int") (by decide) ⟨_, ho, rfl⟩ (fun s' => typeIs_int s' 1 t) noFill_tuple_mul F.fills_int_mul F.slot_int_rmul repeat_tuple F.slot_int_index.lookup
      (call_meets F.slot_int_rmul (typeIs_int s 1 t) F.entry_int_rmul (F.args_int_rmul_2 _ _) (int_rmul_tuple 1 t l its.toArray n dd sl)
        ⟨ho, rfl, ⟨_, ho, rfl⟩, call_meets F.slot_tuple_mul ⟨_, ho, rfl⟩ F.entry_tuple_mul (F.args_tuple_mul_2 _ _) (tuple_mul1 l its.toArray n dd sl t hi) ⟨ho, ⟨.ref l, H, I, rfl, q1 rfl⟩⟩⟩)
/-! ### a list or a tuple -/
def rIxA (K : PySem.W.Frag) : R2 := fun x y H Q => ∃ p xs i v, x = .ref p ∧ y = .int i ∧ (SqL K H p xs ∨ SqT K H p xs) ∧ atI xs i = some v ∧ Q v H
theorem kix_any (K : PySem.W.Frag) (e : X.K = K := by rfl) : IxR X (rIxA K) := by
  subst e
  intro value slice pins s σ H x y v u Q I rx ry h hs
  obtain ⟨p, xs, i, z, e1, e2, hq, he, q⟩ := h
  rcases hq with hq | hq
  · exact ix_list value slice pins s σ H x y v u Q I rx ry ⟨p, xs, i, z, e1, e2, hq, he, q⟩ hs
  · exact ix_tup value slice pins s σ H x y v u Q I rx ry ⟨p, xs, i, z, e1, e2, hq, he, q⟩ hs
def iAny (K : PySem.W.Frag) (tl : TE) : TI := fun σ H R => tl σ H fun x H1 => ∃ a, x = .ref a ∧ (((∃ xs, SqL K H1 a xs) ∧ R (Itl K a) H1) ∨ ((∃ xs, SqT K H1 a xs) ∧ R (Itt K a) H1))
theorem kpi_any (K : PySem.W.Frag) {tg l : Expr} {tl : TE} (hl : PE X l tl) (e : X.K = K := by rfl) : PI X tg l (iAny K tl) := by
  subst e
  refine ⟨fun pins s σ H R I h => ?_⟩
  refine thn (hl.run pins s σ H _ I h) fun v s1 ⟨x, H1, I1, r1, q1⟩ => ?_
  obtain ⟨a, e, q⟩ := q1
  subst e
  cases r1
  rcases q with ⟨⟨xs, hq⟩, q⟩ | ⟨⟨xs, hq⟩, q⟩
  · obtain ⟨its, rv, p, hz⟩ := I1.list hq
    refine wpAny_pyIter_list p.isList ?_
    refine ⟨s1.heap.objs.size, [s1.heap.objs.size], _, _, H1, rfl, I1.kept (t' := s1.toks) fun b o e => Heap.get?_push_of_some _ e, turn_list a _, ⟨_, Heap.get?_push_size _ rfl, rfl, rfl⟩, fun b hb => ?_, q⟩
    have e : b = s1.heap.objs.size := by simpa using hb
    subst e
    exact I1.fpOk (Nat.le_refl _) (I1.hok.fresh (Nat.le_refl _))
  · obtain ⟨its, rv, p, hz⟩ := I1.tuple hq
    refine wpAny_pyIter_tuple (show s1.heap.IsTuple a its.toArray from p) ?_
    refine ⟨s1.heap.objs.size, [s1.heap.objs.size], _, _, H1, rfl, I1.kept (t' := s1.toks) fun b o e => Heap.get?_push_of_some _ e, turn_tuple a _, ⟨_, Heap.get?_push_size _ rfl, rfl, rfl⟩, fun b hb => ?_, q⟩
    have e : b = s1.heap.objs.size := by simpa using hb
    subst e
    exact I1.fpOk (Nat.le_refl _) (I1.hok.fresh (Nat.le_refl _))
theorem kop_repTA (K : PySem.W.Frag) (e : X.K = K := by rfl) : OpR X (binaryOp .Mult) (rRepTA K) := by subst e; exact op_repTA
theorem kop_catA (K : PySem.W.Frag) (e : X.K = K := by rfl) : OpR X (binaryOp .Add) (rCatA K) := by subst e; exact op_catA
theorem ksl_tupA (K : PySem.W.Frag) (e : X.K = K := by rfl) : SlR X (rSlA K) := by subst e; exact sl_tupA
theorem kop_notIn (K : PySem.W.Frag) (e : X.K = K := by rfl) : OpR X (compareOp .NotIn) (rIn K true) := by subst e; exact op_notIn_seq
end
end Ly

set_option Elab.async false
set_option linter.all false
set_option maxRecDepth 100000
set_option exponentiation.threshold 20000
namespace K39
open PySem PySem.Spec PyProof.Rows L2 Ly Mt El
def topS (i : Nat) : Stmt := PySem.Challenge.pw_sameontrees_k39_whole_made_or_apart.main.body.getD i (.Pass ⟨0, 0, 0, 0⟩)
/-- the i-th statement of a class -/
def inClass : Stmt → Nat → Stmt
  | .ClassDef _ _ _ body _ _ _ _ _ _ _, i => body.getD i (.Pass ⟨0, 0, 0, 0⟩)
  | s, _ => s
/-- what the module's names hold -/
structure Tx (K : PySem.W.Frag) (mg : Str → Option Value) (C : Addr) : Prop where
  m_isinstance : mg "isinstance" = none
  m_len : mg "len" = none
  m_int : mg "int" = none
  m_bool : mg "bool" = none
  m_tuple : mg "tuple" = none
  m_str : mg "str" = none
  m_list : mg "list" = none
  m_abs : mg "abs" = none
  m_all : mg "all" = none
  m_zip : mg "zip" = none
  m_range : mg "range" = none
  m_enumerate : mg "enumerate" = none
  g_gcd : mg "gcd" = some (.builtin "math.gcd")
  g_MOST_ENTRIES : ∃ u, mg "MOST_ENTRIES" = some u ∧ L2.RelV (.int 48) u
  zero : ∃ a, mg "ZERO" = some (.ref a) ∧ ∀ H, ITup K H a [.int 0, .int 1]
  one : ∃ a, mg "ONE" = some (.ref a) ∧ ∀ H, ITup K H a [.int 1, .int 1]
  c_Solver : mg "Solver" = some (.ref C)
  cl : Cls K C
  a_size : NoAttr K C "size"
  a_rows_given : NoAttr K C "rows_given"
  a_held : NoAttr K C "held"

theorem divInt_flip (t b : Int) : Rat.divInt (-t) (-b) = Rat.divInt t b := by
  rw [Rat.neg_divInt_neg]
theorem sub_as (x y : Rat) : Rat.divInt (x.num * (y.den : Int) - y.num * (x.den : Int)) ((x.den : Int) * (y.den : Int)) = x - y := by
  have hx : (x.den : Int) ≠ 0 := by have := den_pos x; omega
  have hy : (y.den : Int) ≠ 0 := by have := den_pos y; omega
  rw [← Rat.divInt_sub_divInt _ _ hx hy, Rat.num_divInt_den, Rat.num_divInt_den]
theorem over_as (x y : Rat) : Rat.divInt (x.num * (y.den : Int)) ((x.den : Int) * y.num) = x / y := by
  rw [← Rat.divInt_mul_divInt, Rat.num_divInt_den, Rat.div_def]
  congr 1
  rw [← Rat.inv_divInt, Rat.num_divInt_den]
theorem num_ne {y : Rat} (h : y ≠ 0) : y.num ≠ 0 := fun e => h (num_zero e)
section
variable {P : Program} {w : World} {K : PySem.W.Frag} {mg : Str → Option Value} {base : Heap} {C : Addr}
abbrev s_is_int : Stmt := topS 7
theorem sc_is_int : FnScope ["thing"] ["thing"] (defScope s_is_int) := ⟨rfl, rfl, rfl, by decide +kernel, rfl, by decide +kernel, by decide +kernel⟩
def sp_is_int : Sp := fun vs H Q _ => ∃ i, vs = [.int i] ∧ Q (.bl true) H
theorem ok_is_int {f : Addr} {fd : FuncData} {k : Nat} (F : Fun K "is_int" "is_int" s_is_int f fd) (T : Tx K mg C) : FnOk P w K mg base CX0 (k + 1) f fd ["thing"] sp_is_int := by
  have nd := sc_is_int.nd
  refine F.ok sc_is_int (fun vs H Q E h => ?_) (fun cdv A outer s H vs Q E hr h => ?_)
  · obtain ⟨i, rfl, _⟩ := h
    rfl
  · obtain ⟨i, rfl, q⟩ := h
    refine ⟨_, (pss_one (ps_ret (pe_and (pe_callB (kcall_isi K) (by rfl) T.m_isinstance (by decide +kernel) (pa_cons (pv 0) (pa_cons (pe_bltn (v := .ty "int") (u := .type "int") (by rfl) T.m_int (by decide +kernel) rfl) pa_nil))) (pe_one (pe_not (pe_callB (kcall_isi K) (by rfl) T.m_isinstance (by decide +kernel) (pa_cons (pv 0) (pa_cons (pe_bltn (v := .ty "bool") (u := .type "bool") (by rfl) T.m_bool (by decide +kernel) rfl) pa_nil)))))))), ?_⟩
    refine ⟨.int i, rfl, .int i, _, .type "int", _, true, rfl, .ty _, .base (.int i), kit_ty (by decide +kernel), true, rfl, ?_⟩
    exact iteT ⟨.int i, rfl, .int i, _, .type "int", _, false, rfl, .ty _, .base (.int i), kit_ty (by decide +kernel), false, rfl, q⟩

abbrev s_is_pair : Stmt := topS 8
theorem sc_is_pair : FnScope ["thing"] ["thing"] (defScope s_is_pair) := ⟨rfl, rfl, rfl, by decide +kernel, rfl, by decide +kernel, by decide +kernel⟩
def sp_is_pair (K : PySem.W.Frag) : Sp := fun vs H Q _ => ∃ a xs, vs = [.ref a] ∧ ITup K H a xs ∧ xs.length = 2 ∧ Q (.bl true) H
theorem ok_is_pair {f : Addr} {fd : FuncData} {k : Nat} (F : Fun K "is_pair" "is_pair" s_is_pair f fd) (T : Tx K mg C) : FnOk P w K mg base CX0 (k + 1) f fd ["thing"] (sp_is_pair K) := by
  have nd := sc_is_pair.nd
  refine F.ok sc_is_pair (fun vs H Q E h => ?_) (fun cdv A outer s H vs Q E hr h => ?_)
  · obtain ⟨i, xs, rfl, _⟩ := h
    rfl
  · obtain ⟨a, xs, rfl, ha, hl, q⟩ := h
    refine ⟨_, (pss_one (ps_ret (pe_and (pe_callB (kcall_isi K) (by rfl) T.m_isinstance (by decide +kernel) (pa_cons (pv 0) (pa_cons (pe_bltn (v := .ty "tuple") (u := .type "tuple") (by rfl) T.m_tuple (by decide +kernel) rfl) pa_nil))) (pe_one (pe_cmpR op_eq (pe_callB (kcall_len K) (by rfl) T.m_len PySem.boot_len (pa_cons (pv 0) pa_nil)) pe_int (nomark _)))))), ?_⟩
    refine ⟨.ref a, rfl, .ref a, _, .type "tuple", _, true, rfl, .ty _, ity ha, kit_ty (by decide +kernel), true, rfl, ?_⟩
    refine iteT ⟨.ref a, rfl, a, xs, rfl, .inr ha.sq, rfl, ?_⟩
    rw [hl]
    exact q

abbrev s_is_ratio : Stmt := topS 12
theorem sc_is_ratio : FnScope ["thing"] ["thing"] (defScope s_is_ratio) := ⟨rfl, rfl, rfl, by decide +kernel, rfl, by decide +kernel, by decide +kernel⟩
def sp_is_ratio (K : PySem.W.Frag) : Sp := fun vs H Q _ => ∃ v q, vs = [v] ∧ Im K H v (rD q) ∧ Q (.bl true) H
theorem ok_is_ratio {f : Addr} {fd : FuncData} {k : Nat} (F : Fun K "is_ratio" "is_ratio" s_is_ratio f fd) (T : Tx K mg C){ki : Nat} (D_is_pair : Def P w K mg base ki "is_pair" s_is_pair ["thing"] (sp_is_pair K)) (D_is_int : Def P w K mg base ki "is_int" s_is_int ["thing"] sp_is_int) (hk : ki ≤ k) : FnOk P w K mg base CX0 (k + 1) f fd ["thing"] (sp_is_ratio K) := by
  have nd := sc_is_ratio.nd
  refine F.ok sc_is_ratio (fun vs H Q E h => ?_) (fun cdv A outer s H vs Q E hr h => ?_)
  · obtain ⟨i, xs, rfl, _⟩ := h
    rfl
  · obtain ⟨v, q, rfl, hv, z⟩ := h
    obtain ⟨a, rfl, ha⟩ := rat_inv hv
    refine ⟨_, (pss_cons (ps_if (PW.pt (pw_or (pt_not (pt_val (pe_def D_is_pair (hr.mono (by omega)) rfl (pa_cons (pv 0) pa_nil)))) (pw_or (pt_not (pt_val (pe_def D_is_int (hr.mono (by omega)) rfl (pa_cons (pe_ix (kix_tup K) (pv 0) pe_int (fun _ _ => rfl)) pa_nil)))) (pw_or (pt_not (pt_val (pe_def D_is_int (hr.mono (by omega)) rfl (pa_cons (pe_ix (kix_tup K) (pv 0) pe_int (fun _ _ => rfl)) pa_nil)))) (pw_or1 (pt_cmpR op_lt (pe_ix (kix_tup K) (pv 0) pe_int (fun _ _ => rfl)) pe_int (nomark _)))))))
        (pss_one (ps_ret pe_bl))
        pss_nil)
      (pss_one (ps_ret (pe_cmpR op_eq (pe_callBfun cr_gcd (by rfl) T.g_gcd (pa_cons (pe_ix (kix_tup K) (pv 0) pe_int (fun _ _ => rfl)) (pa_cons (pe_ix (kix_tup K) (pv 0) pe_int (fun _ _ => rfl)) pa_nil))) pe_int (nomark _))))), ?_⟩
    refine ⟨.ref a, rfl, a, _, rfl, ha, rfl, true, rfl, iteF ?_⟩
    refine ⟨.ref a, rfl, a, _, 0, _, rfl, rfl, ha.sq, atI_nat (j := 0) rfl, _, rfl, true, rfl, iteF ?_⟩
    refine ⟨.ref a, rfl, a, _, 1, _, rfl, rfl, ha.sq, atI_nat (j := 1) rfl, _, rfl, true, rfl, iteF ?_⟩
    refine ⟨.ref a, rfl, a, _, 1, _, rfl, rfl, ha.sq, atI_nat (j := 1) rfl, _, _, rfl, rfl, _, rfl, ?_⟩
    have hp := den_pos q
    rw [decide_eq_false (show ¬ (q.den : Int) < 1 by omega)]
    refine iteF ?_
    refine ⟨.ref a, rfl, a, _, 0, _, rfl, rfl, ha.sq, atI_nat (j := 0) rfl, .ref a, rfl, a, _, 1, _, rfl, rfl, ha.sq, atI_nat (j := 1) rfl, _, _, rfl, rfl, ?_⟩
    rw [cop q]
    exact z


abbrev s_made : Stmt := topS 13
theorem sc_made : FnScope ["top", "bottom", "common"] ["top", "bottom"] (defScope s_made) := ⟨rfl, rfl, rfl, by decide +kernel, rfl, by decide +kernel, by decide +kernel⟩
def sp_made : Sp := fun vs H Q _ => ∃ t b, vs = [.int t, .int b] ∧ b ≠ 0 ∧ b.natAbs < 2 ^ 9000 ∧ ∀ p, H p = none → Q (.ref p) (upd H p (.tup [.int (Rat.divInt t b).num, .int ((Rat.divInt t b).den : Int)]))
theorem ok_made {f : Addr} {fd : FuncData} {k : Nat} (F : Fun K "made" "made" s_made f fd) (T : Tx K mg C) : FnOk P w K mg base CX0 (k + 1) f fd ["top", "bottom"] sp_made := by
  have nd := sc_made.nd
  refine F.ok sc_made (fun vs H Q E h => ?_) (fun cdv A outer s H vs Q E hr h => ?_)
  · obtain ⟨i, xs, rfl, _⟩ := h
    rfl
  · obtain ⟨t, b, rfl, hb, hs, q⟩ := h
    refine ⟨_, (C8.pss_cut (ps_if (pt_cmpR op_lt (pv 1) pe_int (nomark _))
        (pss_one (ps_par (i := 0) (j := 1) (by rfl) nd rfl rfl (by decide) rfl rfl (pa_cons (pe_un un_neg (pv 0)) (pa_cons (pe_un un_neg (pv 1)) pa_nil)) (by rfl)))
        pss_nil)
      (pss_cons (ps_set (i := 2) nd rfl (.inl rfl) (pe_callBfun cr_gcd (by rfl) T.g_gcd (pa_cons (pv 0) (pa_cons (pv 1) pa_nil))))
      (pss_one (ps_ret (pe_tup (pa_cons (pe_op op_fdivW (pv 0) (pv 2)) (pa_cons (pe_op op_fdivW (pv 1) (pv 2)) pa_nil))))))), ?_⟩
    refine ⟨fun σ' H' => H' = H ∧ ∃ t' b', σ' = [some (.int t'), some (.int b'), none] ∧ 0 < b' ∧ b'.natAbs < 2 ^ 9000 ∧ Rat.divInt t' b' = Rat.divInt t b, ?_, ?_⟩
    · refine ⟨.int b, rfl, _, _, rfl, rfl, _, rfl, ?_⟩
      by_cases h0 : b < 0
      · rw [decide_eq_true h0]
        exact iteT ⟨.int t, rfl, t, rfl, .int b, rfl, b, rfl, _, _, rfl, rfl, -t, -b, rfl, by omega, by rw [Int.natAbs_neg]; exact hs, divInt_flip t b⟩
      · rw [decide_eq_false h0]
        exact iteF ⟨rfl, t, b, rfl, by omega, hs, rfl⟩
    · rintro σ' H' ⟨rfl, t', b', rfl, hb', hs', e⟩
      refine ⟨.int t', rfl, .int b', rfl, t', b', rfl, ?_⟩
      have c := wide_div (i := t') (gcd_pos (t := t') hb') (Nat.lt_of_le_of_lt (gcd_le hb') hs') (by decide) (Nat.le_refl _)
      have c' := wide_div (i := b') (gcd_pos (t := t') hb') (Nat.lt_of_le_of_lt (gcd_le hb') hs') (by decide) (Nat.le_refl _)
      refine ⟨.int t', rfl, .int _, rfl, _, _, rfl, rfl, c, .int b', rfl, .int _, rfl, _, _, rfl, rfl, c', by show 2 ≤ sizeLine; decide, fun p hp => ?_⟩
      have z := q p hp
      rw [← e, ← made_num hb', ← made_den hb'] at z
      exact z

/-- one - other -/
abbrev s_minus : Stmt := topS 14
theorem sc_minus : FnScope ["one", "other"] ["one", "other"] (defScope s_minus) := ⟨rfl, rfl, rfl, by decide +kernel, rfl, by decide +kernel, by decide +kernel⟩
def sp_minus (K : PySem.W.Frag) : Sp := fun vs H Q _ => ∃ v u x y, vs = [v, u] ∧ Im K H v (rD x) ∧ Im K H u (rD y) ∧ Bd 2900 2900 x ∧ Bd 5800 5800 y ∧ ∀ p H', Same H H' → H p = none → Im K H' (.ref p) (rD (x - y)) → Q (.ref p) H'
theorem ok_minus {f : Addr} {fd : FuncData} {k : Nat} (F : Fun K "minus" "minus" s_minus f fd) (T : Tx K mg C){ki : Nat} (D_made : Def P w K mg base ki "made" s_made ["top", "bottom"] sp_made) (hk : ki ≤ k) : FnOk P w K mg base CX0 (k + 1) f fd ["one", "other"] (sp_minus K) := by
  have nd := sc_minus.nd
  refine F.ok sc_minus (fun vs H Q E h => ?_) (fun cdv A outer s H vs Q E hr h => ?_)
  · obtain ⟨i, xs, _, _, rfl, _⟩ := h
    rfl
  · obtain ⟨v, u, x, y, rfl, hv, hu, bx, bw, q⟩ := h
    obtain ⟨a, rfl, ha⟩ := rat_inv hv
    obtain ⟨b, rfl, hb⟩ := rat_inv hu
    refine ⟨_, (pss_one (ps_ret (pe_def D_made (hr.mono (by omega)) rfl (pa_cons (pe_op op_sub (pe_op op_mulW (pe_ix (kix_tup K) (pv 0) pe_int (fun _ _ => rfl)) (pe_ix (kix_tup K) (pv 1) pe_int (fun _ _ => rfl))) (pe_op op_mulW (pe_ix (kix_tup K) (pv 1) pe_int (fun _ _ => rfl)) (pe_ix (kix_tup K) (pv 0) pe_int (fun _ _ => rfl)))) (pa_cons (pe_op op_mulW (pe_ix (kix_tup K) (pv 0) pe_int (fun _ _ => rfl)) (pe_ix (kix_tup K) (pv 1) pe_int (fun _ _ => rfl))) pa_nil))))), ?_⟩
    refine ⟨.ref a, rfl, a, _, 0, _, rfl, rfl, ha.sq, atI_nat (j := 0) rfl, .ref b, rfl, b, _, 1, _, rfl, rfl, hb.sq, atI_nat (j := 1) rfl, _, _, rfl, rfl, wide_mul bx.1 bw.2 (by decide) (by decide) (by decide), ?_⟩
    refine ⟨.ref b, rfl, b, _, 0, _, rfl, rfl, hb.sq, atI_nat (j := 0) rfl, .ref a, rfl, a, _, 1, _, rfl, rfl, ha.sq, atI_nat (j := 1) rfl, _, _, rfl, rfl, wide_mul bw.1 bx.2 (by decide) (by decide) (by decide), ?_⟩
    refine ⟨_, _, rfl, rfl, ?_⟩
    refine ⟨.ref a, rfl, a, _, 1, _, rfl, rfl, ha.sq, atI_nat (j := 1) rfl, .ref b, rfl, b, _, 1, _, rfl, rfl, hb.sq, atI_nat (j := 1) rfl, _, _, rfl, rfl, wide_mul bx.2 bw.2 (by decide) (by decide) (by decide), ?_⟩
    refine ⟨_, _, rfl, Int.ne_of_gt (Int.mul_pos (den_pos x) (den_pos y)), lt_up (lt_mul bx.2 bw.2) (by decide), fun p hp => ?_⟩
    rw [sub_as]
    exact q p _ (same_new hp) hp (rat_mk (.inl upd_same))

/-- one * other -/
abbrev s_times : Stmt := topS 15
theorem sc_times : FnScope ["one", "other"] ["one", "other"] (defScope s_times) := ⟨rfl, rfl, rfl, by decide +kernel, rfl, by decide +kernel, by decide +kernel⟩
def sp_times (K : PySem.W.Frag) : Sp := fun vs H Q _ => ∃ v u x y, vs = [v, u] ∧ Im K H v (rD x) ∧ Im K H u (rD y) ∧ Bd 4400 4400 x ∧ Bd 4400 4400 y ∧ ∀ p H', Same H H' → H p = none → Im K H' (.ref p) (rD (x * y)) → Q (.ref p) H'
theorem ok_times {f : Addr} {fd : FuncData} {k : Nat} (F : Fun K "times" "times" s_times f fd) (T : Tx K mg C){ki : Nat} (D_made : Def P w K mg base ki "made" s_made ["top", "bottom"] sp_made) (hk : ki ≤ k) : FnOk P w K mg base CX0 (k + 1) f fd ["one", "other"] (sp_times K) := by
  have nd := sc_times.nd
  refine F.ok sc_times (fun vs H Q E h => ?_) (fun cdv A outer s H vs Q E hr h => ?_)
  · obtain ⟨i, xs, _, _, rfl, _⟩ := h
    rfl
  · obtain ⟨v, u, x, y, rfl, hv, hu, bx, bw, q⟩ := h
    obtain ⟨a, rfl, ha⟩ := rat_inv hv
    obtain ⟨b, rfl, hb⟩ := rat_inv hu
    refine ⟨_, (pss_one (ps_ret (pe_def D_made (hr.mono (by omega)) rfl (pa_cons (pe_op op_mulW (pe_ix (kix_tup K) (pv 0) pe_int (fun _ _ => rfl)) (pe_ix (kix_tup K) (pv 1) pe_int (fun _ _ => rfl))) (pa_cons (pe_op op_mulW (pe_ix (kix_tup K) (pv 0) pe_int (fun _ _ => rfl)) (pe_ix (kix_tup K) (pv 1) pe_int (fun _ _ => rfl))) pa_nil))))), ?_⟩
    refine ⟨.ref a, rfl, a, _, 0, _, rfl, rfl, ha.sq, atI_nat (j := 0) rfl, .ref b, rfl, b, _, 0, _, rfl, rfl, hb.sq, atI_nat (j := 0) rfl, _, _, rfl, rfl, wide_mul bx.1 bw.1 (by decide) (by decide) (by decide), ?_⟩
    refine ⟨.ref a, rfl, a, _, 1, _, rfl, rfl, ha.sq, atI_nat (j := 1) rfl, .ref b, rfl, b, _, 1, _, rfl, rfl, hb.sq, atI_nat (j := 1) rfl, _, _, rfl, rfl, wide_mul bx.2 bw.2 (by decide) (by decide) (by decide), ?_⟩
    refine ⟨_, _, rfl, Int.ne_of_gt (Int.mul_pos (den_pos x) (den_pos y)), lt_up (lt_mul bx.2 bw.2) (by decide), fun p hp => ?_⟩
    rw [mul_as]
    exact q p _ (same_new hp) hp (rat_mk (.inl upd_same))

/-- one / other -/
abbrev s_over : Stmt := topS 16
theorem sc_over : FnScope ["one", "other"] ["one", "other"] (defScope s_over) := ⟨rfl, rfl, rfl, by decide +kernel, rfl, by decide +kernel, by decide +kernel⟩
def sp_over (K : PySem.W.Frag) : Sp := fun vs H Q _ => ∃ v u x y, vs = [v, u] ∧ Im K H v (rD x) ∧ Im K H u (rD y) ∧ Bd 4400 4400 x ∧ Bd 4400 4400 y ∧ y ≠ 0 ∧ ∀ p H', Same H H' → H p = none → Im K H' (.ref p) (rD (x / y)) → Q (.ref p) H'
theorem ok_over {f : Addr} {fd : FuncData} {k : Nat} (F : Fun K "over" "over" s_over f fd) (T : Tx K mg C){ki : Nat} (D_made : Def P w K mg base ki "made" s_made ["top", "bottom"] sp_made) (hk : ki ≤ k) : FnOk P w K mg base CX0 (k + 1) f fd ["one", "other"] (sp_over K) := by
  have nd := sc_over.nd
  refine F.ok sc_over (fun vs H Q E h => ?_) (fun cdv A outer s H vs Q E hr h => ?_)
  · obtain ⟨i, xs, _, _, rfl, _⟩ := h
    rfl
  · obtain ⟨v, u, x, y, rfl, hv, hu, bx, bw, hy, q⟩ := h
    obtain ⟨a, rfl, ha⟩ := rat_inv hv
    obtain ⟨b, rfl, hb⟩ := rat_inv hu
    refine ⟨_, (pss_one (ps_ret (pe_def D_made (hr.mono (by omega)) rfl (pa_cons (pe_op op_mulW (pe_ix (kix_tup K) (pv 0) pe_int (fun _ _ => rfl)) (pe_ix (kix_tup K) (pv 1) pe_int (fun _ _ => rfl))) (pa_cons (pe_op op_mulW (pe_ix (kix_tup K) (pv 0) pe_int (fun _ _ => rfl)) (pe_ix (kix_tup K) (pv 1) pe_int (fun _ _ => rfl))) pa_nil))))), ?_⟩
    refine ⟨.ref a, rfl, a, _, 0, _, rfl, rfl, ha.sq, atI_nat (j := 0) rfl, .ref b, rfl, b, _, 1, _, rfl, rfl, hb.sq, atI_nat (j := 1) rfl, _, _, rfl, rfl, wide_mul bx.1 bw.2 (by decide) (by decide) (by decide), ?_⟩
    refine ⟨.ref a, rfl, a, _, 1, _, rfl, rfl, ha.sq, atI_nat (j := 1) rfl, .ref b, rfl, b, _, 0, _, rfl, rfl, hb.sq, atI_nat (j := 0) rfl, _, _, rfl, rfl, wide_mul bx.2 bw.1 (by decide) (by decide) (by decide), ?_⟩
    refine ⟨_, _, rfl, Int.mul_ne_zero (by have := den_pos x; omega) (num_ne hy), lt_up (lt_mul bx.2 bw.1) (by decide), fun p hp => ?_⟩
    rw [over_as]
    exact q p _ (same_new hp) hp (rat_mk (.inl upd_same))

abbrev s_opposite : Stmt := topS 17
theorem sc_opposite : FnScope ["one"] ["one"] (defScope s_opposite) := ⟨rfl, rfl, rfl, by decide +kernel, rfl, by decide +kernel, by decide +kernel⟩
def sp_opposite (K : PySem.W.Frag) : Sp := fun vs H Q _ => ∃ v x, vs = [v] ∧ Im K H v (rD x) ∧ ∀ p H', Same H H' → H p = none → Im K H' (.ref p) (rD (-x)) → Q (.ref p) H'
theorem ok_opposite {f : Addr} {fd : FuncData} {k : Nat} (F : Fun K "opposite" "opposite" s_opposite f fd) (T : Tx K mg C) : FnOk P w K mg base CX0 (k + 1) f fd ["one"] (sp_opposite K) := by
  have nd := sc_opposite.nd
  refine F.ok sc_opposite (fun vs H Q E h => ?_) (fun cdv A outer s H vs Q E hr h => ?_)
  · obtain ⟨i, xs, rfl, _⟩ := h
    rfl
  · obtain ⟨v, x, rfl, hv, q⟩ := h
    obtain ⟨a, rfl, ha⟩ := rat_inv hv
    refine ⟨_, (pss_one (ps_ret (pe_tup (pa_cons (pe_un un_neg (pe_ix (kix_tup K) (pv 0) pe_int (fun _ _ => rfl))) (pa_cons (pe_ix (kix_tup K) (pv 0) pe_int (fun _ _ => rfl)) pa_nil))))), ?_⟩
    refine ⟨.ref a, rfl, a, _, 0, _, rfl, rfl, ha.sq, atI_nat (j := 0) rfl, _, rfl, .ref a, rfl, a, _, 1, _, rfl, rfl, ha.sq, atI_nat (j := 1) rfl, by show 2 ≤ sizeLine; decide, fun p hp => q p _ (same_new hp) hp (rat_mk ?_)⟩
    rw [Rat.neg_num, Rat.neg_den]
    exact .inl upd_same

abbrev s_is_vector : Stmt := topS 20
theorem sc_is_vector : FnScope ["thing", "entry"] ["thing"] (defScope s_is_vector) := ⟨rfl, rfl, rfl, by decide +kernel, rfl, by decide +kernel, by decide +kernel⟩
def sp_is_vector (K : PySem.W.Frag) : Sp := fun vs H Q _ => ∃ v r, vs = [v] ∧ Im K H v (vD r) ∧ r.length ≤ 48 ∧ ∀ H', Same H H' → Q (.bl true) H'
theorem ok_is_vector {f : Addr} {fd : FuncData} {k : Nat} (F : Fun K "is_vector" "is_vector" s_is_vector f fd) (T : Tx K mg C){ki : Nat} (D_is_ratio : Def P w K mg base ki "is_ratio" s_is_ratio ["thing"] (sp_is_ratio K)) (hk : ki ≤ k) : FnOk P w K mg base CX0 (k + 1) f fd ["thing"] (sp_is_vector K) := by
  have nd := sc_is_vector.nd
  refine F.ok sc_is_vector (fun vs H Q E h => ?_) (fun cdv A outer s H vs Q E hr h => ?_)
  · obtain ⟨i, xs, rfl, _⟩ := h
    rfl
  · obtain ⟨v, r, rfl, hv, hl, q⟩ := h
    obtain ⟨a, xs, rfl, ha, hxs⟩ := vec_inv hv
    have lx : xs.length = r.length := all_len hxs
    refine ⟨_, (pss_one (ps_ret (pe_and (pe_callB (kcall_isi K) (by rfl) T.m_isinstance (by decide +kernel) (pa_cons (pv 0) (pa_cons (pe_bltn (v := .ty "tuple") (u := .type "tuple") (by rfl) T.m_tuple (by decide +kernel) rfl) pa_nil))) (pe_and (pe_cmpR op_le (pe_callB (kcall_len K) (by rfl) T.m_len PySem.boot_len (pa_cons (pv 0) pa_nil)) (pe_gv rfl T.g_MOST_ENTRIES) (nomark _)) (pe_one (pe_callB (kcr_all K) (by rfl) T.m_all (by decide +kernel) (pa_cons (pe_lc (own := [("entry", 1)]) (g := gName 1) (tt := tYes) rfl nd (kpi_tup K (pv 0)) (blkOk_by (by rfl)) (fun _ _ _ _ _ => (pg_name (i := 1) nd rfl (.inl rfl))) (fun _ _ _ _ _ => pts_nil) (fun _ _ _ _ _ => (pe_def D_is_ratio (hr.mono (by omega)) rfl (pa_cons (pv 1) pa_nil)))) pa_nil))))))), ?_⟩
    refine ⟨.ref a, rfl, .ref a, _, .type "tuple", _, true, rfl, .ty _, ity ha, kit_ty (by decide +kernel), true, rfl, ?_⟩
    refine iteT ⟨.ref a, rfl, a, xs, rfl, .inr ha.sq, _, _, rfl, rfl, _, rfl, ?_⟩
    rw [decide_eq_true (show (xs.length : Int) ≤ 48 by omega)]
    refine iteT ⟨.ref a, rfl, a, rfl, ⟨xs, ha.sq⟩, fun D hD => ?_⟩
    refine lc_all (walk_tup (xs := xs)) (fun i H2 => Same H H2 ∧ H2 D = some (.lst ((List.replicate i true).map V.bl))) ⟨same_new hD, upd_same⟩ (fun i H2 _ z => (ha.mono (tk_same z.1)).sq) (fun i x H2 H3 hi z y => ?_) (fun H2 z => ?_)
    · obtain ⟨sm, eD⟩ := z
      obtain ⟨rfl, hx⟩ := y
      obtain ⟨qq, _, iq⟩ := all_get hxs hx
      refine ⟨rfl, x, rfl, x, qq, rfl, Im.mono (tk_same sm) _ iq, _, eD, ?_, fun b o e => ?_, ?_⟩
      · rw [List.length_map, List.length_replicate]; exact small1000 (by omega)
      · rw [upd_ne (ne_of_none e hD)]
        exact sm _ _ e
      · rw [upd_same, List.replicate_succ', List.map_append]; rfl
    · refine ⟨D, List.replicate xs.length true, rfl, .of z.2, ?_⟩
      have e : (List.replicate xs.length true).all id = true := by simp
      rw [e]
      exact q _ z.1

abbrev s_is_matrix : Stmt := topS 21
theorem sc_is_matrix : FnScope ["thing", "row"] ["thing"] (defScope s_is_matrix) := ⟨rfl, rfl, rfl, by decide +kernel, rfl, by decide +kernel, by decide +kernel⟩
def sp_is_matrix (K : PySem.W.Frag) : Sp := fun vs H Q _ => ∃ v A n, vs = [v] ∧ Im K H v (mD A) ∧ A.length ≤ 48 ∧ (∀ r ∈ A, r.length = n) ∧ n ≤ 48 ∧ ∀ H', Same H H' → Q (.bl true) H'
theorem ok_is_matrix {f : Addr} {fd : FuncData} {k : Nat} (F : Fun K "is_matrix" "is_matrix" s_is_matrix f fd) (T : Tx K mg C){ki : Nat} (D_is_vector : Def P w K mg base ki "is_vector" s_is_vector ["thing"] (sp_is_vector K)) (hk : ki ≤ k) : FnOk P w K mg base CX0 (k + 1) f fd ["thing"] (sp_is_matrix K) := by
  have nd := sc_is_matrix.nd
  refine F.ok sc_is_matrix (fun vs H Q E h => ?_) (fun cdv A outer s H vs Q E hr h => ?_)
  · obtain ⟨i, xs, _, rfl, _⟩ := h
    rfl
  · obtain ⟨v, M, n, rfl, hv, hl, hn, h48, q⟩ := h
    obtain ⟨a, xs, rfl, ha, hxs⟩ := mat_inv hv
    have lx : xs.length = M.length := all_len hxs
    refine ⟨_, (pss_cons (ps_if (PW.pt (pw_or (pt_not (pt_val (pe_callB (kcall_isi K) (by rfl) T.m_isinstance (by decide +kernel) (pa_cons (pv 0) (pa_cons (pe_bltn (v := .ty "tuple") (u := .type "tuple") (by rfl) T.m_tuple (by decide +kernel) rfl) pa_nil))))) (pw_or1 (pt_cmpR op_gt (pe_callB (kcall_len K) (by rfl) T.m_len PySem.boot_len (pa_cons (pv 0) pa_nil)) (pe_gv rfl T.g_MOST_ENTRIES) (nomark _)))))
        (pss_one (ps_ret pe_bl))
        pss_nil)
      (pss_cons (ps_if (pt_not (pt_val (pe_callB (kcr_all K) (by rfl) T.m_all (by decide +kernel) (pa_cons (pe_lc (own := [("row", 1)]) (g := gName 1) (tt := tYes) rfl nd (kpi_tup K (pv 0)) (blkOk_by (by rfl)) (fun _ _ _ _ _ => (pg_name (i := 1) nd rfl (.inl rfl))) (fun _ _ _ _ _ => pts_nil) (fun _ _ _ _ _ => (pe_def D_is_vector (hr.mono (by omega)) rfl (pa_cons (pv 1) pa_nil)))) pa_nil))))
        (pss_one (ps_ret pe_bl))
        pss_nil)
      (pss_one (ps_ret (pe_callB (kcr_all K) (by rfl) T.m_all (by decide +kernel) (pa_cons (pe_lc (own := [("row", 1)]) (g := gName 1) (tt := tYes) rfl nd (kpi_tup K (pv 0)) (blkOk_by (by rfl)) (fun _ _ _ _ _ => (pg_name (i := 1) nd rfl (.inl rfl))) (fun _ _ _ _ _ => pts_nil) (fun _ _ _ _ _ => (pe_cmpR op_eq (pe_callB (kcall_len K) (by rfl) T.m_len PySem.boot_len (pa_cons (pv 1) pa_nil)) (pe_callB (kcall_len K) (by rfl) T.m_len PySem.boot_len (pa_cons (pe_ix (kix_tup K) (pv 0) pe_int (fun _ _ => rfl)) pa_nil)) (nomark _)))) pa_nil)))))), ?_⟩
    refine ⟨.ref a, rfl, .ref a, _, .type "tuple", _, true, rfl, .ty _, ity ha, kit_ty (by decide +kernel), true, rfl, iteF ?_⟩
    refine ⟨.ref a, rfl, a, xs, rfl, .inr ha.sq, _, _, rfl, rfl, _, rfl, ?_⟩
    rw [decide_eq_false (show ¬ (xs.length : Int) > 48 by omega)]
    refine iteF ⟨.ref a, rfl, a, rfl, ⟨xs, ha.sq⟩, fun D hD => ?_⟩
    refine lc_all (walk_tup (xs := xs)) (fun i H2 => Same H H2 ∧ H2 D = some (.lst ((List.replicate i true).map V.bl))) ⟨same_new hD, upd_same⟩ (fun i H2 _ z => (ha.mono (tk_same z.1)).sq) (fun i x H2 H3 hi z y => ?_) (fun H2 z => ?_)
    · obtain ⟨sm, eD⟩ := z
      obtain ⟨rfl, hx⟩ := y
      obtain ⟨r, hr', iq⟩ := all_get hxs hx
      refine ⟨rfl, x, rfl, x, r, rfl, Im.mono (tk_same sm) _ iq, by rw [hn r (List.mem_of_getElem? hr')]; exact h48, fun H4 sm4 => ⟨_, sm4 _ _ eD, ?_, fun b o e => ?_, ?_⟩⟩
      · rw [List.length_map, List.length_replicate]; exact small1000 (by omega)
      · rw [upd_ne (ne_of_none e hD)]
        exact sm4 _ _ (sm _ _ e)
      · rw [upd_same, List.replicate_succ', List.map_append]; rfl
    · refine ⟨D, List.replicate xs.length true, rfl, .of z.2, ?_⟩
      have e : (List.replicate xs.length true).all id = true := by simp
      rw [e]
      have sm1 := z.1
      refine ⟨true, rfl, iteF ?_⟩
      refine ⟨.ref a, rfl, a, rfl, ⟨xs, (ha.mono (tk_same sm1)).sq⟩, fun D2 hD2 => ?_⟩
      refine lc_all (walk_tup (xs := xs)) (fun i H3 => Same H2 H3 ∧ H3 D2 = some (.lst ((List.replicate i true).map V.bl))) ⟨same_new hD2, upd_same⟩ (fun i H3 _ z => (ha.mono (tk_same (sm1.trans z.1))).sq) (fun i x H3 H4 hi z y => ?_) (fun H3 z => ?_)
      · obtain ⟨sm, eD⟩ := z
        obtain ⟨rfl, hx⟩ := y
        have sm2 := sm1.trans sm
        obtain ⟨r, hr', iq⟩ := all_get hxs hx
        obtain ⟨b, ys, rfl, hb, hys⟩ := vec_inv (Im.mono (tk_same sm2) _ iq)
        have ly : ys.length = n := by rw [all_len hys]; exact hn r (List.mem_of_getElem? hr')
        have h0 : 0 < xs.length := by omega
        obtain ⟨r0, hr0, iq0⟩ := all_get hxs (List.getElem?_eq_getElem h0)
        obtain ⟨b0, ys0, e0, hb0, hys0⟩ := vec_inv (Im.mono (tk_same sm2) _ iq0)
        have ly0 : ys0.length = n := by rw [all_len hys0]; exact hn r0 (List.mem_of_getElem? hr0)
        refine ⟨rfl, .ref b, rfl, b, ys, rfl, .inr hb.sq, .ref a, rfl, a, xs, 0, _, rfl, rfl, (ha.mono (tk_same sm2)).sq, atI_nat (j := 0) (List.getElem?_eq_getElem h0), b0, ys0, by rw [e0], .inr hb0.sq, rfl, _, eD, ?_, fun c o e => ?_, ?_⟩
        · rw [List.length_map, List.length_replicate]; exact small1000 (by omega)
        · rw [upd_ne (ne_of_none e hD2)]
          exact sm _ _ e
        · rw [upd_same, List.replicate_succ', List.map_append, ly, ly0, decide_eq_true rfl]; rfl
      · refine ⟨D2, List.replicate xs.length true, rfl, .of z.2, ?_⟩
        rw [e]
        exact q _ (sm1.trans z.1)


abbrev s_need_vector : Stmt := topS 22
theorem sc_need_vector : FnScope ["thing"] ["thing"] (defScope s_need_vector) := ⟨rfl, rfl, rfl, by decide +kernel, rfl, by decide +kernel, by decide +kernel⟩
def sp_need_vector (K : PySem.W.Frag) : Sp := fun vs H Q _ => ∃ v r, vs = [v] ∧ Im K H v (vD r) ∧ r.length ≤ 48 ∧ ∀ H', Same H H' → Q .non H'
theorem ok_need_vector {f : Addr} {fd : FuncData} {k : Nat} (F : Fun K "need_vector" "need_vector" s_need_vector f fd) (T : Tx K mg C){ki : Nat} (D_is_vector : Def P w K mg base ki "is_vector" s_is_vector ["thing"] (sp_is_vector K)) (hk : ki ≤ k) : FnOk P w K mg base CX0 (k + 1) f fd ["thing"] (sp_need_vector K) := by
  have nd := sc_need_vector.nd
  refine F.ok sc_need_vector (fun vs H Q E h => ?_) (fun cdv A outer s H vs Q E hr h => ?_)
  · obtain ⟨i, xs, rfl, _⟩ := h
    rfl
  · obtain ⟨v, r, rfl, hv, hl, q⟩ := h
    refine ⟨_, (pss_one (ps_if (pt_not (pt_val (pe_def D_is_vector (hr.mono (by omega)) rfl (pa_cons (pv 0) pa_nil))))
        (pss_one ps_never)
        pss_nil)), ?_⟩
    exact ⟨v, rfl, v, r, rfl, hv, hl, fun H' sm => ⟨true, rfl, iteF (q _ sm)⟩⟩

abbrev s_need_matrix : Stmt := topS 23
theorem sc_need_matrix : FnScope ["thing"] ["thing"] (defScope s_need_matrix) := ⟨rfl, rfl, rfl, by decide +kernel, rfl, by decide +kernel, by decide +kernel⟩
def sp_need_matrix (K : PySem.W.Frag) : Sp := fun vs H Q _ => ∃ v A n, vs = [v] ∧ Im K H v (mD A) ∧ A.length ≤ 48 ∧ (∀ r ∈ A, r.length = n) ∧ n ≤ 48 ∧ ∀ H', Same H H' → Q .non H'
theorem ok_need_matrix {f : Addr} {fd : FuncData} {k : Nat} (F : Fun K "need_matrix" "need_matrix" s_need_matrix f fd) (T : Tx K mg C){ki : Nat} (D_is_matrix : Def P w K mg base ki "is_matrix" s_is_matrix ["thing"] (sp_is_matrix K)) (hk : ki ≤ k) : FnOk P w K mg base CX0 (k + 1) f fd ["thing"] (sp_need_matrix K) := by
  have nd := sc_need_matrix.nd
  refine F.ok sc_need_matrix (fun vs H Q E h => ?_) (fun cdv A outer s H vs Q E hr h => ?_)
  · obtain ⟨i, xs, _, rfl, _⟩ := h
    rfl
  · obtain ⟨v, M, n, rfl, hv, hl, hn, h48, q⟩ := h
    refine ⟨_, (pss_one (ps_if (pt_not (pt_val (pe_def D_is_matrix (hr.mono (by omega)) rfl (pa_cons (pv 0) pa_nil))))
        (pss_one ps_never)
        pss_nil)), ?_⟩
    exact ⟨v, rfl, v, M, n, rfl, hv, hl, hn, h48, fun H' sm => ⟨true, rfl, iteF (q _ sm)⟩⟩
end
end K39

set_option Elab.async false
set_option linter.all false
set_option maxRecDepth 100000
set_option exponentiation.threshold 20000
namespace K39
open PySem PySem.Spec PyProof.Rows L2 Ly Mt El
/-- a list of ratios -/
def LRow (K : PySem.W.Frag) (H : Hp) (p : Addr) (r : List Rat) : Prop := ∃ ws, H p = some (.lst ws) ∧ ImAll K H ws (r.map rD)
theorem LRow.same {K : PySem.W.Frag} {H H' : Hp} {p : Addr} {r : List Rat} (h : LRow K H p r) (s : Same H H') : LRow K H' p r := by
  obtain ⟨ws, h1, h2⟩ := h
  exact ⟨ws, s _ _ h1, ImAll.mono (tk_same s) _ h2⟩
/-- pairs of places and rows at the values vs; none of the rows lies at D -/
def HAcc (K : PySem.W.Frag) (H : Hp) (D : Addr) (vs : List V) (hl : HL) : Prop := vs.length = hl.length ∧ ∀ (i p : Nat) (r : List Rat), hl[i]? = some (p, r) → ∃ (a b : Addr), vs[i]? = some (V.ref a) ∧ H a = some (.tup [.int (p : Nat), .ref b]) ∧ LRow K H b r ∧ b ≠ D
/-- all but D stays -/
def Bar (D : Addr) (H H' : Hp) : Prop := ∀ b o, b ≠ D → H b = some o → H' b = some o
theorem bar_same {D : Addr} {H H' : Hp} (s : Same H H') : Bar D H H' := fun b o _ h => s b o h
theorem Bar.trans {D : Addr} {H H1 H2 : Hp} (a : Bar D H H1) (b : Bar D H1 H2) : Bar D H H2 := fun x o h1 h => b x o h1 (a x o h1 h)
theorem bar_upd {D : Addr} {H : Hp} {o : HO} : Bar D H (upd H D o) := fun b x h1 h => by rw [upd_ne h1]; exact h
theorem Bar.tk {D : Addr} {H H' : Hp} {xs : List V} (s : Bar D H H') (h : H D = some (.lst xs)) : TK H H' := fun b ys e => by
  refine s b _ (fun z => ?_) e
  subst z; rw [h] at e; cases e
theorem LRow.bar {K : PySem.W.Frag} {D : Addr} {H H' : Hp} {p : Addr} {r : List Rat} (h : LRow K H p r) (s : Bar D H H') (t : TK H H') (n : p ≠ D) : LRow K H' p r := by
  obtain ⟨ws, h1, h2⟩ := h
  exact ⟨ws, s _ _ n h1, ImAll.mono t _ h2⟩
theorem HAcc.bar {K : PySem.W.Frag} {D : Addr} {H H' : Hp} {vs : List V} {hl : HL} {xs : List V} (h : HAcc K H D vs hl) (s : Bar D H H') (hD : H D = some (.lst xs)) : HAcc K H' D vs hl := by
  refine ⟨h.1, fun i p r e => ?_⟩
  obtain ⟨a, b, k1, k2, k3, k4⟩ := h.2 i p r e
  refine ⟨a, b, k1, s _ _ (fun z => ?_) k2, k3.bar s (s.tk hD) k4, k4⟩
  subst z; rw [hD] at k2; cases k2
theorem HAcc.snoc {K : PySem.W.Frag} {D : Addr} {H : Hp} {vs : List V} {hl : HL} {a b : Addr} {p : Nat} {r : List Rat} (h : HAcc K H D vs hl) (k2 : H a = some (.tup [.int (p : Nat), .ref b])) (k3 : LRow K H b r) (k4 : b ≠ D) : HAcc K H D (vs ++ [.ref a]) (hl ++ [(p, r)]) := by
  refine ⟨by rw [List.length_append, List.length_append, h.1]; rfl, fun i p' r' e => ?_⟩
  by_cases hi : i < hl.length
  · rw [List.getElem?_append_left hi] at e
    obtain ⟨a', b', z⟩ := h.2 i p' r' e
    rw [List.getElem?_append_left (by rw [h.1]; exact hi)]
    exact ⟨a', b', z⟩
  · have hi2 := (List.getElem?_eq_some_iff.mp e).1
    rw [List.length_append] at hi2
    have hi3 : i = hl.length := by simp at hi2; omega
    subst hi3
    rw [List.getElem?_append_right (Nat.le_refl _), Nat.sub_self] at e
    simp at e
    obtain ⟨rfl, rfl⟩ := e
    refine ⟨a, b, ?_, k2, k3, k4⟩
    rw [← h.1, List.getElem?_append_right (Nat.le_refl _), Nat.sub_self]; rfl
/-- the list of pairs that a solver holds -/
def HeldAt (K : PySem.W.Frag) (H : Hp) (h : Addr) (hl : HL) : Prop := ∃ hs : List V, H h = some (.lst hs) ∧ HAcc K H h hs hl
theorem HAcc.same {K : PySem.W.Frag} {D : Addr} {H H' : Hp} {vs : List V} {hl : HL} (h : HAcc K H D vs hl) (s : Same H H') : HAcc K H' D vs hl := by
  refine ⟨h.1, fun i p r e => ?_⟩
  obtain ⟨a, b, k1, k2, k3, k4⟩ := h.2 i p r e
  exact ⟨a, b, k1, s _ _ k2, k3.same s, k4⟩
theorem HeldAt.same {K : PySem.W.Frag} {H H' : Hp} {p : Addr} {hl : HL} (h : HeldAt K H p hl) (s : Same H H') : HeldAt K H' p hl := by
  obtain ⟨hs, h1, h2⟩ := h
  exact ⟨hs, s _ _ h1, h2.same s⟩
theorem first_eq {e : List Rat} {n i : Nat} (h1 : i < n) (h2 : ∀ q, q < i → fn e q = 0) (h3 : fn e i ≠ 0) : first e n = some i := by
  unfold first
  rw [List.find?_range_eq_some]
  refine ⟨by simpa using h3, List.mem_range.mpr h1, fun j hj => ?_⟩
  simpa using h2 j hj
theorem first_eq_none {e : List Rat} {n : Nat} (h : ∀ q, q < n → fn e q = 0) : first e n = none := by
  unfold first
  rw [List.find?_eq_none]
  intro x hx
  simpa using h x (List.mem_range.mp hx)
theorem unitL_get {i n j : Nat} (h : j < n) : (unitL i n)[j]? = some (if j = i then 1 else 0) := by
  unfold unitL; rw [List.getElem?_map, List.getElem?_range h]; rfl
def optV : Option Nat → V
  | none => .non
  | some p => .int (p : Nat)
section
variable {P : Program} {w : World} {K : PySem.W.Frag} {mg : Str → Option Value} {base : Heap} {C : Addr}

abbrev s_unit : Stmt := topS 24
theorem sc_unit : FnScope ["index", "size", "place"] ["index", "size"] (defScope s_unit) := ⟨rfl, rfl, rfl, by decide +kernel, rfl, by decide +kernel, by decide +kernel⟩
def sp_unit (K : PySem.W.Frag) : Sp := fun vs H Q _ => ∃ (i n : Nat), vs = [.int i, .int n] ∧ n ≤ 48 ∧ ∀ p H', Same H H' → H p = none → LRow K H' p (unitL i n) → Q (.ref p) H'
theorem ok_unit {f : Addr} {fd : FuncData} {k : Nat} (F : Fun K "unit" "unit" s_unit f fd) (T : Tx K mg C) : FnOk P w K mg base CX0 (k + 1) f fd ["index", "size"] (sp_unit K) := by
  have nd := sc_unit.nd
  refine F.ok sc_unit (fun vs H Q E h => ?_) (fun cdv A outer s H vs Q E hr h => ?_)
  · obtain ⟨_, _, rfl, _⟩ := h
    rfl
  · obtain ⟨i, n, rfl, hn, q⟩ := h
    obtain ⟨z, gz, hz⟩ := T.zero
    have g_ZERO : ∃ u, mg "ZERO" = some u ∧ L2.RelV (.ref z) u := ⟨_, gz, rfl⟩
    obtain ⟨o, go, ho⟩ := T.one
    have g_ONE : ∃ u, mg "ONE" = some u ∧ L2.RelV (.ref o) u := ⟨_, go, rfl⟩
    refine ⟨_, (pss_one (ps_ret (pe_lc (own := [("place", 2)]) (g := gName 2) (tt := tYes) rfl nd (pi_range1 rfl T.m_range (pa_cons (pv 1) pa_nil)) (blkOk_by (by rfl)) (fun _ _ _ _ _ => (pg_name (i := 2) nd rfl (.inl rfl))) (fun _ _ _ _ _ => pts_nil) (fun _ _ _ _ _ => (pe_ifExp (pt_cmpR op_eq (pv 2) (pv 0) (nomark _)) (pe_gv rfl g_ONE) (pe_gv rfl g_ZERO)))))), ?_⟩
    refine ⟨.int n, rfl, n, rfl, by omega, by omega, fun D hD => ?_⟩
    refine lc_all (walk_range (lo := 0) (n := n)) (fun j H2 => Same H H2 ∧ ∃ acc, H2 D = some (.lst acc) ∧ ImAll K H2 acc (((unitL i n).take j).map rD)) ⟨same_new hD, [], upd_same, .nil⟩ (fun _ _ _ _ => trivial) (fun j x H2 H3 hj y1 y2 => ?_) (fun H2 y => ?_)
    · obtain ⟨sm, acc, eD, ia⟩ := y1
      obtain ⟨rfl, rfl⟩ := y2
      have lacc : acc.length = j := by rw [all_len ia, List.length_take, unitL_length]; omega
      have fin : ∀ v : V, Im K H3 v (rD (if j = i then 1 else 0)) → ∃ acc, H3 D = some (.lst acc) ∧ acc.length < sizeLine ∧ Same H (upd H3 D (.lst (acc ++ [v]))) ∧ ∃ acc', (upd H3 D (.lst (acc ++ [v]))) D = some (.lst acc') ∧ ImAll K (upd H3 D (.lst (acc ++ [v]))) acc' (((unitL i n).take (j + 1)).map rD) := by
        intro v iv
        refine ⟨acc, eD, small1000 (by omega), fun c oo ec => ?_, acc ++ [v], upd_same, ?_⟩
        · rw [upd_ne (ne_of_none ec hD)]
          exact sm _ _ ec
        · exact all_snoc (ImAll.mono (tk_lst eD) _ ia) (unitL_get hj) (Im.mono (tk_lst eD) _ iv)
      refine ⟨rfl, _, rfl, .int i, rfl, rfl, ?_⟩
      by_cases h : j = i
      · rw [decide_eq_true (show V.int ((0 : Int) + (j : Nat)) = V.int i by rw [h]; congr 1; omega)]
        rw [if_pos h] at fin
        exact ⟨true, rfl, iteT (fin _ (rat_mk (q := 1) (ho _)))⟩
      · rw [decide_eq_false (show ¬ V.int ((0 : Int) + (j : Nat)) = V.int i from fun e => h (by have := V.int.inj e; omega))]
        rw [if_neg h] at fin
        exact ⟨false, rfl, iteF (fin _ (rat_mk (q := 0) (hz _)))⟩
    · obtain ⟨sm, acc, eD, ia⟩ := y
      rw [List.take_of_length_le (by rw [unitL_length]; omega)] at ia
      exact q D _ sm hD ⟨acc, eD, ia⟩

abbrev s_first_place : Stmt := topS 25
theorem sc_first_place : FnScope ["entries", "size", "place"] ["entries", "size"] (defScope s_first_place) := ⟨rfl, rfl, rfl, by decide +kernel, rfl, by decide +kernel, by decide +kernel⟩
def sp_first_place (K : PySem.W.Frag) : Sp := fun vs H Q _ => ∃ (l : Addr) (r : List Rat) (n : Nat), vs = [.ref l, .int n] ∧ LRow K H l r ∧ n ≤ r.length ∧ n ≤ 48 ∧ Q (optV (first r n)) H
theorem ok_first_place {f : Addr} {fd : FuncData} {k : Nat} (F : Fun K "first_place" "first_place" s_first_place f fd) (T : Tx K mg C) : FnOk P w K mg base CX0 (k + 1) f fd ["entries", "size"] (sp_first_place K) := by
  have nd := sc_first_place.nd
  refine F.ok sc_first_place (fun vs H Q E h => ?_) (fun cdv A outer s H vs Q E hr h => ?_)
  · obtain ⟨_, _, _, rfl, _⟩ := h
    rfl
  · obtain ⟨l, r, n, rfl, ⟨ws, eL, iw⟩, hn, h48, q⟩ := h
    refine ⟨_, (pss_cons (ps_for PassesOwn.never rfl (pi_range1 rfl T.m_range (pa_cons (pv 1) pa_nil)) (pg_name (i := 2) nd rfl (.inl rfl))
        (pss_one (ps_if (pt_cmpR op_ne (pe_ix (kix_tup K) (pe_ix (kix_list K) (pv 0) (pv 2) (fun _ _ => rfl)) pe_int (fun _ _ => rfl)) pe_int (nomark _))
          (pss_one (ps_ret (pv 2)))
          pss_nil)))
      (pss_one (ps_ret pe_non))), ?_⟩
    refine ⟨.int n, rfl, n, rfl, by omega, by omega, ?_⟩
    refine for_it (walk_range (lo := 0) (n := n)) (fun i σ H2 => H2 = H ∧ ∃ y2, σ = [some (.ref l), some (.int n), y2] ∧ ∀ q, q < i → fn r q = 0) ⟨rfl, none, rfl, fun q h => by omega⟩ (fun _ _ _ _ _ => trivial) ?_ ?_
    · rintro i x σ H2 H3 hi ⟨rfl, y2, rfl, z⟩ ⟨rfl, rfl⟩
      obtain ⟨u, hu, iu⟩ := all_at iw (get_fn (show i < r.length by omega))
      obtain ⟨a, rfl, ha⟩ := rat_inv iu
      have k0 : ((0 : Int) + (i : Nat)) = ((i : Nat) : Int) := by omega
      refine ⟨.ref l, rfl, .int _, rfl, l, ws, _, _, rfl, rfl, .of eL, by rw [k0]; exact atI_nat hu, a, _, 0, _, rfl, rfl, ha.sq, atI_nat (j := 0) rfl, rfl, _, rfl, ?_⟩
      by_cases h : (fn r i).num = 0
      · rw [decide_eq_true (show V.int (fn r i).num = V.int 0 by rw [h])]
        refine iteF ⟨rfl, _, rfl, fun p hp => ?_⟩
        by_cases e : p = i
        · rw [e]; exact num_zero h
        · exact z p (by omega)
      · rw [decide_eq_false (show ¬ V.int (fn r i).num = V.int 0 from fun e => h (V.int.inj e))]
        rw [first_eq hi z (fun e => h (by rw [e]; rfl))] at q
        refine iteT ⟨.int _, rfl, ?_⟩
        rw [k0]
        exact q
    · rintro σ H2 ⟨rfl, y2, rfl, z⟩
      rw [first_eq_none z] at q
      exact q

abbrev s_less_row : Stmt := topS 26
theorem sc_less_row : FnScope ["entries", "factor", "row", "one", "two"] ["entries", "factor", "row"] (defScope s_less_row) := ⟨rfl, rfl, rfl, by decide +kernel, rfl, by decide +kernel, by decide +kernel⟩
def sp_less_row (K : PySem.W.Frag) : Sp := fun vs H Q _ => ∃ l v l2 e g r, vs = [.ref l, v, .ref l2] ∧ LRow K H l e ∧ Im K H v (rD g) ∧ LRow K H l2 r ∧ e.length = r.length ∧ r.length ≤ 96 ∧ (∀ q, Bd 2900 2900 (fn e q)) ∧ Bd 2900 2900 g ∧ (∀ q, Bd 2900 2900 (fn r q)) ∧
  ∀ p H', Same H H' → (p = l ∨ H p = none) → LRow K H' p (sub e g r) → Q (.ref p) H'
theorem ok_less_row {f : Addr} {fd : FuncData} {k : Nat} (F : Fun K "less_row" "less_row" s_less_row f fd) (T : Tx K mg C){ki : Nat} (D_minus : Def P w K mg base ki "minus" s_minus ["one", "other"] (sp_minus K)) (D_times : Def P w K mg base ki "times" s_times ["one", "other"] (sp_times K)) (hk : ki ≤ k) : FnOk P w K mg base CX0 (k + 1) f fd ["entries", "factor", "row"] (sp_less_row K) := by
  have nd := sc_less_row.nd
  refine F.ok sc_less_row (fun vs H Q E h => ?_) (fun cdv A outer s H vs Q E hr h => ?_)
  · obtain ⟨_, _, _, _, _, _, rfl, _⟩ := h
    rfl
  · obtain ⟨l, v, l2, e, g, r, rfl, Le, ig, Lr, hl, h96, be, bg, br, q⟩ := h
    obtain ⟨af, rfl, haf⟩ := rat_inv ig
    refine ⟨_, (pss_cons (ps_if (pt_cmpR op_eq (pe_ix (kix_tup K) (pv 1) pe_int (fun _ _ => rfl)) pe_int (nomark _))
        (pss_one (ps_ret (pv 0)))
        pss_nil)
      (pss_one (ps_ret (pe_lc (own := [("one", 3), ("two", 4)]) (g := _) (tt := tYes) rfl nd (kpi_zip K (by rfl) T.m_zip (pa_cons (pv 0) (pa_cons (pv 2) pa_nil))) (blkOk_by (by rfl)) (fun _ _ _ _ _ => (kpg_tup K (n := 2) rfl (pgs_cons (pg_name (i := 3) nd rfl (.inl rfl)) (pgs_cons (pg_name (i := 4) nd rfl (.inl rfl)) pgs_nil)))) (fun _ _ _ _ _ => pts_nil) (fun _ _ _ _ _ => (pe_ifExp (pt_cmpR op_eq (pe_ix (kix_tup K) (pv 4) pe_int (fun _ _ => rfl)) pe_int (nomark _)) (pv 3) (pe_def D_minus (hr.mono (by omega)) rfl (pa_cons (pv 3) (pa_cons (pe_def D_times (hr.mono (by omega)) rfl (pa_cons (pv 1) (pa_cons (pv 4) pa_nil))) pa_nil))))))))), ?_⟩
    refine ⟨.ref af, rfl, af, _, 0, _, rfl, rfl, haf.sq, atI_nat (j := 0) rfl, rfl, _, rfl, ?_⟩
    by_cases g0 : g.num = 0
    · rw [decide_eq_true (show V.int g.num = V.int 0 by rw [g0])]
      refine iteT ⟨.ref l, rfl, q l H (Same.refl H) (.inl rfl) ?_⟩
      rw [num_zero g0, sub_zero hl]
      exact Le
    rw [decide_eq_false (show ¬ V.int g.num = V.int 0 from fun z => g0 (V.int.inj z))]
    obtain ⟨ws, eL, iw⟩ := Le
    obtain ⟨us, eL2, iu⟩ := Lr
    have lw : ws.length = e.length := all_len iw
    have lu : us.length = r.length := all_len iu
    refine iteF ⟨.ref l, rfl, .ref l2, rfl, l, l2, ws, us, rfl, .inl ⟨.of eL, .of eL2, fun D hD => ?_⟩⟩
    refine lc_all (walk_zip (xs := ws) (ys := us) (n := ws.length) (by omega)) (fun j H4 => Same H H4 ∧ ∃ acc, H4 D = some (.lst acc) ∧ ImAll K H4 acc (((sub e g r).take j).map rD)) ⟨same_new hD, [], upd_same, .nil⟩ (fun j H4 _ z => ⟨.of (z.1 _ _ eL), .of (z.1 _ _ eL2)⟩) (fun j x H4 H5 hj z y => ?_) (fun H4 z => ?_)
    · obtain ⟨sm4, acc, eD, ia⟩ := z
      obtain ⟨T2, u1, u2, rfl, nT2, rfl, k1, k2⟩ := y
      obtain ⟨o, ho, io⟩ := all_get iw k1
      obtain ⟨t, ht, it⟩ := all_get iu k2
      have sm5 : Same H (upd H4 T2 (.tup [u1, u2])) := sm4.trans (same_new nT2)
      have io5 := Im.mono (tk_same sm5) _ io
      have it5 := Im.mono (tk_same sm5) _ it
      have ig5 : Im K (upd H4 T2 (.tup [u1, u2])) (.ref af) (rD g) := rat_mk (haf.mono (tk_same sm5))
      have eD5 : (upd H4 T2 (.tup [u1, u2])) D = some (.lst acc) := by rw [upd_ne (ne_of_none eD nT2)]; exact eD
      have ia5 := ImAll.mono (tk_new (o := .tup [u1, u2]) nT2) _ ia
      have hget : (sub e g r)[j]? = some (o - g * t) := sub_get ho ht
      have lacc' : acc.length = j := by
        rw [all_len ia, List.length_take, sub_length hl]; omega
      obtain ⟨a2, rfl, ha2⟩ := rat_inv it5
      refine ⟨T2, _, rfl, .of upd_same, rfl, u1, _, rfl, .ref a2, _, rfl, rfl, rfl, ?_⟩
      refine ⟨.ref a2, rfl, a2, _, 0, _, rfl, rfl, ha2.sq, atI_nat (j := 0) rfl, rfl, _, rfl, ?_⟩
      generalize hG5 : upd H4 T2 (.tup [u1, V.ref a2]) = G5 at *
      have fin : ∀ (v : V) (H6 : Hp), Same G5 H6 → Im K H6 v (rD (o - g * t)) → ∃ acc, H6 D = some (.lst acc) ∧ acc.length < sizeLine ∧ Same H (upd H6 D (.lst (acc ++ [v]))) ∧ ∃ acc', (upd H6 D (.lst (acc ++ [v]))) D = some (.lst acc') ∧ ImAll K (upd H6 D (.lst (acc ++ [v]))) acc' (((sub e g r).take (j + 1)).map rD) := by
        intro v H6 sm6 iv
        have eD6 := sm6 _ _ eD5
        refine ⟨acc, eD6, small1000 (by omega), fun c oo ec => ?_, acc ++ [v], upd_same, ?_⟩
        · rw [upd_ne (ne_of_none ec hD)]
          exact sm6 _ _ (sm5 _ _ ec)
        · exact all_snoc (ImAll.mono ((tk_same sm6).trans (tk_lst eD6)) _ ia5) hget (Im.mono (tk_lst eD6) _ iv)
      by_cases t0 : t.num = 0
      · rw [decide_eq_true (show V.int t.num = V.int 0 by rw [t0])]
        refine iteT ⟨u1, rfl, fin u1 G5 (Same.refl _) ?_⟩
        have e0 : o - g * t = o := by rw [num_zero t0]; grind
        rw [e0]
        exact io5
      · rw [decide_eq_false (show ¬ V.int t.num = V.int 0 from fun z => t0 (V.int.inj z))]
        have bt : Bd 2900 2900 t := by rw [← fn_get ht]; exact br j
        have bo : Bd 2900 2900 o := by rw [← fn_get ho]; exact be j
        refine iteF ⟨u1, rfl, .ref af, rfl, .ref a2, rfl, _, _, g, t, rfl, ig5, it5, bg.mono (by decide) (by decide), bt.mono (by decide) (by decide), fun p2 H6 sm6 np2 i6 => ?_⟩
        refine ⟨u1, .ref p2, o, g * t, rfl, Im.mono (tk_same sm6) _ io5, i6, bo.mono (by decide) (by decide), (Bd.mul bg bt).mono (by decide) (by decide), fun p3 H7 sm7 np3 i7 => ?_⟩
        exact fin _ _ (sm6.trans sm7) i7
    · obtain ⟨sm4, acc, eD, ia⟩ := z
      rw [List.take_of_length_le (by rw [sub_length hl]; omega)] at ia
      exact q D _ sm4 (.inr hD) ⟨acc, eD, ia⟩

abbrev s_cleared : Stmt := topS 27
theorem sc_cleared : FnScope ["entries", "held", "pivot", "row"] ["entries", "held"] (defScope s_cleared) := ⟨rfl, rfl, rfl, by decide +kernel, rfl, by decide +kernel, by decide +kernel⟩
/-- rows of the length N, their entries not too great -/
def Tame (hl : HL) (N : Nat) : Prop := ∀ x ∈ hl, x.2.length = N ∧ x.1 < N ∧ ∀ q, Bd 2900 2900 (fn x.2 q)
def sp_cleared (K : PySem.W.Frag) : Sp := fun vs H Q _ => ∃ l h e hl, vs = [.ref l, .ref h] ∧ LRow K H l e ∧ HeldAt K H h hl ∧ Tame hl e.length ∧ e.length ≤ 96 ∧ (∀ j q, Bd 2900 2900 (fn (clr e (hl.take j)) q)) ∧ ∀ p H', Same H H' → LRow K H' p (clr e hl) → Q (.ref p) H'
theorem ok_cleared {f : Addr} {fd : FuncData} {k : Nat} (F : Fun K "cleared" "cleared" s_cleared f fd) (T : Tx K mg C){ki : Nat} (D_less_row : Def P w K mg base ki "less_row" s_less_row ["entries", "factor", "row"] (sp_less_row K)) (hk : ki ≤ k) : FnOk P w K mg base CX0 (k + 1) f fd ["entries", "held"] (sp_cleared K) := by
  have nd := sc_cleared.nd
  refine F.ok sc_cleared (fun vs H Q E h => ?_) (fun cdv A outer s H vs Q E hr h => ?_)
  · obtain ⟨_, _, _, _, rfl, _⟩ := h
    rfl
  · obtain ⟨l, h, e, hl, rfl, Le, ⟨hs, eh, lh, gh⟩, tm, h96, bd, q⟩ := h
    refine ⟨_, (pss_cons (ps_for PassesOwn.never rfl (kpi_list K (pv 1)) (kpg_tup K (n := 2) rfl (pgs_cons (pg_name (i := 2) nd rfl (.inl rfl)) (pgs_cons (pg_name (i := 3) nd rfl (.inl rfl)) pgs_nil)))
        (pss_one (ps_set (i := 0) nd rfl (.inl rfl) (pe_def D_less_row (hr.mono (by omega)) rfl (pa_cons (pv 0) (pa_cons (pe_ix (kix_list K) (pv 0) (pv 2) (fun _ _ => rfl)) (pa_cons (pv 3) pa_nil)))))))
      (pss_one (ps_ret (pv 0)))), ?_⟩
    refine ⟨.ref h, rfl, h, rfl, ⟨hs, .of eh⟩, ?_⟩
    refine for_it (walk_list (xs := hs)) (fun i σ H2 => ∃ p y2 y3, σ = [some (.ref p), some (.ref h), y2, y3] ∧ Same H H2 ∧ LRow K H2 p (clr e (hl.take i))) ⟨l, none, none, rfl, Same.refl H, Le⟩ (fun i σ H2 _ ⟨_, _, _, _, sm, _⟩ => .of (sm _ _ eh)) ?_ ?_
    · rintro i x σ H2 H3 hi ⟨p', y2, y3, rfl, sm, Lp⟩ ⟨rfl, hx⟩
      have hi' : i < hl.length := by omega
      have hg : hl[i]? = some ((hl[i]).1, (hl[i]).2) := List.getElem?_eq_getElem hi'
      have tmi := tm _ (List.getElem_mem hi')
      generalize (hl[i]).1 = pv at *
      generalize (hl[i]).2 = rw' at *
      obtain ⟨a, b, k1, k2, k3, _⟩ := gh i _ _ hg
      rw [k1] at hx
      obtain rfl := Option.some.inj hx
      have lc : (clr e (hl.take i)).length = e.length := clr_length fun x hx => (tm x (List.mem_of_mem_take hx)).1
      refine ⟨a, _, rfl, .of (sm _ _ k2), rfl, .int pv, _, rfl, .ref b, _, rfl, rfl, ?_⟩
      obtain ⟨ws, eL, iw⟩ := id Lp
      obtain ⟨u, hu, iu⟩ := all_at iw (get_fn (show pv < (clr e (hl.take i)).length by rw [lc]; exact tmi.2.1))
      refine ⟨.ref p', rfl, .ref p', rfl, .int pv, rfl, p', ws, _, _, rfl, rfl, .of eL, atI_nat hu, .ref b, rfl, ?_⟩
      refine ⟨p', u, b, clr e (hl.take i), fn (clr e (hl.take i)) pv, rw', rfl, Lp, iu, k3.same sm, by rw [lc, tmi.1], by rw [tmi.1]; exact h96, bd i, bd i pv, tmi.2.2, fun p2 H4 sm4 _ L4 => ⟨p2, _, _, rfl, sm.trans sm4, ?_⟩⟩
      rw [List.take_add_one, hg]
      show LRow K H4 p2 (clr e (hl.take i ++ [(pv, rw')]))
      rw [clr_snoc]
      exact L4
    · rintro σ H2 ⟨p', y2, y3, rfl, sm, Lp⟩
      rw [List.take_of_length_le (by omega)] at Lp
      exact ⟨.ref p', rfl, q p' _ sm Lp⟩
end
end K39

set_option Elab.async false
set_option linter.all false
set_option maxRecDepth 100000
set_option exponentiation.threshold 20000
namespace K39
open PySem PySem.Spec PyProof.Rows L2 Ly Mt El
theorem tin_none {hl : HL} {e : List Rat} {n : Nat} (h : first (clr e hl) n = none) : tin hl e n = hl := by
  unfold tin; rw [h]
theorem tin_some {hl : HL} {e : List Rat} {n p : Nat} (h : first (clr e hl) n = some p) : tin hl e n = hl.map (fun x => (x.1, sub x.2 (fn x.2 p) (nrm (clr e hl) p))) ++ [(p, nrm (clr e hl) p)] := by
  unfold tin; rw [h]
theorem Tame.clr {hl : HL} {e : List Rat} (t : Tame hl e.length) : (clr e hl).length = e.length := clr_length fun x hx => (t x hx).1
section
variable {P : Program} {w : World} {K : PySem.W.Frag} {mg : Str → Option Value} {base : Heap} {C : Addr}

abbrev s_taken_in : Stmt := topS 28
theorem sc_taken_in : FnScope ["held", "entries", "size", "left", "pivot", "entry", "place", "row"] ["held", "entries", "size"] (defScope s_taken_in) := ⟨rfl, rfl, rfl, by decide +kernel, rfl, by decide +kernel, by decide +kernel⟩
def sp_taken_in (K : PySem.W.Frag) : Sp := fun vs H Q _ => ∃ h l n hl e, vs = [.ref h, .ref l, .int (n : Nat)] ∧ HeldAt K H h hl ∧ LRow K H l e ∧ Tame hl e.length ∧ e.length ≤ 96 ∧ n ≤ 48 ∧ n ≤ e.length ∧ hl.length ≤ 48 ∧ (∀ j q, Bd 2900 2900 (fn (clr e (hl.take j)) q)) ∧ Tame (tin hl e n) e.length ∧
  ∀ p H', Same H H' → HeldAt K H' p (tin hl e n) → Q (.ref p) H'
theorem ok_taken_in {f : Addr} {fd : FuncData} {k : Nat} (F : Fun K "taken_in" "taken_in" s_taken_in f fd) (T : Tx K mg C){ki : Nat} (D_cleared : Def P w K mg base ki "cleared" s_cleared ["entries", "held"] (sp_cleared K)) {kj : Nat} (D_first_place : Def P w K mg base kj "first_place" s_first_place ["entries", "size"] (sp_first_place K)) {kl : Nat} (D_over : Def P w K mg base kl "over" s_over ["one", "other"] (sp_over K)) {kn : Nat} (D_less_row : Def P w K mg base kn "less_row" s_less_row ["entries", "factor", "row"] (sp_less_row K)) (hk : ki ≤ k) (hj : kj ≤ k) (hl : kl ≤ k) (hn : kn ≤ k) : FnOk P w K mg base CX0 (k + 1) f fd ["held", "entries", "size"] (sp_taken_in K) := by
  have nd := sc_taken_in.nd
  refine F.ok sc_taken_in (fun vs H Q E h => ?_) (fun cdv A outer s H vs Q E hr h => ?_)
  · obtain ⟨_, _, _, _, _, rfl, _⟩ := h
    rfl
  · obtain ⟨h, l, n, hl, e, rfl, Hh, Le, tm, h96, n48, ne, l48, bd, tm2, q⟩ := h
    refine ⟨_, (pss_cons (ps_set (i := 3) nd rfl (.inr rfl) (pe_def D_cleared (hr.mono (by omega)) rfl (pa_cons (pv 1) (pa_cons (pv 0) pa_nil))))
      (pss_cons (ps_set (i := 4) nd rfl (.inr rfl) (pe_def D_first_place (hr.mono (by omega)) rfl (pa_cons (pv 3) (pa_cons (pv 2) pa_nil))))
      (pss_cons (ps_if (pt_cmp (pc_isN (pv 4)))
        (pss_one (ps_ret (pv 0)))
        pss_nil)
      (pss_cons (ps_set (i := 3) nd rfl (.inr rfl) (pe_lc (own := [("entry", 5)]) (g := gName 5) (tt := tYes) rfl nd (kpi_list K (pv 3)) (blkOk_by (by rfl)) (fun _ _ _ _ _ => (pg_name (i := 5) nd rfl (.inl rfl))) (fun _ _ _ _ _ => pts_nil) (fun _ _ _ _ _ => (pe_def D_over (hr.mono (by omega)) rfl (pa_cons (pv 5) (pa_cons (pe_ix (kix_list K) (pv 3) (pv 4) (fun _ _ => rfl)) pa_nil))))))
      (pss_one (ps_ret (pe_op op_cat (pe_lc (own := [("place", 6), ("row", 7)]) (g := _) (tt := tYes) rfl nd (kpi_list K (pv 0)) (blkOk_by (by rfl)) (fun _ _ _ _ _ => (kpg_tup K (n := 2) rfl (pgs_cons (pg_name (i := 6) nd rfl (.inl rfl)) (pgs_cons (pg_name (i := 7) nd rfl (.inl rfl)) pgs_nil)))) (fun _ _ _ _ _ => pts_nil) (fun _ _ _ _ _ => (pe_tup (pa_cons (pv 6) (pa_cons (pe_def D_less_row (hr.mono (by omega)) rfl (pa_cons (pv 7) (pa_cons (pe_ix (kix_list K) (pv 7) (pv 4) (fun _ _ => rfl)) (pa_cons (pv 3) pa_nil)))) pa_nil))))) (pe_lst (pa_cons (pe_tup (pa_cons (pv 4) (pa_cons (pv 3) pa_nil))) pa_nil))))))))), ?_⟩
    refine ⟨.ref l, rfl, .ref h, rfl, l, h, e, hl, rfl, Le, Hh, tm, h96, bd, fun p1 H1 sm1 L1 => ?_⟩
    have lc := tm.clr
    have bdc : ∀ q, Bd 2900 2900 (fn (clr e hl) q) := fun q => by
      have := bd hl.length q
      rw [List.take_of_length_le (Nat.le_refl _)] at this
      exact this
    refine ⟨.ref p1, rfl, .int n, rfl, p1, clr e hl, n, rfl, L1, by omega, n48, ?_⟩
    cases hf : first (clr e hl) n with
    | none =>
      refine ⟨_, rfl, _, rfl, ?_⟩
      rw [decide_eq_true (show optV none = V.non from rfl)]
      refine iteT ⟨.ref h, rfl, q h H1 sm1 ?_⟩
      rw [tin_none hf]
      exact Hh.same sm1
    | some p =>
      refine ⟨_, rfl, _, rfl, ?_⟩
      rw [decide_eq_false (show ¬ optV (some p) = V.non from fun z => nomatch z)]
      obtain ⟨pn, p0⟩ := first_some hf
      rw [tin_some hf] at q tm2
      have tn := tm2 (p, nrm (clr e hl) p) (List.mem_append_right _ (List.mem_singleton.mpr rfl))
      obtain ⟨ws, eL, iw⟩ := id L1
      have lw : ws.length = (clr e hl).length := all_len iw
      refine iteF ⟨.ref p1, rfl, p1, rfl, ⟨ws, .of eL⟩, fun D hD => ?_⟩
      refine lc_all (walk_list (xs := ws)) (fun j H2 => Same H1 H2 ∧ ∃ acc, H2 D = some (.lst acc) ∧ ImAll K H2 acc (((nrm (clr e hl) p).take j).map rD)) ⟨same_new hD, [], upd_same, .nil⟩ (fun j H2 _ z => .of (z.1 _ _ eL)) (fun j x H2 H3 hj z y => ?_) (fun H2 z => ?_)
      · obtain ⟨sm, acc, eD, ia⟩ := z
        obtain ⟨rfl, hx⟩ := y
        obtain ⟨o, ho, io⟩ := all_get iw hx
        obtain ⟨u, hu, iu⟩ := all_at iw (get_fn (show p < (clr e hl).length by omega))
        have lacc : acc.length = j := by rw [all_len ia, List.length_take, nrm_length]; omega
        have hget : (nrm (clr e hl) p)[j]? = some (o / fn (clr e hl) p) := by unfold nrm; rw [List.getElem?_map, ho]; rfl
        refine ⟨rfl, x, rfl, .ref p1, rfl, .int p, rfl, p1, ws, _, _, rfl, rfl, .of (sm _ _ eL), atI_nat hu, x, u, o, fn (clr e hl) p, rfl, Im.mono (tk_same sm) _ io, Im.mono (tk_same sm) _ iu, (by rw [← fn_get ho]; exact (bdc j).mono (by decide) (by decide)), (bdc p).mono (by decide) (by decide), p0, fun p2 H4 sm4 np i4 => ?_⟩
        have eD4 := sm4 _ _ eD
        refine ⟨acc, eD4, small1000 (by omega), fun c oo ec => ?_, acc ++ [.ref p2], upd_same, ?_⟩
        · rw [upd_ne (ne_of_none ec hD)]
          exact sm4 _ _ (sm _ _ ec)
        · exact all_snoc (ImAll.mono ((tk_same sm4).trans (tk_lst eD4)) _ ia) hget (Im.mono (tk_lst eD4) _ i4)
      · obtain ⟨sm, acc, eD, ia⟩ := z
        rw [List.take_of_length_le (by rw [nrm_length]; omega)] at ia
        have sm2 := sm1.trans sm
        have LD : LRow K H2 D (nrm (clr e hl) p) := ⟨acc, eD, ia⟩
        obtain ⟨hs, eh, ga⟩ := Hh.same sm2
        have lh := ga.1
        refine ⟨.ref h, rfl, h, rfl, ⟨hs, .of eh⟩, fun D2 hD2 => ?_⟩
        refine lc_all (walk_list (xs := hs)) (fun j H3 => Same H2 H3 ∧ ∃ acc2, H3 D2 = some (.lst acc2) ∧ HAcc K H3 D2 acc2 ((hl.take j).map (fun x => (x.1, sub x.2 (fn x.2 p) (nrm (clr e hl) p))))) ⟨same_new hD2, [], upd_same, rfl, fun i p r z => by simp at z⟩ (fun j H3 _ z => .of (z.1 _ _ eh)) (fun j x H3 H4 hj z y => ?_) (fun H3 z => ?_)
        · obtain ⟨sm3, acc2, eD2, ga2⟩ := z
          obtain ⟨rfl, hx⟩ := y
          have hj' : j < hl.length := by omega
          have hg : hl[j]? = some ((hl[j]).1, (hl[j]).2) := List.getElem?_eq_getElem hj'
          have tmj := tm _ (List.getElem_mem hj')
          generalize (hl[j]).1 = pv at *
          generalize (hl[j]).2 = rw' at *
          obtain ⟨a, b, k1, k2, k3, k4⟩ := ga.2 j _ _ hg
          rw [k1] at hx
          obtain rfl := Option.some.inj hx
          have k2' := sm3 _ _ k2
          have k3' := k3.same sm3
          have bn : b ≠ D2 := by
            obtain ⟨_, z, _⟩ := k3
            exact ne_of_none z hD2
          obtain ⟨us, eb, iu⟩ := id k3'
          obtain ⟨u, hu, iu⟩ := all_at iu (get_fn (show p < rw'.length by have := tmj.1; omega))
          refine ⟨a, _, rfl, .of k2', rfl, .int pv, _, rfl, .ref b, _, rfl, rfl, rfl, ?_⟩
          refine ⟨.int pv, rfl, .ref b, rfl, .ref b, rfl, .int p, rfl, b, us, _, _, rfl, rfl, .of eb, atI_nat hu, .ref D, rfl, ?_⟩
          refine ⟨b, u, D, rw', fn rw' p, nrm (clr e hl) p, rfl, k3', iu, LD.same sm3, by rw [tmj.1, nrm_length, lc], by rw [nrm_length]; omega, tmj.2.2, tmj.2.2 p, tn.2.2, fun p2 H5 sm5 np L5 => ?_⟩
          refine ⟨by show 2 ≤ sizeLine; decide, fun T hT => ?_⟩
          have eD5 := sm5 _ _ eD2
          have eD6 : (upd H5 T (.tup [.int (pv : Nat), .ref p2])) D2 = some (.lst acc2) := by rw [upd_ne (ne_of_none eD5 hT)]; exact eD5
          have sm6 : Same H4 (upd H5 T (.tup [.int (pv : Nat), .ref p2])) := sm5.trans (same_new hT)
          have pn2 : p2 ≠ D2 := by
            rcases np with z | z
            · rw [z]; exact bn
            · exact fun e => by rw [e, eD2] at z; cases z
          refine ⟨acc2, eD6, small1000 (by rw [ga2.1, List.length_map, List.length_take]; omega), fun c oo ec => ?_, acc2 ++ [.ref T], upd_same, ?_⟩
          · rw [upd_ne (ne_of_none ec hD2)]
            exact sm6 _ _ (sm3 _ _ ec)
          · rw [List.take_add_one, hg, List.map_append]
            refine ((ga2.same sm6).bar bar_upd eD6).snoc (p := pv) (r := sub rw' (fn rw' p) (nrm (clr e hl) p)) (b := p2) ?_ ?_ pn2
            · rw [upd_ne (fun e => by rw [e] at hT; rw [hT] at eD5; cases eD5), upd_same]
            · exact (L5.same (same_new hT)).bar bar_upd (bar_upd.tk eD6) pn2
        · obtain ⟨sm3, acc2, eD2, ga2⟩ := z
          rw [List.take_of_length_le (by omega)] at ga2
          refine ⟨.int p, rfl, .ref D, rfl, by show 2 ≤ sizeLine; decide, fun T hT => ⟨by show 1 ≤ sizeLine; decide, fun L hL => ?_⟩⟩
          have sm4 := (sm3.trans (same_new (o := .tup [.int (p : Nat), .ref D]) hT)).trans (same_new (o := .lst [.ref T]) hL)
          have nDT : D2 ≠ T := ne_of_none eD2 hT
          have eD4 : (upd (upd H3 T (.tup [.int (p : Nat), .ref D])) L (.lst [.ref T])) D2 = some (.lst acc2) := by
            have : (upd H3 T (.tup [.int (p : Nat), .ref D])) D2 = some (.lst acc2) := by rw [upd_ne nDT]; exact eD2
            rw [upd_ne (ne_of_none this hL)]; exact this
          have eT4 : (upd (upd H3 T (.tup [.int (p : Nat), .ref D])) L (.lst [.ref T])) T = some (.tup [.int (p : Nat), .ref D]) := by
            rw [upd_ne (ne_of_none upd_same hL), upd_same]
          have ga4 := ga2.same ((same_new (o := .tup [.int (p : Nat), .ref D]) hT).trans (same_new (o := .lst [.ref T]) hL))
          have LD4 := LD.same sm4
          generalize hG : upd (upd H3 T (.tup [.int (p : Nat), .ref D])) L (.lst [.ref T]) = G at *
          have eL4 : G L = some (.lst [.ref T]) := by rw [← hG, upd_same]
          have nDD : D ≠ D2 := ne_of_none eD hD2
          refine ⟨D2, L, acc2, [.ref T], rfl, rfl, eD4, eL4, ?_, fun p3 hp3 => ?_⟩
          · have := small1000 (show acc2.length + 1 ≤ 1000 by rw [ga2.1, List.length_map]; omega)
            exact Nat.le_of_lt this
          · have ne3 : ∀ {c : Addr} {o : HO}, G c = some o → c ≠ p3 := fun z => ne_of_none z hp3
            have fin : HAcc K G D2 (acc2 ++ [.ref T]) (hl.map (fun x => (x.1, sub x.2 (fn x.2 p) (nrm (clr e hl) p))) ++ [(p, nrm (clr e hl) p)]) := ga4.snoc (p := p) (b := D) eT4 LD4 nDD
            refine q p3 _ ((sm2.trans sm4).trans (same_new hp3)) ⟨_, upd_same, fin.1, fun i p' r' z => ?_⟩
            obtain ⟨a, b, k1, k2, k3, k4⟩ := fin.2 i p' r' z
            obtain ⟨us', e', _⟩ := id k3
            exact ⟨a, b, k1, (same_new hp3) _ _ k2, k3.same (same_new hp3), ne3 e'⟩
end
end K39

set_option Elab.async false
set_option linter.all false
set_option maxRecDepth 100000
set_option exponentiation.threshold 20000
namespace K39
open PySem PySem.Spec PyProof.Rows L2 Ly Mt El
/-- rows that a solver may take -/
structure Task (s : Int) (E m size : Nat) (rows : List (List Rat)) : Prop where
  ok : Okay s E m size rows
  big : (m + 1) * (E * (m * E) ^ m) < 2 ^ 2900
  l48 : rows.length ≤ 48
  n48 : size ≤ 48
/-- ints when s times -/
def Sc (s : Int) (E : Nat) (e : List Rat) : Prop := ∀ q, ∃ z : Int, (s : Rat) * fn e q = (z : Rat) ∧ z.natAbs ≤ E
section
variable {s : Int} {E m size : Nat} {rows : List (List Rat)} (t : Task s E m size rows)
include t
theorem Task.pow : (m * E) ^ m < 2 ^ 2900 := by
  have h1 : (m * E) ^ m ≤ E * (m * E) ^ m := Nat.le_mul_of_pos_left _ t.ok.E1
  have h2 : E * (m * E) ^ m ≤ (m + 1) * (E * (m * E) ^ m) := Nat.le_mul_of_pos_left _ (by omega)
  exact Nat.lt_of_le_of_lt (Nat.le_trans h1 h2) t.big
theorem Task.tame (i : Nat) : Tame (tins size ((exts rows).take i) []) (size + rows.length) := by
  obtain ⟨taken, R⟩ := t.ok.stage i
  intro x hx
  have hp := R.red.piv (x.1, fn x.2) (List.mem_map.mpr ⟨x, hx, rfl⟩)
  exact ⟨R.len x hx, by show x.1 < _; have : x.1 < size := hp; omega, R.bd (t.ok.stage_few i) t.ok.E1 t.ok.m1 t.pow x hx⟩
theorem Task.part (i : Nat) {e : List Rat} (he : e.length = size + rows.length) (hi : Sc s E e) : ∀ j q, Bd 2900 2900 (fn (clr e ((tins size ((exts rows).take i) []).take j)) q) := by
  obtain ⟨taken, R⟩ := t.ok.stage i
  have hd : s.natAbs * (m * E) ^ m < 2 ^ 2900 := by
    have h1 : s.natAbs * (m * E) ^ m ≤ E * (m * E) ^ m := Nat.mul_le_mul_right _ t.ok.sE
    have h2 : E * (m * E) ^ m ≤ (m + 1) * (E * (m * E) ^ m) := Nat.le_mul_of_pos_left _ (by omega)
    exact Nat.lt_of_le_of_lt (Nat.le_trans h1 h2) t.big
  exact fun j q => R.part (b := 0) (t.ok.stage_few i) t.ok.E1 t.ok.m1 he t.ok.s0 hi t.big hd j q
theorem Task.few (i : Nat) : (tins size ((exts rows).take i) []).length ≤ 48 := by
  have h := tins_length (size := size) (es := (exts rows).take i) (held := [])
  have h2 : ((exts rows).take i).length ≤ rows.length := by rw [List.length_take, exts_length t.ok]; omega
  have h3 := t.l48
  rw [List.length_nil, Nat.zero_add] at h
  omega
theorem Task.all : tins size ((exts rows).take rows.length) [] = solved rows size := by
  unfold solved
  rw [List.take_of_length_le (by rw [exts_length t.ok]; omega)]
theorem Task.step {i : Nat} {r : List Rat} (h : rows[i]? = some r) : tins size ((exts rows).take (i + 1)) [] = tin (tins size ((exts rows).take i) []) (r ++ unitL i rows.length) size ∧ (r ++ unitL i rows.length) ∈ exts rows := by
  have hi := (List.getElem?_eq_some_iff.mp h).1
  have e : (exts rows)[i]? = some (r ++ unitL i rows.length) := by
    unfold exts
    rw [List.getElem?_map, List.getElem?_range hi]
    show some (rows.getD i [] ++ _) = _
    rw [List.getD_eq_getElem?_getD, h]; rfl
  rw [List.take_add_one, e]
  exact ⟨tins_snoc _ _ _ _, List.mem_of_getElem? e⟩
end
/-! ### instances -/
def F3 (n m : Nat) (v : V) : List (Str × V) := [("size", .int n), ("rows_given", .int m), ("held", v)]
theorem tk_ins {a : Addr} {H H' : Hp} {C dx : Addr} {fs : List (Str × V)} (s : Bar a H H') (h : H a = some (.ins C dx fs)) : TK H H' := fun b ys e => by
  refine s b _ (fun z => ?_) e
  subst z; rw [h] at e; cases e
theorem LRow.ins {K : PySem.W.Frag} {a : Addr} {H H' : Hp} {p : Addr} {r : List Rat} {C dx : Addr} {fs : List (Str × V)} (h : LRow K H p r) (s : Bar a H H') (i : H a = some (.ins C dx fs)) : LRow K H' p r := by
  obtain ⟨ws, h1, h2⟩ := h
  refine ⟨ws, s _ _ (fun z => ?_) h1, ImAll.mono (tk_ins s i) _ h2⟩
  subst z; rw [i] at h1; cases h1
theorem HeldAt.ins {K : PySem.W.Frag} {a : Addr} {H H' : Hp} {p : Addr} {hl : HL} {C dx : Addr} {fs : List (Str × V)} (h : HeldAt K H p hl) (s : Bar a H H') (i : H a = some (.ins C dx fs)) : HeldAt K H' p hl := by
  obtain ⟨hs, h1, h2, h3⟩ := h
  refine ⟨hs, s _ _ (fun z => ?_) h1, h2, fun j p' r e => ?_⟩
  · subst z; rw [i] at h1; cases h1
  · obtain ⟨x, b, k1, k2, k3, k4⟩ := h3 j p' r e
    exact ⟨x, b, k1, tk_ins s i _ _ k2, k3.ins s i, k4⟩
theorem all_app {K : PySem.W.Frag} {H : Hp} : ∀ {xs ys : List V} {ds es : List PyData}, ImAll K H xs ds → ImAll K H ys es → ImAll K H (xs ++ ys) (ds ++ es)
  | _, _, _, _, .nil, b => b
  | _, _, _, _, .cons a r, b => .cons a (all_app r b)
section
variable {P : Program} {w : World} {K : PySem.W.Frag} {mg : Str → Option Value} {base : Heap} {C : Addr}

abbrev s_Solver_init : Stmt := inClass (topS 29) 0
theorem sc_Solver_init : FnScope ["self", "rows", "size", "index", "row"] ["self", "rows", "size"] (defScope s_Solver_init) := ⟨rfl, rfl, rfl, by decide +kernel, rfl, by decide +kernel, by decide +kernel⟩
def sp_init (K : PySem.W.Frag) (C : Addr) : Sp := fun vs H Q _ => ∃ (a dx r : Addr) (rows : List (List Rat)) (size : Nat) (s : Int) (E m : Nat), vs = [.ref a, .ref r, .int size] ∧ H a = some (.ins C dx []) ∧ Im K H (.ref r) (mD rows) ∧ Task s E m size rows ∧
  ∀ H' h, Bar a H H' → H' a = some (.ins C dx (F3 size rows.length (.ref h))) → HeldAt K H' h (solved rows size) → Q .non H'
theorem ok_Solver_init {f : Addr} {fd : FuncData} {k : Nat} (F : Fun K "__init__" "Solver.__init__" s_Solver_init f fd) (T : Tx K mg C){ki : Nat} (D_taken_in : Def P w K mg base ki "taken_in" s_taken_in ["held", "entries", "size"] (sp_taken_in K)) {kj : Nat} (D_unit : Def P w K mg base kj "unit" s_unit ["index", "size"] (sp_unit K)) (hk : ki ≤ k) (hj : kj ≤ k) : FnOk P w K mg base CX0 (k + 1) f fd ["self", "rows", "size"] (sp_init K C) := by
  have nd := sc_Solver_init.nd
  refine F.ok sc_Solver_init (fun vs H Q E h => ?_) (fun cdv A outer s H vs Q E hr h => ?_)
  · obtain ⟨_, _, _, _, _, _, _, _, rfl, _⟩ := h
    rfl
  · obtain ⟨a, dx, r, rows, size, sc, Ec, m, rfl, ea, ir, t, q⟩ := h
    obtain ⟨_, xs, er, hx0, hxs⟩ := mat_inv ir
    obtain rfl := V.ref.inj er
    have lx : xs.length = rows.length := all_len hxs
    refine ⟨_, (pss_cons (ps_fld (pv 0) (pv 2) rfl)
      (pss_cons (ps_fld (pv 0) (pe_callB (kcall_len K) (by rfl) T.m_len PySem.boot_len (pa_cons (pv 1) pa_nil)) rfl)
      (pss_cons (ps_fld (pv 0) (pe_lst pa_nil) rfl)
      (pss_one (ps_for PassesOwn.never rfl (kpi_enumT K (by rfl) T.m_enumerate (pa_cons (pv 1) pa_nil)) (kpg_tup K (n := 2) rfl (pgs_cons (pg_name (i := 3) nd rfl (.inl rfl)) (pgs_cons (pg_name (i := 4) nd rfl (.inl rfl)) pgs_nil)))
        (pss_one (ps_fld (pv 0) (pe_def D_taken_in (hr.mono (by omega)) rfl (pa_cons (kpe_fld K (pv 0)) (pa_cons (pe_op op_cat (pe_callTy (kcall_list K) (by rfl) T.m_list (by decide +kernel) (pa_cons (pv 4) pa_nil)) (pe_def D_unit (hr.mono (by omega)) rfl (pa_cons (pv 3) (pa_cons (kpe_fld K (pv 0)) pa_nil)))) (pa_cons (pv 2) pa_nil)))) rfl))))))), ?_⟩
    refine ⟨.int size, rfl, .ref a, rfl, a, C, dx, [], rfl, ea, T.cl, T.a_size, by decide, ?_⟩
    have b1 : Bar a H (upd H a (.ins C dx (putF "size" (.int size) []))) := bar_upd
    have e1 : (upd H a (.ins C dx (putF "size" (.int size) []))) a = some (.ins C dx [("size", .int size)]) := upd_same
    generalize upd H a (.ins C dx (putF "size" (.int size) [])) = G1 at *
    have hx1 := hx0.mono (tk_ins b1 ea)
    refine ⟨.ref r, rfl, r, xs, rfl, .inr hx1.sq, .ref a, rfl, a, C, dx, _, rfl, e1, T.cl, T.a_rows_given, by show 1 < 1000; decide, ?_⟩
    have b2 : Bar a G1 (upd G1 a (.ins C dx (putF "rows_given" (.int (xs.length : Nat)) [("size", .int size)]))) := bar_upd
    have e2 : (upd G1 a (.ins C dx (putF "rows_given" (.int (xs.length : Nat)) [("size", .int size)]))) a = some (.ins C dx [("size", .int size), ("rows_given", .int (xs.length : Nat))]) := by rw [upd_same]; rfl
    generalize upd G1 a (.ins C dx (putF "rows_given" (.int (xs.length : Nat)) [("size", .int size)])) = G2 at *
    refine ⟨by show 0 ≤ sizeLine; decide, fun l hl => ?_⟩
    have e3 := (same_new (o := .lst []) hl) _ _ e2
    have el3 : (upd G2 l (.lst [])) l = some (.lst []) := upd_same
    have b3 : Bar a G2 (upd G2 l (.lst [])) := bar_same (same_new hl)
    generalize upd G2 l (.lst []) = G3 at *
    refine ⟨.ref a, rfl, a, C, dx, _, rfl, e3, T.cl, T.a_held, by show 2 < 1000; decide, ?_⟩
    have b4 : Bar a G3 (upd G3 a (.ins C dx (putF "held" (.ref l) [("size", .int size), ("rows_given", .int (xs.length : Nat))]))) := bar_upd
    have e4 : (upd G3 a (.ins C dx (putF "held" (.ref l) [("size", .int size), ("rows_given", .int (xs.length : Nat))]))) a = some (.ins C dx (F3 size xs.length (.ref l))) := by rw [upd_same]; rfl
    have nl : l ≠ a := fun z => by rw [z, e3] at el3; cases el3
    have el4 := b4 _ _ nl el3
    generalize upd G3 a (.ins C dx (putF "held" (.ref l) [("size", .int size), ("rows_given", .int (xs.length : Nat))])) = G4 at *
    have b04 := ((b1.trans b2).trans b3).trans b4
    refine ⟨.ref r, rfl, r, xs, rfl, (hx0.mono (tk_ins b04 ea)).sq, ?_⟩
    refine for_it (walk_enumT (xs := xs)) (fun i σ H2 => ∃ h y3 y4, σ = [some (.ref a), some (.ref r), some (.int size), y3, y4] ∧ Bar a H H2 ∧ H2 a = some (.ins C dx (F3 size xs.length (.ref h))) ∧ HeldAt K H2 h (tins size ((exts rows).take i) [])) ⟨l, none, none, rfl, b04, e4, [], el4, rfl, fun i p r z => by simp [tins] at z⟩ (fun i σ H2 _ ⟨_, _, _, _, b, _⟩ => (hx0.mono (tk_ins b ea)).sq) ?_ ?_
    · rintro i x σ H2 H3 hi ⟨h, y3, y4, rfl, b, e5, hh⟩ ⟨T1, x1, x2, rfl, nT, rfl, g1, g2⟩
      obtain rfl := Option.some.inj g1
      obtain ⟨ri, hri, iri⟩ := all_get hxs g2
      have st := t.step hri
      have mi := List.mem_of_getElem? hri
      have li := t.ok.len ri mi
      have mx := t.ok.ext_ints _ st.2
      have sm6 : Same H2 (upd H2 T1 (.tup [.int (i : Nat), x2])) := same_new nT
      have eT : (upd H2 T1 (.tup [.int (i : Nat), x2])) T1 = some (.tup [.int (i : Nat), x2]) := upd_same
      generalize upd H2 T1 (.tup [.int (i : Nat), x2]) = G6 at *
      have b6 := b.trans (bar_same sm6)
      obtain ⟨br, ys, rfl, hbr, hys⟩ := vec_inv (Im.mono (tk_ins b6 ea) _ iri)
      have ly : ys.length = ri.length := all_len hys
      have e6 := sm6 _ _ e5
      refine ⟨T1, _, rfl, .of eT, rfl, .int i, _, rfl, .ref br, _, rfl, rfl, ?_⟩
      refine ⟨.ref a, rfl, a, C, dx, _, _, rfl, e6, T.cl, T.a_held, rfl, .ref br, rfl, br, ys, rfl, .inr hbr.sq, fun l1 hl1 => ?_⟩
      have sm7 : Same G6 (upd G6 l1 (.lst ys)) := same_new hl1
      have el7 : (upd G6 l1 (.lst ys)) l1 = some (.lst ys) := upd_same
      generalize upd G6 l1 (.lst ys) = G7 at *
      have e7 := sm7 _ _ e6
      have l48 := t.l48
      have n48 := t.n48
      refine ⟨.int i, rfl, .ref a, rfl, a, C, dx, _, _, rfl, e7, T.cl, T.a_rows_given, rfl, i, xs.length, rfl, by omega, fun p8 H8 sm8 np8 L8 => ?_⟩
      obtain ⟨us, ep8, iu⟩ := L8
      have lu : us.length = xs.length := by rw [all_len iu, unitL_length]
      refine ⟨l1, p8, ys, us, rfl, rfl, sm8 _ _ el7, ep8, Nat.le_of_lt (small1000 (by omega)), fun c hc => ?_⟩
      have sm9 : Same H8 (upd H8 c (.lst (ys ++ us))) := same_new hc
      have e9 : (upd H8 c (.lst (ys ++ us))) c = some (.lst (ys ++ us)) := upd_same
      generalize upd H8 c (.lst (ys ++ us)) = G9 at *
      have sm69 := (sm7.trans sm8).trans sm9
      have Lc : LRow K G9 c (ri ++ unitL i rows.length) := by
        refine ⟨_, e9, ?_⟩
        rw [List.map_append]
        rw [lx] at iu
        exact all_app (ImAll.mono (tk_same sm69) _ hys) (ImAll.mono (tk_same sm9) _ iu)
      refine ⟨.int size, rfl, h, c, size, _, _, rfl, (hh.same sm6).same sm69, Lc, by rw [mx.1]; exact t.tame i, by rw [mx.1]; omega, n48, by rw [mx.1]; omega, t.few i, t.part i mx.1 mx.2, by rw [← st.1, mx.1]; exact t.tame (i + 1), fun p10 H10 sm10 hh10 => ?_⟩
      have e10 := sm10 _ _ (sm69 _ _ e6)
      refine ⟨.ref a, rfl, a, C, dx, _, rfl, e10, T.cl, T.a_held, by show 3 < 1000; decide, p10, _, _, rfl, ?_, ?_, ?_⟩
      · exact ((b6.trans (bar_same sm69)).trans (bar_same sm10)).trans bar_upd
      · rw [upd_same]; rfl
      · rw [st.1]
        exact hh10.ins bar_upd e10
    · rintro σ H2 ⟨h, y3, y4, rfl, b, e5, hh⟩
      rw [lx, t.all] at hh
      rw [lx] at e5
      exact q H2 h b e5 hh
end
end K39

set_option Elab.async false
set_option linter.all false
set_option maxRecDepth 100000
set_option exponentiation.threshold 20000
namespace K39
open PySem PySem.Spec PyProof.Rows L2 Ly Mt El
/-- a solver of rows -/
def SolvAt (K : PySem.W.Frag) (C : Addr) (H : Hp) (a : Addr) (size : Nat) (rows : List (List Rat)) : Prop := ∃ dx h, H a = some (.ins C dx (F3 size rows.length (.ref h))) ∧ HeldAt K H h (solved rows size)
theorem SolvAt.same {K : PySem.W.Frag} {C : Addr} {H H' : Hp} {a : Addr} {size : Nat} {rows : List (List Rat)} (h : SolvAt K C H a size rows) (s : Same H H') : SolvAt K C H' a size rows := by
  obtain ⟨dx, l, h1, h2⟩ := h
  exact ⟨dx, l, s _ _ h1, h2.same s⟩
section
variable {s : Int} {E m size : Nat} {rows : List (List Rat)} (t : Task s E m size rows) {target : List Rat} (ht : target.length = size) (hi : Sc s E target)
theorem ext_length : (target ++ List.replicate rows.length (0 : Rat)).length = target.length + rows.length := by simp
include hi in
theorem ext_sc : Sc s E (target ++ List.replicate rows.length 0) := by
  intro q
  by_cases h : q < target.length
  · rw [fn_app_left h]; exact hi q
  · obtain ⟨j, rfl⟩ : ∃ j, q = target.length + j := ⟨q - target.length, by omega⟩
    rw [fn_app_right]
    refine ⟨0, ?_, Nat.zero_le _⟩
    have : fn (List.replicate rows.length (0 : Rat)) j = 0 := by
      by_cases h : j < rows.length
      · exact fn_get (by rw [List.getElem?_replicate, if_pos h])
      · exact fn_none (by simp; omega)
    rw [this]; simp
include t ht in
theorem left_length : (leftOf rows size target).length = size + rows.length := by
  unfold leftOf
  rw [clr_length (fun x hx => by rw [← t.all] at hx; rw [(t.tame _ x hx).1, ext_length, ht]), ext_length, ht]
include t ht hi in
theorem left_bd (j q : Nat) : Bd 2900 2900 (fn (clr (target ++ List.replicate rows.length 0) ((solved rows size).take j)) q) := by
  rw [← t.all]
  exact t.part _ (by rw [ext_length, ht]) (ext_sc hi) j q
include t ht hi in
theorem left_bd' (q : Nat) : Bd 2900 2900 (fn (leftOf rows size target) q) := by
  have := left_bd t ht hi (solved rows size).length q
  rw [List.take_of_length_le (Nat.le_refl _)] at this
  exact this
end
theorem cut_drop {ws : List V} {n : Nat} (h : n ≤ ws.length) : cutV ws (some (n : Int)) none = ws.drop n := by
  unfold cutV
  rw [HT.sIx_nat, HT.sIx_none, Nat.min_eq_left h, List.take_of_length_le (by rw [List.length_drop]; omega)]
theorem bd_neg {n m : Nat} {x : Rat} (h : Bd n m x) : Bd n m (-x) := by
  refine ⟨?_, ?_⟩
  · rw [Rat.neg_num, Int.natAbs_neg]; exact h.1
  · rw [Rat.neg_den]; exact h.2
theorem all_drop {K : PySem.W.Frag} {H : Hp} {α : Type} {f : α → PyData} : ∀ {xs : List V} {l : List α} {n : Nat}, ImAll K H xs (l.map f) → ImAll K H (xs.drop n) ((l.drop n).map f)
  | xs, l, 0, h => h
  | [], [], n + 1, _ => .nil
  | x :: xs, [], n + 1, h => by cases h
  | [], a :: l, n + 1, h => by cases h
  | x :: xs, a :: l, n + 1, h => by
    cases h with | cons _ r => exact all_drop (xs := xs) (l := l) (n := n) r
theorem all_set {K : PySem.W.Frag} {H : Hp} {α : Type} {f : α → PyData} {v : V} {a : α} (iv : Im K H v (f a)) : ∀ {xs : List V} {l : List α} {n : Nat}, ImAll K H xs (l.map f) → ImAll K H (xs.set n v) ((l.set n a).map f)
  | [], [], _, _ => .nil
  | x :: xs, [], n, h => by cases h
  | [], a :: l, n, h => by cases h
  | x :: xs, a :: l, 0, h => by cases h with | cons _ r => exact .cons iv r
  | x :: xs, a :: l, n + 1, h => by cases h with | cons k r => exact .cons k (all_set iv r)
theorem marks_nil {l : List Rat} {place size : Nat} : (List.replicate size (0 : Rat)).set place (1 / fn l place) = marksL l place size [] := by
  apply List.ext_getElem?
  intro q
  unfold marksL
  rw [List.getElem?_set, List.getElem?_map, List.length_replicate, List.getElem?_replicate]
  by_cases hq : q < size
  · rw [List.getElem?_range hq]
    by_cases h : place = q
    · subst h
      rw [if_pos rfl, if_pos hq]
      show _ = some (if place = place then 1 / fn l place else 0)
      rw [if_pos rfl]
    · rw [if_neg h, if_pos hq]
      show _ = some (if q = place then 1 / fn l place else 0)
      rw [if_neg (fun e => h e.symm)]
  · rw [List.getElem?_eq_none (by simp; omega), if_neg hq]
    by_cases h : place = q
    · rw [if_pos h, if_neg (by omega)]; rfl
    · rw [if_neg h]; rfl
theorem marks_cons {l : List Rat} {place size : Nat} {x : Nat × List Rat} {h : HL} : (marksL l place size h).set x.1 (-(fn x.2 place) / fn l place) = marksL l place size (x :: h) := by
  apply List.ext_getElem?
  intro q
  unfold marksL
  rw [List.getElem?_set, List.getElem?_map, List.getElem?_map, List.length_map, List.length_range]
  by_cases hq : q < size
  · rw [List.getElem?_range hq]
    by_cases e : x.1 = q
    · rw [if_pos e, if_pos (by omega)]
      show _ = some (if q = x.1 then _ else _)
      rw [if_pos e.symm]
    · rw [if_neg e]
      show some (mkf l place h q) = some (if q = x.1 then _ else mkf l place h q)
      rw [if_neg (fun z => e z.symm)]
  · rw [List.getElem?_eq_none (by simp; omega)]
    by_cases e : x.1 = q
    · rw [if_pos e, if_neg (by omega)]; rfl
    · rw [if_neg e]; rfl
theorem ixN_nat {n p : Nat} (h : p < n) : ixN n (p : Int) = some p := by
  unfold ixN
  rw [if_pos (by omega), if_pos (by omega)]; rfl
section
variable {P : Program} {w : World} {K : PySem.W.Frag} {mg : Str → Option Value} {base : Heap} {C : Addr}

abbrev s_Solver_left_of : Stmt := inClass (topS 29) 1
theorem sc_Solver_left_of : FnScope ["self", "target"] ["self", "target"] (defScope s_Solver_left_of) := ⟨rfl, rfl, rfl, by decide +kernel, rfl, by decide +kernel, by decide +kernel⟩
def sp_left_of (K : PySem.W.Frag) (C : Addr) : Sp := fun vs H Q _ => ∃ (a : Addr) (v : V) (rows : List (List Rat)) (target : List Rat) (size : Nat) (s : Int) (E m : Nat), vs = [.ref a, v] ∧ SolvAt K C H a size rows ∧ Task s E m size rows ∧ Im K H v (vD target) ∧ target.length = size ∧ Sc s E target ∧
  ∀ p H', Same H H' → LRow K H' p (leftOf rows size target) → Q (.ref p) H'
theorem ok_Solver_left_of {f : Addr} {fd : FuncData} {k : Nat} (F : Fun K "left_of" "Solver.left_of" s_Solver_left_of f fd) (T : Tx K mg C){ki : Nat} (D_cleared : Def P w K mg base ki "cleared" s_cleared ["entries", "held"] (sp_cleared K)) (hk : ki ≤ k) : FnOk P w K mg base CX0 (k + 1) f fd ["self", "target"] (sp_left_of K C) := by
  have nd := sc_Solver_left_of.nd
  refine F.ok sc_Solver_left_of (fun vs H Q E h => ?_) (fun cdv A outer s H vs Q E hr h => ?_)
  · obtain ⟨_, _, _, _, _, _, _, _, rfl, _⟩ := h
    rfl
  · obtain ⟨a, v, rows, target, size, sc, Ec, m, rfl, ⟨dx, h, ea, hh⟩, t, iv, ht, hi, q⟩ := h
    obtain ⟨b, ys, rfl, hb, hys⟩ := vec_inv iv
    have ly : ys.length = target.length := all_len hys
    have l48 := t.l48
    have n48 := t.n48
    obtain ⟨z, gz, hz⟩ := T.zero
    have g_ZERO : ∃ u, mg "ZERO" = some u ∧ L2.RelV (.ref z) u := ⟨_, gz, rfl⟩
    refine ⟨_, (pss_one (ps_ret (pe_def D_cleared (hr.mono (by omega)) rfl (pa_cons (pe_op op_cat (pe_callTy (kcall_list K) (by rfl) T.m_list (by decide +kernel) (pa_cons (pv 1) pa_nil)) (pe_op op_rep (pe_lst (pa_cons (pe_gv rfl g_ZERO) pa_nil)) (kpe_fld K (pv 0)))) (pa_cons (kpe_fld K (pv 0)) pa_nil))))), ?_⟩
    refine ⟨.ref b, rfl, b, ys, rfl, .inr hb.sq, fun l1 hl1 => ⟨by show 1 ≤ sizeLine; decide, fun l2 hl2 => ?_⟩⟩
    have sm1 : Same H (upd H l1 (.lst ys)) := same_new hl1
    have el1 : (upd H l1 (.lst ys)) l1 = some (.lst ys) := upd_same
    generalize upd H l1 (.lst ys) = G1 at *
    have sm2 : Same G1 (upd G1 l2 (.lst [.ref z])) := same_new hl2
    have el2 : (upd G1 l2 (.lst [.ref z])) l2 = some (.lst [.ref z]) := upd_same
    generalize upd G1 l2 (.lst [.ref z]) = G2 at *
    refine ⟨.ref a, rfl, a, C, dx, _, _, rfl, sm2 _ _ (sm1 _ _ ea), T.cl, T.a_rows_given, rfl, l2, (rows.length : Nat), _, rfl, rfl, el2, by omega, by omega, ?_, fun p hp => ?_⟩
    · show 1 * ((rows.length : Int)).toNat ≤ sizeLine
      have := small1000 (show rows.length ≤ 1000 by omega)
      rw [Nat.one_mul]
      show rows.length ≤ sizeLine
      omega
    have sm3 : Same G2 (upd G2 p (.lst (List.replicate ((rows.length : Int)).toNat [V.ref z]).flatten)) := same_new hp
    have ep : (upd G2 p (.lst (List.replicate ((rows.length : Int)).toNat [V.ref z]).flatten)) p = some (.lst (List.replicate rows.length (V.ref z))) := by
      rw [upd_same]
      show some (HO.lst (List.replicate rows.length [V.ref z]).flatten) = _
      rw [flat1]
    generalize upd G2 p (.lst (List.replicate ((rows.length : Int)).toNat [V.ref z]).flatten) = G3 at *
    refine ⟨l1, p, ys, _, rfl, rfl, sm3 _ _ (sm2 _ _ el1), ep, Nat.le_of_lt (small1000 (by rw [List.length_replicate]; omega)), fun c hc => ?_⟩
    have sm4 : Same G3 (upd G3 c (.lst (ys ++ List.replicate rows.length (V.ref z)))) := same_new hc
    have e4 : (upd G3 c (.lst (ys ++ List.replicate rows.length (V.ref z)))) c = some (.lst (ys ++ List.replicate rows.length (V.ref z))) := upd_same
    generalize upd G3 c (.lst (ys ++ List.replicate rows.length (V.ref z))) = G4 at *
    have sm := ((sm1.trans sm2).trans sm3).trans sm4
    have Lc : LRow K G4 c (target ++ List.replicate rows.length 0) := by
      refine ⟨_, e4, ?_⟩
      rw [List.map_append]
      exact all_app (ImAll.mono (tk_same sm) _ hys) (all_rep (f := rD) (a := 0) (rat_mk (q := 0) (hz _)) _)
    refine ⟨.ref a, rfl, a, C, dx, _, _, rfl, sm _ _ ea, T.cl, T.a_held, rfl, c, h, _, _, rfl, Lc, hh.same sm, ?_, by rw [ext_length]; omega, left_bd t ht hi, fun p H' sm5 Lp => q p H' (sm.trans sm5) Lp⟩
    rw [ext_length, ht, ← t.all]
    exact t.tame _

abbrev s_Solver_weights : Stmt := inClass (topS 29) 2
theorem sc_Solver_weights : FnScope ["self", "target", "left", "entry"] ["self", "target"] (defScope s_Solver_weights) := ⟨rfl, rfl, rfl, by decide +kernel, rfl, by decide +kernel, by decide +kernel⟩
def sp_weights (K : PySem.W.Frag) (C : Addr) : Sp := fun vs H Q _ => ∃ (a : Addr) (v : V) (rows : List (List Rat)) (target : List Rat) (size : Nat) (s : Int) (E m : Nat), vs = [.ref a, v] ∧ SolvAt K C H a size rows ∧ Task s E m size rows ∧ Im K H v (vD target) ∧ target.length = size ∧ Sc s E target ∧
  (∀ p, first (leftOf rows size target) size = some p → ∀ H', Same H H' → Q .non H') ∧ (first (leftOf rows size target) size = none → ∀ p H', Same H H' → H p = none → Im K H' (.ref p) (vD (((leftOf rows size target).drop size).map fun x => -x)) → Q (.ref p) H')
theorem ok_Solver_weights {f : Addr} {fd : FuncData} {k : Nat} (F : Fun K "weights" "Solver.weights" s_Solver_weights f fd) (T : Tx K mg C){ki : Nat} (M_left_of : Met P w K mg base ki C "left_of" ["self", "target"] (sp_left_of K C)) {kj : Nat} (D_first_place : Def P w K mg base kj "first_place" s_first_place ["entries", "size"] (sp_first_place K)) {kl : Nat} (D_opposite : Def P w K mg base kl "opposite" s_opposite ["one"] (sp_opposite K)) (hk : ki ≤ k) (hj : kj ≤ k) (hl : kl ≤ k) : FnOk P w K mg base CX0 (k + 1) f fd ["self", "target"] (sp_weights K C) := by
  have nd := sc_Solver_weights.nd
  refine F.ok sc_Solver_weights (fun vs H Q E h => ?_) (fun cdv A outer s H vs Q E hr h => ?_)
  · obtain ⟨_, _, _, _, _, _, _, _, rfl, _⟩ := h
    rfl
  · obtain ⟨a, v, rows, target, size, sc, Ec, m, rfl, sv, t, iv, ht, hi, q1, q2⟩ := h
    have l48 := t.l48
    have n48 := t.n48
    refine ⟨_, (pss_cons (ps_set (i := 2) nd rfl (.inl rfl) (pe_met M_left_of T.cl (hr.mono (by omega)) (pv 0) (pa_cons (pv 1) pa_nil)))
      (pss_cons (ps_if (pt_cmp (pc_notN (pe_def D_first_place (hr.mono (by omega)) rfl (pa_cons (pv 2) (pa_cons (kpe_fld K (pv 0)) pa_nil)))))
        (pss_one (ps_ret pe_non))
        pss_nil)
      (pss_one (ps_ret (pe_callTy (kcall_tuple K) (by rfl) T.m_tuple (by decide +kernel) (pa_cons (pe_lc (own := [("entry", 3)]) (g := gName 3) (tt := tYes) rfl nd (kpi_list K (pe_slice sl_list (pv 2) (po_some (kpe_fld K (pv 0))) po_none)) (blkOk_by (by rfl)) (fun _ _ _ _ _ => (pg_name (i := 3) nd rfl (.inl rfl))) (fun _ _ _ _ _ => pts_nil) (fun _ _ _ _ _ => (pe_def D_opposite (hr.mono (by omega)) rfl (pa_cons (pv 3) pa_nil)))) pa_nil)))))), ?_⟩
    obtain ⟨dx, h, ea, hh⟩ := id sv
    refine ⟨.ref a, rfl, a, dx, _, rfl, ea, rfl, v, rfl, a, v, rows, target, size, sc, Ec, m, rfl, sv, t, iv, ht, hi, fun p H1 sm1 L1 => ?_⟩
    have ll := left_length t ht
    refine ⟨.ref p, rfl, .ref a, rfl, a, C, dx, _, _, rfl, sm1 _ _ ea, T.cl, T.a_size, rfl, p, _, size, rfl, L1, by omega, n48, ?_⟩
    cases hf : first (leftOf rows size target) size with
    | some pl =>
      refine ⟨_, rfl, ?_⟩
      exact iteT (q1 pl hf H1 sm1)
    | none =>
      refine ⟨_, rfl, iteF ?_⟩
      obtain ⟨ws, eL, iw⟩ := L1
      have lw : ws.length = size + rows.length := by rw [all_len iw, ll]
      refine ⟨.ref p, rfl, .ref a, rfl, a, C, dx, _, _, rfl, sm1 _ _ ea, T.cl, T.a_size, rfl, size, rfl, p, ws, rfl, .of eL, fun c hc => ?_⟩
      rw [cut_drop (by omega)]
      have sm2 : Same H1 (upd H1 c (.lst (ws.drop size))) := same_new hc
      have ec : (upd H1 c (.lst (ws.drop size))) c = some (.lst (ws.drop size)) := upd_same
      generalize upd H1 c (.lst (ws.drop size)) = G at *
      have iw2 := all_drop (n := size) (ImAll.mono (tk_same sm2) _ iw)
      have lw2 : (ws.drop size).length = rows.length := by rw [List.length_drop]; omega
      refine ⟨c, rfl, ⟨_, .of ec⟩, fun D hD => ?_⟩
      refine lc_all (walk_list (xs := ws.drop size)) (fun j H2 => Same G H2 ∧ ∃ acc, H2 D = some (.lst acc) ∧ ImAll K H2 acc (((((leftOf rows size target).drop size).map fun x => -x).take j).map rD)) ⟨same_new hD, [], upd_same, .nil⟩ (fun j H2 _ z => .of (z.1 _ _ ec)) (fun j x H2 H3 hj z y => ?_) (fun H2 z => ?_)
      · obtain ⟨sm, acc, eD, ia⟩ := z
        obtain ⟨rfl, hx⟩ := y
        obtain ⟨o, ho, io⟩ := all_get iw2 hx
        have lacc : acc.length = j := by rw [all_len ia, List.length_take, List.length_map, List.length_drop]; omega
        refine ⟨rfl, x, rfl, x, o, rfl, Im.mono (tk_same sm) _ io, fun p2 H4 sm4 np i4 => ?_⟩
        have eD4 := sm4 _ _ eD
        refine ⟨acc, eD4, small1000 (by omega), fun c oo ec => ?_, acc ++ [.ref p2], upd_same, ?_⟩
        · rw [upd_ne (ne_of_none ec hD)]
          exact sm4 _ _ (sm _ _ ec)
        · exact all_snoc (ImAll.mono ((tk_same sm4).trans (tk_lst eD4)) _ ia) (by rw [List.getElem?_map, ho]; rfl) (Im.mono (tk_lst eD4) _ i4)
      · obtain ⟨sm, acc, eD, ia⟩ := z
        rw [List.take_of_length_le (by rw [List.length_map, List.length_drop]; omega)] at ia
        have sm0 := (sm1.trans sm2).trans sm
        exact ⟨D, acc, rfl, .inl ⟨.of eD, fun l hl2 => q2 hf l _ (sm0.trans (same_new hl2)) (sm0.free hl2) (.tup (.inl upd_same) (ImAll.mono (tk_new hl2) _ ia))⟩⟩
end
end K39

set_option Elab.async false
set_option linter.all false
set_option maxRecDepth 100000
set_option exponentiation.threshold 20000
namespace K39
open PySem PySem.Spec PyProof.Rows L2 Ly Mt El
section
variable {P : Program} {w : World} {K : PySem.W.Frag} {mg : Str → Option Value} {base : Heap} {C : Addr}

abbrev s_Solver_marks : Stmt := inClass (topS 29) 3
theorem sc_Solver_marks : FnScope ["self", "target", "left", "place", "found", "pivot", "row"] ["self", "target"] (defScope s_Solver_marks) := ⟨rfl, rfl, rfl, by decide +kernel, rfl, by decide +kernel, by decide +kernel⟩
def sp_marks (K : PySem.W.Frag) (C : Addr) : Sp := fun vs H Q _ => ∃ (a : Addr) (v : V) (rows : List (List Rat)) (target : List Rat) (size : Nat) (s : Int) (E m pl : Nat), vs = [.ref a, v] ∧ SolvAt K C H a size rows ∧ Task s E m size rows ∧ Im K H v (vD target) ∧ target.length = size ∧ Sc s E target ∧
  first (leftOf rows size target) size = some pl ∧ ∀ p H', Same H H' → H p = none → Im K H' (.ref p) (vD (marksL (leftOf rows size target) pl size (solved rows size).reverse)) → Q (.ref p) H'
theorem ok_Solver_marks {f : Addr} {fd : FuncData} {k : Nat} (F : Fun K "marks" "Solver.marks" s_Solver_marks f fd) (T : Tx K mg C){ki : Nat} (M_left_of : Met P w K mg base ki C "left_of" ["self", "target"] (sp_left_of K C)) {kj : Nat} (D_first_place : Def P w K mg base kj "first_place" s_first_place ["entries", "size"] (sp_first_place K)) {kl : Nat} (D_over : Def P w K mg base kl "over" s_over ["one", "other"] (sp_over K)) {kn : Nat} (D_opposite : Def P w K mg base kn "opposite" s_opposite ["one"] (sp_opposite K)) (hk : ki ≤ k) (hj : kj ≤ k) (hl : kl ≤ k) (hn : kn ≤ k) : FnOk P w K mg base CX0 (k + 1) f fd ["self", "target"] (sp_marks K C) := by
  have nd := sc_Solver_marks.nd
  refine F.ok sc_Solver_marks (fun vs H Q E h => ?_) (fun cdv A outer s H vs Q E hr h => ?_)
  · obtain ⟨_, _, _, _, _, _, _, _, _, rfl, _⟩ := h
    rfl
  · obtain ⟨a, v, rows, target, size, sc, Ec, m, pl, rfl, sv, t, iv, ht, hi, hf, q⟩ := h
    have l48 := t.l48
    have n48 := t.n48
    obtain ⟨z, gz, hz⟩ := T.zero
    have g_ZERO : ∃ u, mg "ZERO" = some u ∧ L2.RelV (.ref z) u := ⟨_, gz, rfl⟩
    obtain ⟨o, go, ho⟩ := T.one
    have g_ONE : ∃ u, mg "ONE" = some u ∧ L2.RelV (.ref o) u := ⟨_, go, rfl⟩
    refine ⟨_, (pss_cons (ps_set (i := 2) nd rfl (.inl rfl) (pe_met M_left_of T.cl (hr.mono (by omega)) (pv 0) (pa_cons (pv 1) pa_nil)))
      (pss_cons (ps_set (i := 3) nd rfl (.inl rfl) (pe_def D_first_place (hr.mono (by omega)) rfl (pa_cons (pv 2) (pa_cons (kpe_fld K (pv 0)) pa_nil))))
      (pss_cons (ps_set (i := 4) nd rfl (.inl rfl) (pe_op op_rep (pe_lst (pa_cons (pe_gv rfl g_ZERO) pa_nil)) (kpe_fld K (pv 0))))
      (pss_cons (ps_asg (pe_def D_over (hr.mono (by omega)) rfl (pa_cons (pe_gv rfl g_ONE) (pa_cons (pe_ix (kix_list K) (pv 2) (pv 3) (fun _ _ => rfl)) pa_nil))) (pg_sub (pv 4) (pv 3) set_list))
      (pss_cons (ps_for PassesOwn.never rfl (kpi_list K (kpe_fld K (pv 0))) (kpg_tup K (n := 2) rfl (pgs_cons (pg_name (i := 5) nd rfl (.inl rfl)) (pgs_cons (pg_name (i := 6) nd rfl (.inl rfl)) pgs_nil)))
        (pss_one (ps_asg (pe_def D_over (hr.mono (by omega)) rfl (pa_cons (pe_def D_opposite (hr.mono (by omega)) rfl (pa_cons (pe_ix (kix_list K) (pv 6) (pv 3) (fun _ _ => rfl)) pa_nil)) (pa_cons (pe_ix (kix_list K) (pv 2) (pv 3) (fun _ _ => rfl)) pa_nil))) (pg_sub (pv 4) (pv 5) set_list))))
      (pss_one (ps_ret (pe_callTy (kcall_tuple K) (by rfl) T.m_tuple (by decide +kernel) (pa_cons (pv 4) pa_nil))))))))), ?_⟩
    obtain ⟨dx, h, ea, hh⟩ := id sv
    refine ⟨.ref a, rfl, a, dx, _, rfl, ea, rfl, v, rfl, a, v, rows, target, size, sc, Ec, m, rfl, sv, t, iv, ht, hi, fun p H1 sm1 L1 => ?_⟩
    have ll := left_length t ht
    have lb := left_bd' t ht hi
    have tms : Tame (solved rows size) (size + rows.length) := by rw [← t.all]; exact t.tame _
    obtain ⟨pn, p0⟩ := first_some hf
    refine ⟨.ref p, rfl, .ref a, rfl, a, C, dx, _, _, rfl, sm1 _ _ ea, T.cl, T.a_size, rfl, p, _, size, rfl, L1, by omega, n48, ?_⟩
    rw [hf]
    obtain ⟨ws, eL, iw⟩ := id L1
    have lw : ws.length = size + rows.length := by rw [all_len iw, ll]
    obtain ⟨u, hu, iu⟩ := all_at iw (get_fn (show pl < (leftOf rows size target).length by omega))
    refine ⟨by show 1 ≤ sizeLine; decide, fun l2 hl2 => ?_⟩
    have sm2 : Same H1 (upd H1 l2 (.lst [.ref z])) := same_new hl2
    have el2 : (upd H1 l2 (.lst [.ref z])) l2 = some (.lst [.ref z]) := upd_same
    generalize upd H1 l2 (.lst [.ref z]) = G2 at *
    refine ⟨.ref a, rfl, a, C, dx, _, _, rfl, sm2 _ _ (sm1 _ _ ea), T.cl, T.a_size, rfl, l2, (size : Nat), _, rfl, rfl, el2, by omega, by omega, ?_, fun c hc => ?_⟩
    · show 1 * ((size : Int)).toNat ≤ sizeLine
      have := small1000 (show size ≤ 1000 by omega)
      rw [Nat.one_mul]
      show size ≤ sizeLine
      omega
    have sm3 : Same G2 (upd G2 c (.lst (List.replicate ((size : Int)).toNat [V.ref z]).flatten)) := same_new hc
    have ec : (upd G2 c (.lst (List.replicate ((size : Int)).toNat [V.ref z]).flatten)) c = some (.lst (List.replicate size (V.ref z))) := by
      rw [upd_same]
      show some (HO.lst (List.replicate size [V.ref z]).flatten) = _
      rw [flat1]
    generalize upd G2 c (.lst (List.replicate ((size : Int)).toNat [V.ref z]).flatten) = G3 at *
    have sm12 := sm1.trans sm2
    have nc : H1 c = none := sm2.free hc
    have sm03 : Same H G3 := sm12.trans sm3
    refine ⟨.ref p, rfl, .int pl, rfl, p, ws, _, _, rfl, rfl, .of (sm3 _ _ (sm2 _ _ eL)), atI_nat hu, .ref o, u, 1, fn (leftOf rows size target) pl, rfl, rat_mk (q := 1) (ho _), Im.mono (tk_same (sm2.trans sm3)) _ iu, ⟨by decide, by decide⟩, (lb pl).mono (by decide) (by decide), p0, fun p4 H4 sm4 np4 i4 => ?_⟩
    have ec4 := sm4 _ _ ec
    refine ⟨.ref c, rfl, .int pl, rfl, c, _, pl, pl, rfl, rfl, ec4, ixN_nat (by rw [List.length_replicate]; omega), ?_⟩
    have fr : ∀ {H' : Hp} {o : HO}, Same H1 H' → Same H1 (upd H' c o) := fun s b o e => by rw [upd_ne (ne_of_none e nc)]; exact s _ _ e
    have L5 : LRow K (upd H4 c (.lst ((List.replicate size (V.ref z)).set pl (.ref p4)))) c (marksL (leftOf rows size target) pl size []) := by
      refine ⟨_, upd_same, ?_⟩
      rw [← marks_nil]
      exact ImAll.mono (tk_lst ec4) _ (all_set i4 (all_rep (f := rD) (a := 0) (rat_mk (q := 0) (hz _)) size))
    have sm5 : Same H1 (upd H4 c (.lst ((List.replicate size (V.ref z)).set pl (.ref p4)))) := fr ((sm2.trans sm3).trans sm4)
    generalize upd H4 c (.lst ((List.replicate size (V.ref z)).set pl (.ref p4))) = G5 at *
    have h5 := (hh.same sm1)
    obtain ⟨hs, eh, lh, gh⟩ := h5
    refine ⟨.ref a, rfl, a, C, dx, _, _, rfl, sm5 _ _ (sm1 _ _ ea), T.cl, T.a_held, rfl, h, rfl, ⟨hs, .of (sm5 _ _ eh)⟩, ?_⟩
    refine for_it (walk_list (xs := hs)) (fun i σ H2 => ∃ y5 y6, σ = [some (.ref a), some v, some (.ref p), some (.int pl), some (.ref c), y5, y6] ∧ Same H1 H2 ∧ LRow K H2 c (marksL (leftOf rows size target) pl size ((solved rows size).take i).reverse)) ⟨none, none, rfl, sm5, L5⟩ (fun i σ H2 _ ⟨_, _, _, b, _⟩ => .of (b _ _ eh)) ?_ ?_
    · rintro i x σ H2 H3 hi2 ⟨y5, y6, rfl, b, Lc⟩ ⟨rfl, hx⟩
      have hi' : i < (solved rows size).length := by omega
      have hg : (solved rows size)[i]? = some (((solved rows size)[i]).1, ((solved rows size)[i]).2) := List.getElem?_eq_getElem hi'
      have tmi := tms _ (List.getElem_mem hi')
      have piv : ((solved rows size)[i]).1 < size := by
        obtain ⟨taken, R⟩ := t.ok.whole
        exact R.red.piv (((solved rows size)[i]).1, fn ((solved rows size)[i]).2) (List.mem_map.mpr ⟨_, List.getElem_mem hi', rfl⟩)
      generalize ((solved rows size)[i]).1 = pv at *
      generalize ((solved rows size)[i]).2 = rw' at *
      obtain ⟨a2, b2, k1, k2, k3, _⟩ := gh i _ _ hg
      rw [k1] at hx
      obtain rfl := Option.some.inj hx
      obtain ⟨us, eb, ius⟩ := k3.same b
      obtain ⟨u2, hu2, iu2⟩ := all_at ius (get_fn (show pl < rw'.length by have := tmi.1; omega))
      refine ⟨a2, _, rfl, .of (b _ _ k2), rfl, .int pv, _, rfl, .ref b2, _, rfl, rfl, ?_⟩
      refine ⟨.ref b2, rfl, .int pl, rfl, b2, us, _, _, rfl, rfl, .of eb, atI_nat hu2, u2, _, rfl, iu2, fun p6 H6 sm6 np6 i6 => ?_⟩
      have b6 := b.trans sm6
      refine ⟨.ref p, rfl, .int pl, rfl, p, ws, _, _, rfl, rfl, .of (b6 _ _ eL), atI_nat hu, .ref p6, u, _, _, rfl, i6, Im.mono (tk_same b6) _ iu, (bd_neg (tmi.2.2 pl)).mono (by decide) (by decide), (lb pl).mono (by decide) (by decide), p0, fun p7 H7 sm7 np7 i7 => ?_⟩
      obtain ⟨vs', ev, ivs⟩ := Lc.same (sm6.trans sm7)
      have lv : vs'.length = size := by rw [all_len ivs]; unfold marksL; simp
      refine ⟨.ref c, rfl, .int pv, rfl, c, vs', pv, pv, rfl, rfl, ev, ixN_nat (by rw [lv]; exact piv), _, _, rfl, fr (b6.trans sm7), _, upd_same, ?_⟩
      rw [List.take_add_one, hg]
      show ImAll K _ _ ((marksL (leftOf rows size target) pl size ((solved rows size).take i ++ [(pv, rw')]).reverse).map rD)
      rw [List.reverse_append]
      show ImAll K _ _ ((marksL (leftOf rows size target) pl size ((pv, rw') :: ((solved rows size).take i).reverse)).map rD)
      rw [← marks_cons]
      exact ImAll.mono (tk_lst ev) _ (all_set i7 ivs)
    · rintro σ H2 ⟨y5, y6, rfl, b, vs', ev, ivs⟩
      rw [List.take_of_length_le (by omega)] at ivs
      have sm0 := sm1.trans b
      exact ⟨.ref c, rfl, c, vs', rfl, .inl ⟨.of ev, fun l hl2 => q l _ (sm0.trans (same_new hl2)) (sm0.free hl2) (.tup (.inl upd_same) (ImAll.mono (tk_new hl2) _ ivs))⟩⟩

abbrev s_made_of : Stmt := topS 30
theorem sc_made_of : FnScope ["rows", "target", "solver", "weights"] ["rows", "target"] (defScope s_made_of) := ⟨rfl, rfl, rfl, by decide +kernel, rfl, by decide +kernel, by decide +kernel⟩
def wts (rows : List (List Rat)) (size : Nat) (target : List Rat) : List Rat := ((leftOf rows size target).drop size).map fun x => -x
def mks (rows : List (List Rat)) (size : Nat) (target : List Rat) (pl : Nat) : List Rat := marksL (leftOf rows size target) pl size (solved rows size).reverse
/-- what made_of answers -/
def told (rows : List (List Rat)) (size : Nat) (target : List Rat) : PyData := match first (leftOf rows size target) size with
  | none => .tuple [.str "made", vD (wts rows size target)]
  | some pl => .tuple [.str "apart", vD (mks rows size target pl)]
def sp_made_of (K : PySem.W.Frag) : Sp := fun vs H Q _ => ∃ (v1 v2 : V) (rows : List (List Rat)) (target : List Rat) (size : Nat) (s : Int) (E m : Nat), vs = [v1, v2] ∧ Im K H v1 (mD rows) ∧ Im K H v2 (vD target) ∧ Task s E m size rows ∧ target.length = size ∧ Sc s E target ∧
  ∀ p H', Same H H' → Im K H' (.ref p) (told rows size target) → Q (.ref p) H'
set_option maxHeartbeats 1000000 in
theorem ok_made_of {f : Addr} {fd : FuncData} {k : Nat} (F : Fun K "made_of" "made_of" s_made_of f fd) (T : Tx K mg C){k1 : Nat} (D_need_matrix : Def P w K mg base k1 "need_matrix" s_need_matrix ["thing"] (sp_need_matrix K)) {k2 : Nat} (D_need_vector : Def P w K mg base k2 "need_vector" s_need_vector ["thing"] (sp_need_vector K)) {k3 : Nat} (I_Solver : Ini P w K mg base k3 C ["self", "rows", "size"] (sp_init K C)) {k4 : Nat} (M_weights : Met P w K mg base k4 C "weights" ["self", "target"] (sp_weights K C)) {k5 : Nat} (M_marks : Met P w K mg base k5 C "marks" ["self", "target"] (sp_marks K C)) (e1 : k1 ≤ k) (e2 : k2 ≤ k) (e3 : k3 + 1 ≤ k) (e4 : k4 ≤ k) (e5 : k5 ≤ k) : FnOk P w K mg base CX0 (k + 1) f fd ["rows", "target"] (sp_made_of K) := by
  have nd := sc_made_of.nd
  refine F.ok sc_made_of (fun vs H Q E h => ?_) (fun cdv A outer s H vs Q E hr h => ?_)
  · obtain ⟨_, _, _, _, _, _, _, _, rfl, _⟩ := h
    rfl
  · obtain ⟨v1, v2, rows, target, size, sc, Ec, m, rfl, i1, i2, t, ht, hi, q⟩ := h
    have l48 := t.l48
    have n48 := t.n48
    refine ⟨_, (pss_cons (ps_expr (pe_def D_need_matrix (hr.mono (by omega)) rfl (pa_cons (pv 0) pa_nil)))
      (pss_cons (ps_expr (pe_def D_need_vector (hr.mono (by omega)) rfl (pa_cons (pv 1) pa_nil)))
      (C8.pss_cut (ps_if (PW.pt (pw_and (pt_truth (pv 0) (by intro _; rfl)) (pw_and1 (pt_cmpR op_ne (pe_callB (kcall_len K) (by rfl) T.m_len PySem.boot_len (pa_cons (pe_ix (kix_tup K) (pv 0) pe_int (fun _ _ => rfl)) pa_nil)) (pe_callB (kcall_len K) (by rfl) T.m_len PySem.boot_len (pa_cons (pv 1) pa_nil)) (nomark _)))))
        (pss_one ps_never)
        pss_nil)
      (pss_cons (ps_set (i := 2) nd rfl (.inl rfl) (pe_ini I_Solver (hr.mono (by omega)) (by rfl) T.c_Solver (pa_cons (pv 0) (pa_cons (pe_callB (kcall_len K) (by rfl) T.m_len PySem.boot_len (pa_cons (pv 1) pa_nil)) pa_nil))))
      (pss_cons (ps_set (i := 3) nd rfl (.inl rfl) (pe_met M_weights T.cl (hr.mono (by omega)) (pv 2) (pa_cons (pv 1) pa_nil)))
      (pss_cons (ps_if (pt_cmp (pc_notN (pv 3)))
        (pss_one (ps_ret (pe_tup (pa_cons pe_str (pa_cons (pv 3) pa_nil)))))
        pss_nil)
      (pss_one (ps_ret (pe_tup (pa_cons pe_str (pa_cons (pe_met M_marks T.cl (hr.mono (by omega)) (pv 2) (pa_cons (pv 1) pa_nil)) pa_nil))))))))))), ?_⟩
    refine ⟨v1, rfl, v1, rows, size, rfl, i1, l48, t.ok.len, n48, fun H1 sm1 => ?_⟩
    refine ⟨v2, rfl, v2, target, rfl, Im.mono (tk_same sm1) _ i2, by omega, fun H2 sm2 => ?_⟩
    have sm := sm1.trans sm2
    have i1' := Im.mono (tk_same sm) _ i1
    have i2' := Im.mono (tk_same sm) _ i2
    obtain ⟨a, xs, rfl, ha, hxs⟩ := mat_inv i1'
    obtain ⟨b, ys, rfl, hb, hys⟩ := vec_inv i2'
    have lx : xs.length = rows.length := all_len hxs
    have ly : ys.length = size := by rw [all_len hys, ht]
    refine ⟨fun σ' H' => σ' = [some (.ref a), some (.ref b), none, none] ∧ H' = H2, ?_, ?_⟩
    · refine ⟨.ref a, rfl, !xs.isEmpty, .inr (.inl ⟨xs, ha.sq, rfl⟩), ?_⟩
      cases hM : rows with
      | nil =>
        have e : xs = [] := by
          cases xs with
          | nil => rfl
          | cons _ _ => rw [hM] at lx; simp at lx
        rw [e]
        exact iteF (iteF ⟨rfl, rfl⟩)
      | cons r rs =>
        have h0 : 0 < xs.length := by rw [lx, hM]; simp
        have e : (!xs.isEmpty) = true := by
          cases xs with
          | nil => simp at h0
          | cons _ _ => rfl
        rw [e]
        have hr0 : rows[0]? = some r := by rw [hM]; rfl
        obtain ⟨y0, hy0, i0⟩ := all_at hxs hr0
        obtain ⟨c, zs, rfl, hc, hzs⟩ := vec_inv i0
        refine iteT ⟨.ref a, rfl, a, xs, 0, _, rfl, rfl, ha.sq, atI_nat (j := 0) hy0, c, zs, rfl, .inr hc.sq, .ref b, rfl, b, ys, rfl, .inr hb.sq, rfl, _, rfl, ?_⟩
        have el : zs.length = ys.length := by rw [all_len hzs, ly]; exact t.ok.len r (List.mem_of_getElem? hr0)
        rw [el]
        exact iteNS rfl ⟨rfl, rfl⟩
    · rintro σ' H' ⟨rfl, rfl⟩
      refine ⟨.ref a, rfl, .ref b, rfl, b, ys, rfl, .inr hb.sq, fun x dx hx hdx ne => ?_⟩
      have smi : Same H' (upd (upd H' dx (.own x)) x (.ins C dx [])) := fun c o e => by
        rw [upd_ne (ne_of_none e hx), upd_ne (ne_of_none e hdx)]; exact e
      rw [ly]
      refine ⟨x, dx, a, rows, size, sc, Ec, m, rfl, upd_same, Im.mono (tk_same smi) _ i1', t, fun H4 h b4 e4 hh4 => ⟨rfl, ?_⟩⟩
      have sm4 : Same H' H4 := fun c o e => b4 c o (ne_of_none e hx) (smi c o e)
      have sv : SolvAt K C H4 x size rows := ⟨dx, h, e4, hh4⟩
      have i2'' := Im.mono (tk_same sm4) _ i2'
      refine ⟨.ref x, rfl, x, dx, _, rfl, e4, rfl, .ref b, rfl, x, .ref b, rows, target, size, sc, Ec, m, rfl, sv, t, i2'', ht, hi, fun pl hf H5 sm5 => ?_, fun hf p H5 sm5 np i5 => ?_⟩
      · refine ⟨_, rfl, _, rfl, iteF ?_⟩
        have sm45 := sm4.trans sm5
        refine ⟨.ref x, rfl, x, dx, _, rfl, sm5 _ _ e4, rfl, .ref b, rfl, x, .ref b, rows, target, size, sc, Ec, m, pl, rfl, sv.same sm5, t, Im.mono (tk_same sm45) _ i2', ht, hi, hf, fun p H6 sm6 np i6 => ?_⟩
        refine ⟨by show 2 ≤ sizeLine; decide, fun p7 hp7 => q p7 _ ((sm.trans (sm45.trans sm6)).trans (same_new hp7)) ?_⟩
        unfold told
        rw [hf]
        exact Im.new hp7 (.cons (.str _) (.cons i6 .nil))
      · refine ⟨_, rfl, _, rfl, iteT ?_⟩
        refine ⟨.ref p, rfl, by show 2 ≤ sizeLine; decide, fun p7 hp7 => q p7 _ ((sm.trans (sm4.trans sm5)).trans (same_new hp7)) ?_⟩
        unfold told
        rw [hf]
        exact Im.new hp7 (.cons (.str _) (.cons i5 .nil))
end
end K39

set_option Elab.async false
set_option linter.all false
set_option maxRecDepth 100000
set_option exponentiation.threshold 20000
namespace K39
open PySem PySem.Spec PyProof.Rows L2 Ly Mt El
/-- a source of draws at c, its numbers at L; as many draws as n are let -/
def Cup (H : Hp) (c L : Addr) (n : Nat) : Prop := ∃ (a b k : Int) (ns : List Int), H c = some (.lst [.int a, .int b, .int k, .ref L]) ∧ H L = some (.lst (ns.map V.int)) ∧ 0 ≤ a ∧ 0 ≤ b ∧ b < 2 ^ 40 ∧ 0 ≤ k ∧ k + n ≤ 2 ^ 40 ∧ c ≠ L
/-- what a draw leaves as it was -/
def But (c L : Addr) (H H' : Hp) : Prop := ∀ b o, b ≠ c → b ≠ L → H b = some o → H' b = some o
theorem But.refl (c L : Addr) (H : Hp) : But c L H H := fun _ _ _ _ h => h
theorem But.trans {c L : Addr} {H H1 H2 : Hp} (a : But c L H H1) (b : But c L H1 H2) : But c L H H2 := fun x o h1 h2 h => b x o h1 h2 (a x o h1 h2 h)
theorem but_same {c L : Addr} {H H' : Hp} (s : Same H H') : But c L H H' := fun b o _ _ h => s b o h
theorem But.tk {c L : Addr} {H H' : Hp} {n : Nat} (s : But c L H H') (u : Cup H c L n) : TK H H' := fun b xs e => by
  obtain ⟨_, _, _, _, h1, h2, _⟩ := u
  refine s b _ (fun z => ?_) (fun z => ?_) e
  · subst z; rw [h1] at e; cases e
  · subst z; rw [h2] at e; cases e
theorem Cup.same {c L : Addr} {H H' : Hp} {n : Nat} (u : Cup H c L n) (s : Same H H') : Cup H' c L n := by
  obtain ⟨a, b, k, ns, h1, h2, r⟩ := u
  exact ⟨a, b, k, ns, s _ _ h1, s _ _ h2, r⟩
theorem Cup.less {c L : Addr} {H : Hp} {n m : Nat} (u : Cup H c L n) (h : m ≤ n) : Cup H c L m := by
  obtain ⟨a, b, k, ns, h1, h2, h3, h4, h5, h6, h7, h8⟩ := u
  exact ⟨a, b, k, ns, h1, h2, h3, h4, h5, h6, by omega, h8⟩
theorem fmod_in {x m : Int} (h : 0 < m) : 0 ≤ x.fmod m ∧ x.fmod m < m := by
  rw [Int.fmod_eq_emod_of_nonneg _ (by omega)]
  exact ⟨Int.emod_nonneg _ (by omega), Int.emod_lt_of_pos _ h⟩
theorem abs_lt {x : Int} {n : Nat} (h0 : 0 ≤ x) (h : x < 2 ^ n) : x.natAbs < 2 ^ n := by
  have e : ((x.natAbs : Nat) : Int) < ((2 ^ n : Nat) : Int) := by
    rw [Int.natCast_pow]; show ((x.natAbs : Nat) : Int) < (2 : Int) ^ n; omega
  exact Int.ofNat_lt.mp e
section
variable {P : Program} {w : World} {K : PySem.W.Frag} {mg : Str → Option Value} {base : Heap} {C : Addr}

abbrev s__law_cup : Stmt := topS 32
theorem sc__law_cup : FnScope ["script", "blend", "cell"] ["script"] (defScope s__law_cup) := ⟨rfl, rfl, rfl, by decide +kernel, rfl, by decide +kernel, by decide +kernel⟩
def sp_cup (K : PySem.W.Frag) : Sp := fun vs H Q _ => ∃ (a : Addr) (ns : List Int), vs = [.ref a] ∧ SqL K H a (ns.map V.int) ∧ ns.length ≤ 63 ∧ ∀ c L H', Same H H' → H c = none → H L = none → Cup H' c L (2 ^ 39) → Q (.ref c) H'
theorem ok__law_cup {f : Addr} {fd : FuncData} {k : Nat} (F : Fun K "_law_cup" "_law_cup" s__law_cup f fd) (T : Tx K mg C) : FnOk P w K mg base CX0 (k + 1) f fd ["script"] (sp_cup K) := by
  have nd := sc__law_cup.nd
  refine F.ok sc__law_cup (fun vs H Q E h => ?_) (fun cdv A outer s H vs Q E hr h => ?_)
  · obtain ⟨_, _, rfl, _⟩ := h
    rfl
  · obtain ⟨a, ns, rfl, hS, hl, q⟩ := h
    refine ⟨_, (pss_cons (ps_set (i := 1) nd rfl (.inl rfl) pe_int)
      (pss_cons (ps_for PassesOwn.never rfl (kpi_list K (pv 0)) (pg_name (i := 2) nd rfl (.inl rfl))
        (pss_one (ps_set (i := 1) nd rfl (.inl rfl) (pe_op op_add (pe_op op_modN (pe_callTy call_int1 (by rfl) T.m_int (by decide +kernel) (pa_cons (pe_op op_add (pe_op op_mulW (pv 1) pe_int) (pv 2)) pa_nil)) pe_int) pe_int))))
      (pss_one (ps_ret (pe_lst (pa_cons pe_int (pa_cons (pv 1) (pa_cons pe_int (pa_cons (pe_callTy (kcall_list K) (by rfl) T.m_list (by decide +kernel) (pa_cons (pv 0) pa_nil)) pa_nil))))))))), ?_⟩
    refine ⟨.ref a, rfl, a, rfl, ⟨_, hS⟩, ?_⟩
    refine for_it (walk_list (xs := ns.map V.int)) (fun i σ H2 => H2 = H ∧ ∃ b y2, σ = [some (.ref a), some (.int b), y2] ∧ 0 ≤ b ∧ b < 2 ^ 40) ⟨rfl, 1, none, rfl, by decide, by decide⟩ (fun i σ H2 _ z => by rw [z.1]; exact hS) ?_ ?_
    · rintro i x σ H2 H3 hi ⟨rfl, b, y2, rfl, b0, b1⟩ ⟨rfl, hx⟩
      obtain ⟨v, hv, rfl⟩ : ∃ v, ns[i]? = some v ∧ V.int v = x := by
        rw [List.getElem?_map] at hx
        cases h : ns[i]? with
        | none => rw [h] at hx; simp at hx
        | some v => rw [h] at hx; exact ⟨v, rfl, by simpa using hx⟩
      refine ⟨.int b, rfl, _, _, rfl, rfl, wide_mul (abs_lt b0 b1) (show (31 : Int).natAbs < 2 ^ 5 by decide) (by decide) (by decide) (by decide), .int v, rfl, _, _, rfl, rfl, .inl ⟨_, rfl, _, _, rfl, rfl, (by show (2147483629 : Int) ≠ 0; decide), _, _, rfl, rfl, rfl, ?_⟩⟩
      have h := fmod_in (x := b * 31 + v) (m := 2147483629) (by decide)
      exact ⟨_, _, rfl, by omega, by omega⟩
    · rintro σ H2 ⟨rfl, b, y2, rfl, b0, b1⟩
      refine ⟨.int b, rfl, .ref a, rfl, a, _, rfl, .inl hS, fun l hl2 => ⟨by show 4 ≤ sizeLine; decide, fun p hp => ?_⟩⟩
      have hne : l ≠ p := ne_of_none upd_same hp
      refine q p l _ ((same_new hl2).trans (same_new hp)) ((same_new hl2).free hp) hl2 ⟨0, b, 0, ns, upd_same, ?_, by omega, b0, b1, by omega, by decide, hne.symm⟩
      rw [upd_ne hne, upd_same]

abbrev s__law_sip : Stmt := topS 33
theorem sc__law_sip : FnScope ["cup", "many", "size", "drawn"] ["cup", "many"] (defScope s__law_sip) := ⟨rfl, rfl, rfl, by decide +kernel, rfl, by decide +kernel, by decide +kernel⟩
def sp_sip : Sp := fun vs H Q _ => ∃ (c L : Addr) (m : Int) (n : Nat), vs = [.ref c, .int m] ∧ Cup H c L (n + 1) ∧ 0 < m ∧ m < 2 ^ 140 ∧ ∀ d H', 0 ≤ d → d < m → Cup H' c L n → But c L H H' → Q (.int d) H'
theorem ok__law_sip {f : Addr} {fd : FuncData} {k : Nat} (F : Fun K "_law_sip" "_law_sip" s__law_sip f fd) (T : Tx K mg C) : FnOk P w K mg base CX0 (k + 1) f fd ["cup", "many"] sp_sip := by
  have nd := sc__law_sip.nd
  refine F.ok sc__law_sip (fun vs H Q E h => ?_) (fun cdv A outer s H vs Q E hr h => ?_)
  · obtain ⟨_, _, _, _, rfl, _⟩ := h
    rfl
  · obtain ⟨c, L, m, n, rfl, u, m0, m1, q⟩ := h
    refine ⟨_, (C8.pss_cut (ps_if (PW.pt (pw_and (pt_cmpR op_eq (pe_ix (kix_list K) (pv 0) pe_int (fun _ _ => rfl)) pe_int (nomark _)) (pw_and1 (pt_cmpR (kop_neD K hr.units) (pe_ix (kix_list K) (pv 0) pe_int (fun _ _ => rfl)) (pe_lst pa_nil) (nomark _)))))
        (pss_cons (ps_set (i := 2) nd rfl (.inl rfl) (pe_callB call_abs (by rfl) T.m_abs (by decide +kernel) (pa_cons (pe_callTy call_int1 (by rfl) T.m_int (by decide +kernel) (pa_cons (pe_bm PySem.F.plainAttrs_list PySem.F.slot_list_pop PySem.F.type_list_pop mt_popAt (pe_ix (kix_list K) (pv 0) pe_int (fun _ _ => rfl)) (pa_cons pe_int pa_nil)) pa_nil)) pa_nil)))
        (pss_one (ps_asg (pe_ifExp (pt_cmpR op_ge (pv 2) (pe_op op_pow pe_int pe_int) (nomark _)) (pv 2) (pe_op op_add (pe_op op_mulW (pe_op op_fdivW (pe_op op_mulW (pv 2) (pv 2)) pe_int) pe_int) (pv 2))) (pg_sub (pv 0) pe_int set_list))))
        pss_nil)
      (pss_cons (ps_if (pt_cmpR op_gt (pe_ix (kix_list K) (pv 0) pe_int (fun _ _ => rfl)) pe_int (nomark _))
        (pss_cons (ps_set (i := 3) nd rfl (.inl rfl) (pe_op op_modN (pe_callTy call_int1 (by rfl) T.m_int (by decide +kernel) (pa_cons (pe_ix (kix_list K) (pv 0) pe_int (fun _ _ => rfl)) pa_nil)) (pv 1)))
        (pss_cons (ps_asg (pe_op op_fdivW (pe_ix (kix_list K) (pv 0) pe_int (fun _ _ => rfl)) (pv 1)) (pg_sub (pv 0) pe_int set_list))
        (pss_one (ps_ret (pv 3)))))
        pss_nil)
      (pss_cons (ps_asg (pe_op op_add (pe_ix (kix_list K) (pv 0) pe_int (fun _ _ => rfl)) pe_int) (pg_sub (pv 0) pe_int set_list))
      (pss_cons (ps_asg (pe_op op_modN (pe_callTy call_int1 (by rfl) T.m_int (by decide +kernel) (pa_cons (pe_op op_add (pe_op op_add (pe_op op_mulW (pe_ix (kix_list K) (pv 0) pe_int (fun _ _ => rfl)) pe_int) (pe_op op_mulW (pe_op op_mulW (pe_ix (kix_list K) (pv 0) pe_int (fun _ _ => rfl)) (pe_ix (kix_list K) (pv 0) pe_int (fun _ _ => rfl))) pe_int)) pe_int) pa_nil)) pe_int) (pg_sub (pv 0) pe_int set_list))
      (pss_one (ps_ret (pe_op op_modN (pe_op op_fdivW (pe_op op_modN (pe_callTy call_int1 (by rfl) T.m_int (by decide +kernel) (pa_cons (pe_op op_mulW (pe_ix (kix_list K) (pv 0) pe_int (fun _ _ => rfl)) (pe_op op_add (pe_op op_fdivW (pe_ix (kix_list K) (pv 0) pe_int (fun _ _ => rfl)) pe_int) pe_int)) pa_nil)) pe_int) pe_int) (pv 1)))))))), ?_⟩
    refine ⟨fun σ' H' => ∃ y2, σ' = [some (.ref c), some (.int m), y2, none] ∧ Cup H' c L (n + 1) ∧ But c L H H', ?_, ?_⟩
    · obtain ⟨a, b, k', ns, hc, hL, a0, b0, b1, k0, k1, ne⟩ := id u
      refine ⟨.ref c, rfl, c, _, 0, _, rfl, rfl, .of hc, atI_nat (j := 0) rfl, rfl, _, rfl, ?_⟩
      by_cases ha : a = 0
      · rw [decide_eq_true (show V.int a = V.int 0 by rw [ha])]
        refine iteT ⟨.ref c, rfl, c, _, 3, _, rfl, rfl, .of hc, atI_nat (j := 3) rfl, by show 0 ≤ sizeLine; decide, fun e he => ?_⟩
        have hc2 : (upd H e (.lst [])) c = some (.lst [.int a, .int b, .int k', .ref L]) := by rw [upd_ne (ne_of_none hc he)]; exact hc
        have hL2 : (upd H e (.lst [])) L = some (.lst (ns.map V.int)) := by rw [upd_ne (ne_of_none hL he)]; exact hL
        have bt : But c L H (upd H e (.lst [])) := but_same (same_new he)
        refine ⟨_, _, .lst (.of hL2) (dp_ints ns), .lst (.of upd_same) (.nil), shaped_ints ns, shaped_ints [], ?_⟩
        rw [eqv_ints_nil]
        cases hns : ns with
        | nil =>
          subst ha hns
          exact ⟨false, rfl, iteF ⟨none, rfl, u.same (same_new he), bt⟩⟩
        | cons v r =>
          rw [hns] at hL2
          refine ⟨true, rfl, iteT ?_⟩
          refine ⟨.ref c, rfl, c, _, 3, _, rfl, rfl, .of hc2, atI_nat (j := 3) rfl, .inl ⟨rfl, _, .of hL2⟩, L, _, 0, 0, .int v, rfl, rfl, hL2, by decide, by decide, ?_, rfl, .inl ⟨_, rfl, _, rfl, ?_⟩⟩
          · show seqIndex? 0 ((v :: r).map V.int).length = some 0
            unfold seqIndex?
            simp
          have hc3 : (upd (upd H e (.lst [])) L (.lst (((v :: r).map V.int).eraseIdx 0))) c = some (.lst [.int a, .int b, .int k', .ref L]) := by rw [upd_ne ne]; exact hc2
          have hL3 : (upd (upd H e (.lst [])) L (.lst (((v :: r).map V.int).eraseIdx 0))) L = some (.lst (r.map V.int)) := by rw [upd_same]; rfl
          have b3 : But c L H (upd (upd H e (.lst [])) L (.lst (((v :: r).map V.int).eraseIdx 0))) := fun x o h1 h2 h => by rw [upd_ne h2]; exact bt x o h1 h2 h
          generalize hG : upd (upd H e (.lst [])) L (.lst (((v :: r).map V.int).eraseIdx 0)) = G at *
          generalize hz : (if v < 0 then -v else v) = z
          have z0 : 0 ≤ z := by rw [← hz]; split <;> omega
          have fin : ∀ x : Int, 0 ≤ x → ∃ y2, [some (V.ref c), some (.int m), some (.int z), none] = [some (V.ref c), some (.int m), y2, none] ∧ Cup (upd G c (.lst [.int x, .int b, .int k', .ref L])) c L (n + 1) ∧ But c L H (upd G c (.lst [.int x, .int b, .int k', .ref L])) := by
            intro x x0
            refine ⟨_, rfl, ⟨x, b, k', r, upd_same, ?_, x0, b0, b1, k0, k1, ne⟩, fun y o h1 h2 h => ?_⟩
            · rw [upd_ne ne.symm]; exact hL3
            · rw [upd_ne h1]; exact b3 y o h1 h2 h
          have p18 : (10 : Int) ^ (18 : Int).toNat = 1000000000000000000 := by decide
          refine ⟨.int z, rfl, _, _, rfl, rfl, ⟨by decide, by decide, by decide⟩, _, _, rfl, rfl, _, rfl, ?_⟩
          rw [p18]
          by_cases hbig : z ≥ 1000000000000000000
          · rw [decide_eq_true hbig]
            exact iteT ⟨.int z, rfl, .ref c, rfl, c, _, 0, 0, rfl, rfl, hc3, rfl, fin z z0⟩
          · rw [decide_eq_false hbig]
            have zb : z.natAbs < 2 ^ 60 := abs_lt z0 (by omega)
            have zz : (z * z).natAbs < 2 ^ 120 := lt_mul zb zb
            have zq0 : 0 ≤ z * z / 97 := Int.ediv_nonneg (Int.mul_nonneg z0 z0) (by decide)
            have zq : (z * z / 97).natAbs < 2 ^ 120 := Nat.lt_of_le_of_lt (Int.natAbs_ediv_le_natAbs _ _) zz
            refine iteF ⟨.int z, rfl, .int z, rfl, _, _, rfl, rfl, wide_mul zb zb (by decide) (by decide) (by decide), _, _, rfl, rfl, wide_div (b := 7) (by decide) (by decide) (by decide) (by decide), _, _, rfl, rfl, wide_mul (b := 16) zq (by decide) (by decide) (by decide) (by decide), .int z, rfl, _, _, rfl, rfl, ?_⟩
            exact ⟨.ref c, rfl, c, _, 0, 0, rfl, rfl, hc3, rfl, fin _ (Int.add_nonneg (Int.mul_nonneg zq0 (by decide)) z0)⟩
      · rw [decide_eq_false (show ¬ V.int a = V.int 0 from fun z => ha (V.int.inj z))]
        exact iteF ⟨none, rfl, u, But.refl c L H⟩
    · rintro σ' H' ⟨y2, rfl, u', bt⟩
      obtain ⟨a, b, k', ns, hc, hL, a0, b0, b1, k0, k1, ne⟩ := id u'
      have mabs : m.natAbs < 2 ^ 140 := abs_lt (by omega) m1
      refine ⟨.ref c, rfl, c, _, 0, _, rfl, rfl, .of hc, atI_nat (j := 0) rfl, _, _, rfl, rfl, _, rfl, ?_⟩
      by_cases ha : a > 0
      · rw [decide_eq_true ha]
        refine iteT ⟨.ref c, rfl, c, _, 0, _, rfl, rfl, .of hc, atI_nat (j := 0) rfl, .inl ⟨_, rfl, .int m, rfl, _, _, rfl, rfl, (by show m ≠ 0; omega), ?_⟩⟩
        refine ⟨.ref c, rfl, c, _, 0, _, rfl, rfl, .of hc, atI_nat (j := 0) rfl, .int m, rfl, _, _, rfl, rfl, wide_div m0 mabs (by decide) (by decide), .ref c, rfl, c, _, 0, 0, rfl, rfl, hc, rfl, ?_⟩
        have h := fmod_in (x := a) m0
        refine ⟨_, rfl, q _ _ h.1 h.2 ⟨a / m, b, k', ns, upd_same, ?_, Int.ediv_nonneg a0 (by omega), b0, b1, k0, by omega, ne⟩ fun y o h1 h2 h => ?_⟩
        · rw [upd_ne ne.symm]; exact hL
        · rw [upd_ne h1]; exact bt y o h1 h2 h
      · rw [decide_eq_false ha]
        have kb : (k' + 1).natAbs < 2 ^ 41 := abs_lt (by omega) (by omega)
        have bb : b.natAbs < 2 ^ 40 := abs_lt b0 b1
        refine iteF ⟨.ref c, rfl, c, _, 2, _, rfl, rfl, .of hc, atI_nat (j := 2) rfl, _, _, rfl, rfl, .ref c, rfl, c, _, 2, 2, rfl, rfl, hc, rfl, ?_⟩
        have hc2 : (upd H' c (.lst [.int a, .int b, .int (k' + 1), .ref L])) c = some (.lst [.int a, .int b, .int (k' + 1), .ref L]) := upd_same
        have hL2 : (upd H' c (.lst [.int a, .int b, .int (k' + 1), .ref L])) L = some (.lst (ns.map V.int)) := by rw [upd_ne ne.symm]; exact hL
        have bt2 : But c L H (upd H' c (.lst [.int a, .int b, .int (k' + 1), .ref L])) := fun y o h1 h2 h => by rw [upd_ne h1]; exact bt y o h1 h2 h
        show tSeq _ _ _ _ (upd H' c (.lst [.int a, .int b, .int (k' + 1), .ref L]))
        generalize upd H' c (.lst [.int a, .int b, .int (k' + 1), .ref L]) = G at *
        have kk : ((k' + 1) * (k' + 1)).natAbs < 2 ^ 82 := lt_mul kb kb
        refine ⟨.ref c, rfl, c, _, 1, _, rfl, rfl, .of hc2, atI_nat (j := 1) rfl, _, _, rfl, rfl, wide_mul (b := 15) bb (by decide) (by decide) (by decide) (by decide), ?_⟩
        refine ⟨.ref c, rfl, c, _, 2, _, rfl, rfl, .of hc2, atI_nat (j := 2) rfl, .ref c, rfl, c, _, 2, _, rfl, rfl, .of hc2, atI_nat (j := 2) rfl, _, _, rfl, rfl, wide_mul kb kb (by decide) (by decide) (by decide), _, _, rfl, rfl, wide_mul (b := 13) kk (by decide) (by decide) (by decide) (by decide), _, _, rfl, rfl, _, _, rfl, rfl, .inl ⟨_, rfl, _, _, rfl, rfl, (by show (2147483647 : Int) ≠ 0; decide), ?_⟩⟩
        have hr2 := fmod_in (x := b * 16807 + (k' + 1) * (k' + 1) * 4099 + 77) (m := 2147483647) (by decide)
        refine ⟨.ref c, rfl, c, _, 1, 1, rfl, rfl, hc2, rfl, ?_⟩
        have hc3 : (upd G c (.lst [.int a, .int ((b * 16807 + (k' + 1) * (k' + 1) * 4099 + 77).fmod 2147483647), .int (k' + 1), .ref L])) c = some (.lst [.int a, .int ((b * 16807 + (k' + 1) * (k' + 1) * 4099 + 77).fmod 2147483647), .int (k' + 1), .ref L]) := upd_same
        have bt3 : But c L H (upd G c (.lst [.int a, .int ((b * 16807 + (k' + 1) * (k' + 1) * 4099 + 77).fmod 2147483647), .int (k' + 1), .ref L])) := fun y o h1 h2 h => by rw [upd_ne h1]; exact bt2 y o h1 h2 h
        have hL3 : (upd G c (.lst [.int a, .int ((b * 16807 + (k' + 1) * (k' + 1) * 4099 + 77).fmod 2147483647), .int (k' + 1), .ref L])) L = some (.lst (ns.map V.int)) := by rw [upd_ne ne.symm]; exact hL2
        dsimp only [List.set]
        generalize hx : (b * 16807 + (k' + 1) * (k' + 1) * 4099 + 77).fmod 2147483647 = x at *
        generalize upd G c (.lst [.int a, .int x, .int (k' + 1), .ref L]) = G3 at *
        have xb : x.natAbs < 2 ^ 31 := abs_lt hr2.1 (by omega)
        have x5 : (x / 1009 + 5).natAbs < 2 ^ 32 := by
          have h1 : 0 ≤ x / 1009 := Int.ediv_nonneg hr2.1 (by decide)
          have h2 : x / 1009 ≤ x := Int.ediv_le_self _ hr2.1
          exact abs_lt (by omega) (by omega)
        refine ⟨.ref c, rfl, c, _, 1, _, rfl, rfl, .of hc3, atI_nat (j := 1) rfl, .ref c, rfl, c, _, 1, _, rfl, rfl, .of hc3, atI_nat (j := 1) rfl, _, _, rfl, rfl, wide_div (b := 10) (by decide) (by decide) (by decide) (by decide), _, _, rfl, rfl, _, _, rfl, rfl, wide_mul xb x5 (by decide) (by decide) (by decide), ?_⟩
        refine .inl ⟨_, rfl, _, _, rfl, rfl, (by show (2147483629 : Int) ≠ 0; decide), _, _, rfl, rfl, wide_div (b := 6) (by decide) (by decide) (by decide) (by decide), .int m, rfl, _, _, rfl, rfl, (by show m ≠ 0; omega), ?_⟩
        have h := fmod_in (x := (x * (x / 1009 + 5)).fmod 2147483629 / 61) m0
        exact q _ _ h.1 h.2 ⟨a, x, k' + 1, ns, hc3, hL3, a0, hr2.1, by omega, by omega, by omega, ne⟩ bt3
end
theorem But.free {c L : Addr} {H H' : Hp} {n : Nat} {p : Addr} (s : But c L H H') (u : Cup H' c L n) (h : H' p = none) : H p = none := by
  obtain ⟨_, _, _, _, h1, h2, _⟩ := u
  cases e : H p with
  | none => rfl
  | some o =>
    by_cases q : p = c
    · subst q; rw [h1] at h; cases h
    · by_cases q2 : p = L
      · subst q2; rw [h2] at h; cases h
      · rw [s p o q q2 e] at h; cases h
theorem Cup.upd {c L D : Addr} {H : Hp} {o : HO} {n : Nat} (u : Cup H c L n) (h1 : D ≠ c) (h2 : D ≠ L) : Cup (upd H D o) c L n := by
  obtain ⟨a, b, k, ns, hc, hL, r⟩ := u
  exact ⟨a, b, k, ns, by rw [upd_ne h1.symm]; exact hc, by rw [upd_ne h2.symm]; exact hL, r⟩
theorem Cup.ne {c L D : Addr} {H : Hp} {n : Nat} (u : Cup H c L n) (h : H D = none) : D ≠ c ∧ D ≠ L := by
  obtain ⟨a, b, k, ns, hc, hL, r⟩ := u
  exact ⟨(ne_of_none hc h).symm, (ne_of_none hL h).symm⟩
section
variable {P : Program} {w : World} {K : PySem.W.Frag} {mg : Str → Option Value} {base : Heap} {C : Addr}
abbrev s__law_ratio : Stmt := topS 35
theorem sc__law_ratio : FnScope ["top", "bottom", "common", "other"] ["top", "bottom"] (defScope s__law_ratio) := ⟨rfl, rfl, rfl, by decide +kernel, rfl, by decide +kernel, by decide +kernel⟩
def sp_ratio (K : PySem.W.Frag) : Sp := fun vs H Q _ => ∃ t b, vs = [.int t, .int b] ∧ 0 < b ∧ b.natAbs < 2 ^ 9000 ∧ ∀ p, H p = none → Im K (upd H p (.tup [.int (Rat.divInt t b).num, .int ((Rat.divInt t b).den : Int)])) (.ref p) (rD (Rat.divInt t b)) → Q (.ref p) (upd H p (.tup [.int (Rat.divInt t b).num, .int ((Rat.divInt t b).den : Int)]))
theorem ok__law_ratio {f : Addr} {fd : FuncData} {k : Nat} (F : Fun K "_law_ratio" "_law_ratio" s__law_ratio f fd) (T : Tx K mg C) : FnOk P w K mg base CX0 (k + 1) f fd ["top", "bottom"] (sp_ratio K) := by
  have nd := sc__law_ratio.nd
  refine F.ok sc__law_ratio (fun vs H Q E h => ?_) (fun cdv A outer s H vs Q E hr h => ?_)
  · obtain ⟨_, _, rfl, _⟩ := h
    rfl
  · obtain ⟨t, b, rfl, hb, hs, q⟩ := h
    refine ⟨_, (pss_cons (ps_par (i := 2) (j := 3) (by rfl) nd rfl rfl (by decide) rfl rfl (pa_cons (pe_callB call_abs (by rfl) T.m_abs (by decide +kernel) (pa_cons (pv 1) pa_nil)) (pa_cons (pe_callB call_abs (by rfl) T.m_abs (by decide +kernel) (pa_cons (pv 0) pa_nil)) pa_nil)) (by rfl))
      (pss_cons (ps_while PassesOwn.never (pt_cmpR op_gt (pv 3) pe_int (nomark _))
        (pss_one (ps_par (i := 2) (j := 3) (by rfl) nd rfl rfl (by decide) rfl rfl (pa_cons (pv 3) (pa_cons (pe_op op_modN (pe_callTy call_int1 (by rfl) T.m_int (by decide +kernel) (pa_cons (pv 2) pa_nil)) (pv 3)) pa_nil)) (by rfl))))
      (pss_cons (ps_if (pt_cmpR op_lt (pv 1) pe_int (nomark _))
        (pss_one (ps_set (i := 2) nd rfl (.inl rfl) (pe_un un_neg (pv 2))))
        pss_nil)
      (pss_one (ps_ret (pe_tup (pa_cons (pe_op op_fdivW (pv 0) (pv 2)) (pa_cons (pe_op op_fdivW (pv 1) (pv 2)) pa_nil)))))))), ?_⟩
    refine ⟨.int b, rfl, b, rfl, .int t, rfl, t, rfl, _, _, rfl, ?_⟩
    have eb : (if b < 0 then -b else b) = ((b.natAbs : Nat) : Int) := by split <;> omega
    have et : (if t < 0 then -t else t) = ((t.natAbs : Nat) : Int) := by split <;> omega
    rw [eb, et]
    refine while_by (fun σ H2 => H2 = H ∧ ∃ x y : Nat, σ = [some (.int t), some (.int b), some (.int x), some (.int y)] ∧ 0 < x ∧ Nat.gcd x y = Nat.gcd t.natAbs b.natAbs) (fun σ _ => match σ with | [_, _, _, some (.int y)] => y.toNat | _ => 0) ⟨rfl, b.natAbs, t.natAbs, rfl, by omega, Nat.gcd_comm _ _⟩ ?_ ?_
    · rintro σ H2 ⟨rfl, x, y, rfl, x0, hg⟩
      refine ⟨.int y, rfl, _, _, rfl, rfl, _, rfl, ?_⟩
      by_cases hy : 0 < y
      · rw [decide_eq_true (show (y : Int) > 0 by omega)]
        refine iteT ⟨.int y, rfl, .int x, rfl, .inl ⟨_, rfl, .int y, rfl, _, _, rfl, rfl, (by show (y : Int) ≠ 0; omega), _, _, rfl, ⟨rfl, y, x % y, ?_, hy, ?_⟩, ?_⟩⟩
        · have e : (x : Int).fmod (y : Int) = ((x % y : Nat) : Int) := by rw [Int.fmod_eq_emod_of_nonneg _ (by omega)]; rfl
          show [some (V.int t), some (V.int b), some (V.int y), some (V.int ((x : Int).fmod (y : Int)))] = _
          rw [e]
        · rw [Nat.gcd_comm, ← Nat.gcd_rec, Nat.gcd_comm, hg]
        · have e : (x : Int).fmod (y : Int) = ((x % y : Nat) : Int) := by rw [Int.fmod_eq_emod_of_nonneg _ (by omega)]; rfl
          show ((x : Int).fmod (y : Int)).toNat < ((y : Int)).toNat
          rw [e]
          have := Nat.mod_lt x hy
          omega
      · rw [decide_eq_false (show ¬ (y : Int) > 0 by omega)]
        have y0 : y = 0 := by omega
        subst y0
        rw [Nat.gcd_zero_right] at hg
        subst hg
        refine iteF ⟨.int b, rfl, _, _, rfl, rfl, _, rfl, ?_⟩
        rw [decide_eq_false (show ¬ b < 0 by omega)]
        have c := wide_div (i := t) (gcd_pos (t := t) hb) (Nat.lt_of_le_of_lt (gcd_le hb) hs) (by decide) (Nat.le_refl _)
        have c' := wide_div (i := b) (gcd_pos (t := t) hb) (Nat.lt_of_le_of_lt (gcd_le hb) hs) (by decide) (Nat.le_refl _)
        refine iteF ⟨.int t, rfl, .int _, rfl, _, _, rfl, rfl, c, .int b, rfl, .int _, rfl, _, _, rfl, rfl, c', by show 2 ≤ sizeLine; decide, fun p hp => ?_⟩
        have z := q p hp (rat_mk (.inl upd_same))
        rw [← made_num hb, ← made_den hb] at z
        exact z
    · rintro σ H2 Q1 Q2 hm ⟨v, e, i, j, h1, h2, k', h3, h4⟩
      exact ⟨v, e, i, j, h1, h2, k', h3, hm _ _ h4⟩


abbrev s__law_is_whole : Stmt := topS 34
theorem sc__law_is_whole : FnScope ["found"] ["found"] (defScope s__law_is_whole) := ⟨rfl, rfl, rfl, by decide +kernel, rfl, by decide +kernel, by decide +kernel⟩
def sp_is_whole : Sp := fun vs H Q _ => ∃ i, vs = [.int i] ∧ Q (.bl true) H
theorem ok__law_is_whole {f : Addr} {fd : FuncData} {k : Nat} (F : Fun K "_law_is_whole" "_law_is_whole" s__law_is_whole f fd) (T : Tx K mg C) : FnOk P w K mg base CX0 (k + 1) f fd ["found"] sp_is_whole := by
  have nd := sc__law_is_whole.nd
  refine F.ok sc__law_is_whole (fun vs H Q E h => ?_) (fun cdv A outer s H vs Q E hr h => ?_)
  · obtain ⟨i, rfl, _⟩ := h
    rfl
  · obtain ⟨i, rfl, q⟩ := h
    refine ⟨_, (pss_one (ps_ret (pe_and (pe_callB (kcall_isi K) (by rfl) T.m_isinstance (by decide +kernel) (pa_cons (pv 0) (pa_cons (pe_bltn (v := .ty "int") (u := .type "int") (by rfl) T.m_int (by decide +kernel) rfl) pa_nil))) (pe_one (pe_not (pe_callB (kcall_isi K) (by rfl) T.m_isinstance (by decide +kernel) (pa_cons (pv 0) (pa_cons (pe_bltn (v := .ty "bool") (u := .type "bool") (by rfl) T.m_bool (by decide +kernel) rfl) pa_nil)))))))), ?_⟩
    refine ⟨.int i, rfl, .int i, _, .type "int", _, true, rfl, .ty _, .base (.int i), kit_ty (by decide +kernel), true, rfl, ?_⟩
    exact iteT ⟨.int i, rfl, .int i, _, .type "int", _, false, rfl, .ty _, .base (.int i), kit_ty (by decide +kernel), false, rfl, q⟩

theorem shaped_rat (q : Rat) : SeqAt.shaped (rD q) = true := by
  show (PyData.canLay0 (rD q) && decide (PyData.depth (rD q) ≤ 64)) = true
  rw [Bool.and_eq_true]
  exact ⟨by simp [rD, PyData.canLay0, PyData.canLayAll0], decide_eq_true (by simp [rD, PyData.depth, PyData.depthAll])⟩
theorem eqv_rat (q : Rat) : PyData.eqv (rD q) (rD q) = true := by simp [rD, PyData.eqv, PyData.eqvAll]
abbrev s__law_is_ratio : Stmt := topS 36
theorem sc__law_is_ratio : FnScope ["found"] ["found"] (defScope s__law_is_ratio) := ⟨rfl, rfl, rfl, by decide +kernel, rfl, by decide +kernel, by decide +kernel⟩
def sp_lis_ratio (K : PySem.W.Frag) : Sp := fun vs H Q _ => ∃ v q, vs = [v] ∧ Im K H v (rD q) ∧ Bd 5800 5800 q ∧ ∀ H', Same H H' → Q (.bl true) H'
theorem ok__law_is_ratio {f : Addr} {fd : FuncData} {k : Nat} (F : Fun K "_law_is_ratio" "_law_is_ratio" s__law_is_ratio f fd) (T : Tx K mg C){ki : Nat} (D__law_is_whole : Def P w K mg base ki "_law_is_whole" s__law_is_whole ["found"] sp_is_whole) {kj : Nat} (D__law_ratio : Def P w K mg base kj "_law_ratio" s__law_ratio ["top", "bottom"] (sp_ratio K)) (hk : ki ≤ k) (hj : kj ≤ k) : FnOk P w K mg base CX0 (k + 1) f fd ["found"] (sp_lis_ratio K) := by
  have nd := sc__law_is_ratio.nd
  refine F.ok sc__law_is_ratio (fun vs H Q E h => ?_) (fun cdv A outer s H vs Q E hr h => ?_)
  · obtain ⟨_, _, rfl, _⟩ := h
    rfl
  · obtain ⟨v, q, rfl, hv, bq, z⟩ := h
    obtain ⟨a, rfl, ha⟩ := rat_inv hv
    refine ⟨_, (pss_cons (ps_if (PW.pt (pw_or (pt_not (pt_val (pe_callB (kcall_isi K) (by rfl) T.m_isinstance (by decide +kernel) (pa_cons (pv 0) (pa_cons (pe_bltn (v := .ty "tuple") (u := .type "tuple") (by rfl) T.m_tuple (by decide +kernel) rfl) pa_nil))))) (pw_or (pt_cmpR op_ne (pe_callB (kcall_len K) (by rfl) T.m_len PySem.boot_len (pa_cons (pv 0) pa_nil)) pe_int (nomark _)) (pw_or (pt_not (pt_val (pe_def D__law_is_whole (hr.mono (by omega)) rfl (pa_cons (pe_ix (kix_tup K) (pv 0) pe_int (fun _ _ => rfl)) pa_nil)))) (pw_or1 (pt_not (pt_val (pe_def D__law_is_whole (hr.mono (by omega)) rfl (pa_cons (pe_ix (kix_tup K) (pv 0) pe_int (fun _ _ => rfl)) pa_nil)))))))))
        (pss_one (ps_ret pe_bl))
        pss_nil)
      (pss_one (ps_ret (pe_and (pe_cmpR op_gt (pe_ix (kix_tup K) (pv 0) pe_int (fun _ _ => rfl)) pe_int (nomark _)) (pe_one (pe_cmpR (kop_eqD K hr.units) (pv 0) (pe_def D__law_ratio (hr.mono (by omega)) rfl (pa_cons (pe_ix (kix_tup K) (pv 0) pe_int (fun _ _ => rfl)) (pa_cons (pe_ix (kix_tup K) (pv 0) pe_int (fun _ _ => rfl)) pa_nil))) (nomark _))))))), ?_⟩
    have hp := den_pos q
    refine ⟨.ref a, rfl, .ref a, _, .type "tuple", _, true, rfl, .ty _, ity ha, kit_ty (by decide +kernel), true, rfl, iteF ?_⟩
    refine ⟨.ref a, rfl, a, _, rfl, .inr ha.sq, rfl, _, rfl, ?_⟩
    refine iteNS rfl ?_
    refine ⟨.ref a, rfl, a, _, 0, _, rfl, rfl, ha.sq, atI_nat (j := 0) rfl, _, rfl, true, rfl, iteF ?_⟩
    refine ⟨.ref a, rfl, a, _, 1, _, rfl, rfl, ha.sq, atI_nat (j := 1) rfl, _, rfl, true, rfl, iteF ?_⟩
    refine ⟨.ref a, rfl, a, _, 1, _, rfl, rfl, ha.sq, atI_nat (j := 1) rfl, _, _, rfl, rfl, _, rfl, ?_⟩
    rw [decide_eq_true (show (q.den : Int) > 0 by omega)]
    refine iteT ⟨.ref a, rfl, .ref a, rfl, a, _, 0, _, rfl, rfl, ha.sq, atI_nat (j := 0) rfl, .ref a, rfl, a, _, 1, _, rfl, rfl, ha.sq, atI_nat (j := 1) rfl, q.num, (q.den : Int), rfl, hp, lt_up bq.2 (by decide), fun p hp2 ip => ?_⟩
    rw [Rat.num_divInt_den] at ip ⊢
    have sm := same_new (o := .tup [.int q.num, .int (q.den : Int)]) hp2
    refine ⟨rD q, rD q, Im.dp _ (Im.mono (tk_same sm) _ hv), Im.dp _ ip, shaped_rat q, shaped_rat q, ?_⟩
    rw [eqv_rat]
    exact z _ sm

abbrev s__law_is_vector : Stmt := topS 37
theorem sc__law_is_vector : FnScope ["found", "size", "entry"] ["found", "size"] (defScope s__law_is_vector) := ⟨rfl, rfl, rfl, by decide +kernel, rfl, by decide +kernel, by decide +kernel⟩
def sp_lis_vector (K : PySem.W.Frag) : Sp := fun vs H Q _ => ∃ (v : V) (r : List Rat) (n : Nat), vs = [v, .int n] ∧ Im K H v (vD r) ∧ r.length = n ∧ n ≤ 48 ∧ (∀ x ∈ r, Bd 5800 5800 x) ∧ ∀ H', Same H H' → Q (.bl true) H'
theorem ok__law_is_vector {f : Addr} {fd : FuncData} {k : Nat} (F : Fun K "_law_is_vector" "_law_is_vector" s__law_is_vector f fd) (T : Tx K mg C){ki : Nat} (D__law_is_ratio : Def P w K mg base ki "_law_is_ratio" s__law_is_ratio ["found"] (sp_lis_ratio K)) (hk : ki ≤ k) : FnOk P w K mg base CX0 (k + 1) f fd ["found", "size"] (sp_lis_vector K) := by
  have nd := sc__law_is_vector.nd
  refine F.ok sc__law_is_vector (fun vs H Q E h => ?_) (fun cdv A outer s H vs Q E hr h => ?_)
  · obtain ⟨_, _, _, rfl, _⟩ := h
    rfl
  · obtain ⟨v, r, n, rfl, hv, hl, h48, bd, q⟩ := h
    obtain ⟨a, xs, rfl, ha, hxs⟩ := vec_inv hv
    have lx : xs.length = r.length := all_len hxs
    refine ⟨_, (pss_one (ps_ret (pe_and (pe_callB (kcall_isi K) (by rfl) T.m_isinstance (by decide +kernel) (pa_cons (pv 0) (pa_cons (pe_bltn (v := .ty "tuple") (u := .type "tuple") (by rfl) T.m_tuple (by decide +kernel) rfl) pa_nil))) (pe_and (pe_cmpR op_eq (pe_callB (kcall_len K) (by rfl) T.m_len PySem.boot_len (pa_cons (pv 0) pa_nil)) (pv 1) (nomark _)) (pe_one (pe_callB (kcr_all K) (by rfl) T.m_all (by decide +kernel) (pa_cons (pe_lc (own := [("entry", 2)]) (g := gName 2) (tt := tYes) rfl nd (kpi_tup K (pv 0)) (blkOk_by (by rfl)) (fun _ _ _ _ _ => (pg_name (i := 2) nd rfl (.inl rfl))) (fun _ _ _ _ _ => pts_nil) (fun _ _ _ _ _ => (pe_def D__law_is_ratio (hr.mono (by omega)) rfl (pa_cons (pv 2) pa_nil)))) pa_nil))))))), ?_⟩
    refine ⟨.ref a, rfl, .ref a, _, .type "tuple", _, true, rfl, .ty _, ity ha, kit_ty (by decide +kernel), true, rfl, ?_⟩
    refine iteT ⟨.ref a, rfl, a, xs, rfl, .inr ha.sq, .int n, rfl, rfl, _, rfl, ?_⟩
    rw [decide_eq_true (show V.int (xs.length : Nat) = V.int n by rw [lx, hl])]
    refine iteT ⟨.ref a, rfl, a, rfl, ⟨xs, ha.sq⟩, fun D hD => ?_⟩
    refine lc_all (walk_tup (xs := xs)) (fun i H2 => Same H H2 ∧ H2 D = some (.lst ((List.replicate i true).map V.bl))) ⟨same_new hD, upd_same⟩ (fun i H2 _ z => (ha.mono (tk_same z.1)).sq) (fun i x H2 H3 hi z y => ?_) (fun H2 z => ?_)
    · obtain ⟨sm, eD⟩ := z
      obtain ⟨rfl, hx⟩ := y
      obtain ⟨qq, hqq, iq⟩ := all_get hxs hx
      refine ⟨rfl, x, rfl, x, qq, rfl, Im.mono (tk_same sm) _ iq, bd qq (List.mem_of_getElem? hqq), fun H4 sm4 => ⟨_, sm4 _ _ eD, ?_, fun b o e => ?_, ?_⟩⟩
      · rw [List.length_map, List.length_replicate]; exact small1000 (by omega)
      · rw [upd_ne (ne_of_none e hD)]
        exact sm4 _ _ (sm _ _ e)
      · rw [upd_same, List.replicate_succ', List.map_append]; rfl
    · refine ⟨D, List.replicate xs.length true, rfl, .of z.2, ?_⟩
      have e : (List.replicate xs.length true).all id = true := by simp
      rw [e]
      exact q _ z.1
theorem rd_same {H H' : Hp} {p : Addr} {o : HO} (h : Rd H p o) (s : Same H H') : Rd H' p o := by
  rcases h with h | ⟨u, h⟩
  · exact .inl (s _ _ h)
  · exact .inr ⟨u, s _ _ h⟩
theorem sql_same {K : PySem.W.Frag} {H H' : Hp} {p : Addr} {xs : List V} (h : SqL K H p xs) (s : Same H H') : SqL K H' p xs := h.imp (fun h => rd_same h s) id
theorem sqt_same {K : PySem.W.Frag} {H H' : Hp} {p : Addr} {xs : List V} (h : SqT K H p xs) (s : Same H H') : SqT K H' p xs := h.imp (fun h => rd_same h s) id
/-- a row of ratios, in a list or a tuple -/
def RwAt (K : PySem.W.Frag) (H : Hp) (v : V) (r : List Rat) : Prop := ∃ p ws, v = .ref p ∧ (SqL K H p ws ∨ SqT K H p ws) ∧ ImAll K H ws (r.map rD)
theorem rw_tup {K : PySem.W.Frag} {H : Hp} {v : V} {r : List Rat} (h : Im K H v (vD r)) : RwAt K H v r := by
  obtain ⟨a, xs, rfl, ha, hxs⟩ := vec_inv h
  exact ⟨a, xs, rfl, .inr ha.sq, hxs⟩
theorem rw_lst {K : PySem.W.Frag} {H : Hp} {p : Addr} {r : List Rat} (h : LRow K H p r) : RwAt K H (.ref p) r := by
  obtain ⟨xs, ha, hxs⟩ := h
  exact ⟨p, xs, rfl, .inl (.of ha), hxs⟩

abbrev s__law_total : Stmt := topS 38
theorem sc__law_total : FnScope ["ones", "others", "top", "bottom", "k", "low"] ["ones", "others"] (defScope s__law_total) := ⟨rfl, rfl, rfl, by decide +kernel, rfl, by decide +kernel, by decide +kernel⟩
def sp_total (K : PySem.W.Frag) : Sp := fun vs H Q _ => ∃ v u xs ys n, vs = [v, u] ∧ RwAt K H v xs ∧ RwAt K H u ys ∧ xs.length = ys.length ∧ xs.length ≤ 48 ∧ n ≤ 5800 ∧ 1 ≤ n ∧ (∀ x ∈ xs, Bd n n x) ∧ (∀ y ∈ ys, Bd n n y) ∧
  ∀ p t b H', Same H H' → H p = none → H' p = some (.tup [.int t, .int b]) → 0 < b → t.natAbs < 2 ^ (2 * n + 1 + (2 * n + 2) * xs.length) → b.natAbs < 2 ^ (1 + 2 * n * xs.length) → Rat.divInt t b = dot xs ys → Q (.ref p) H'
theorem ok__law_total {f : Addr} {fd : FuncData} {k : Nat} (F : Fun K "_law_total" "_law_total" s__law_total f fd) (T : Tx K mg C) : FnOk P w K mg base CX0 (k + 1) f fd ["ones", "others"] (sp_total K) := by
  have nd := sc__law_total.nd
  refine F.ok sc__law_total (fun vs H Q E h => ?_) (fun cdv A outer s H vs Q E hr h => ?_)
  · obtain ⟨_, _, _, _, _, rfl, _⟩ := h
    rfl
  · obtain ⟨v, u, xs, ys, n, rfl, ⟨a, us, rfl, ha, hus⟩, ⟨l, ws, rfl, hL, iw⟩, hl, h48, hn, hn1, bx, bw, q⟩ := h
    have lu : us.length = xs.length := all_len hus
    refine ⟨_, (pss_cons (ps_asg (pe_tup (pa_cons pe_int (pa_cons pe_int pa_nil))) (kpg_tup K (n := 2) rfl (pgs_cons (pg_name (i := 2) nd rfl (.inl rfl)) (pgs_cons (pg_name (i := 3) nd rfl (.inl rfl)) pgs_nil))))
      (pss_cons (ps_for PassesOwn.never rfl (pi_range1 rfl T.m_range (pa_cons (pe_callB (kcall_len K) (by rfl) T.m_len PySem.boot_len (pa_cons (pv 0) pa_nil)) pa_nil)) (pg_name (i := 4) nd rfl (.inl rfl))
        (pss_one (ps_if (PW.pt (pw_and (pt_cmpR op_ne (pe_ix (kix_tup K) (pe_ix (kix_any K) (pv 0) (pv 4) (fun _ _ => rfl)) pe_int (fun _ _ => rfl)) pe_int (nomark _)) (pw_and1 (pt_cmpR op_ne (pe_ix (kix_tup K) (pe_ix (kix_any K) (pv 1) (pv 4) (fun _ _ => rfl)) pe_int (fun _ _ => rfl)) pe_int (nomark _)))))
          (pss_cons (ps_set (i := 5) nd rfl (.inl rfl) (pe_op op_mulW (pe_ix (kix_tup K) (pe_ix (kix_any K) (pv 0) (pv 4) (fun _ _ => rfl)) pe_int (fun _ _ => rfl)) (pe_ix (kix_tup K) (pe_ix (kix_any K) (pv 1) (pv 4) (fun _ _ => rfl)) pe_int (fun _ _ => rfl))))
          (pss_one (ps_par (i := 2) (j := 3) (by rfl) nd rfl rfl (by decide) rfl rfl (pa_cons (pe_op op_add (pe_op op_mulW (pv 2) (pv 5)) (pe_op op_mulW (pe_op op_mulW (pe_ix (kix_tup K) (pe_ix (kix_any K) (pv 0) (pv 4) (fun _ _ => rfl)) pe_int (fun _ _ => rfl)) (pe_ix (kix_tup K) (pe_ix (kix_any K) (pv 1) (pv 4) (fun _ _ => rfl)) pe_int (fun _ _ => rfl))) (pv 3))) (pa_cons (pe_op op_mulW (pv 3) (pv 5)) pa_nil)) (by rfl))))
          pss_nil)))
      (pss_one (ps_ret (pe_tup (pa_cons (pv 2) (pa_cons (pv 3) pa_nil))))))), ?_⟩
    refine ⟨by show 2 ≤ sizeLine; decide, fun p0 hp0 => ⟨p0, _, rfl, .of upd_same, rfl, .int 0, _, rfl, .int 1, _, rfl, rfl, ?_⟩⟩
    have sm0 : Same H (upd H p0 (.tup [.int 0, .int 1])) := same_new hp0
    generalize upd H p0 (.tup [.int 0, .int 1]) = G at *
    have sqm : ∀ {p : Addr} {zs : List V}, (SqL K H p zs ∨ SqT K H p zs) → (SqL K G p zs ∨ SqT K G p zs) := fun h => h.imp (fun h => sql_same h sm0) (fun h => sqt_same h sm0)
    replace ha := sqm ha
    replace hL := sqm hL
    replace hus := ImAll.mono (tk_same sm0) _ hus
    replace iw := ImAll.mono (tk_same sm0) _ iw
    refine ⟨.ref a, rfl, a, us, rfl, ha, (us.length : Nat), rfl, by omega, by omega, ?_⟩
    refine for_it (walk_range (lo := 0) (n := us.length)) (fun i σ H2 => H2 = G ∧ ∃ t b y4 y5, σ = [some (.ref a), some (.ref l), some (.int t), some (.int b), y4, y5] ∧ 0 < b ∧ t.natAbs < 2 ^ (2 * n + 1 + (2 * n + 2) * i) ∧ b.natAbs < 2 ^ (1 + 2 * n * i) ∧ Rat.divInt t b = dot (xs.take i) (ys.take i)) ⟨rfl, 0, 1, none, none, rfl, by decide, Nat.two_pow_pos _, by show 1 < 2 ^ (1 + 2 * n * 0); rw [Nat.mul_zero]; decide, ?_⟩ (fun _ _ _ _ _ => trivial) ?_ ?_
    · rw [List.take_zero, dot_nil]; rfl
    · rintro i x σ H2 H3 hi ⟨rfl, t, b, y4, y5, rfl, b0, tb, bb, e⟩ ⟨rfl, rfl⟩
      have hxi : xs[i]? = some (xs[i]'(by omega)) := List.getElem?_eq_getElem (by omega)
      have hyi : ys[i]? = some (ys[i]'(by omega)) := List.getElem?_eq_getElem (by omega)
      generalize xs[i]'(by omega) = xi at hxi
      generalize ys[i]'(by omega) = yi at hyi
      obtain ⟨u1, hu1, i1⟩ := all_at hus hxi
      obtain ⟨u2, hu2, i2⟩ := all_at iw hyi
      obtain ⟨a1, rfl, ha1⟩ := rat_inv i1
      obtain ⟨a2, rfl, ha2⟩ := rat_inv i2
      have bxi := bx xi (List.mem_of_getElem? hxi)
      have byi := bw yi (List.mem_of_getElem? hyi)
      have hd := dot_take hxi hyi
      have k0 : ((0 : Int) + (i : Nat)) = ((i : Nat) : Int) := by omega
      have g1 : atI us ((0 : Int) + (i : Nat)) = some (.ref a1) := by rw [k0]; exact atI_nat hu1
      have g2 : atI ws ((0 : Int) + (i : Nat)) = some (.ref a2) := by rw [k0]; exact atI_nat hu2
      have i82 : (2 * n + 2) * i ≤ 11602 * 48 := Nat.mul_le_mul (by omega) (by omega)
      have i80 : 2 * n * i ≤ 11600 * 48 := Nat.mul_le_mul (by omega) (by omega)
      have j82 : (2 * n + 2) * (i + 1) = (2 * n + 2) * i + (2 * n + 2) := Nat.mul_succ _ _
      have j80 : 2 * n * (i + 1) = 2 * n * i + 2 * n := Nat.mul_succ _ _
      have up : ∀ {t' b' : Int}, t'.natAbs < 2 ^ (2 * n + 1 + (2 * n + 2) * i) → b'.natAbs < 2 ^ (1 + 2 * n * i) → t'.natAbs < 2 ^ (2 * n + 1 + (2 * n + 2) * (i + 1)) ∧ b'.natAbs < 2 ^ (1 + 2 * n * (i + 1)) := fun h1 h2 => ⟨lt_up h1 (by omega), lt_up h2 (by omega)⟩
      have same : xi * yi = 0 → 0 < b ∧ t.natAbs < 2 ^ (2 * n + 1 + (2 * n + 2) * (i + 1)) ∧ b.natAbs < 2 ^ (1 + 2 * n * (i + 1)) ∧ Rat.divInt t b = dot (xs.take (i + 1)) (ys.take (i + 1)) := fun z => ⟨b0, (up tb bb).1, (up tb bb).2, by rw [hd, z, Rat.add_zero]; exact e⟩
      refine ⟨.ref a, rfl, .int _, rfl, a, us, _, _, rfl, rfl, ha, g1, a1, _, 0, _, rfl, rfl, ha1.sq, atI_nat (j := 0) rfl, rfl, _, rfl, ?_⟩
      by_cases x0 : xi.num = 0
      · rw [decide_eq_true (show V.int xi.num = V.int 0 by rw [x0])]
        refine iteF (iteF ⟨rfl, t, b, _, y5, rfl, same ?_⟩)
        rw [num_zero x0, Rat.zero_mul]
      rw [decide_eq_false (show ¬ V.int xi.num = V.int 0 from fun z => x0 (V.int.inj z))]
      refine iteT ⟨.ref l, rfl, .int _, rfl, l, ws, _, _, rfl, rfl, hL, g2, a2, _, 0, _, rfl, rfl, ha2.sq, atI_nat (j := 0) rfl, rfl, _, rfl, ?_⟩
      by_cases y0 : yi.num = 0
      · rw [decide_eq_true (show V.int yi.num = V.int 0 by rw [y0])]
        refine iteF ⟨rfl, t, b, _, y5, rfl, same ?_⟩
        rw [num_zero y0, Rat.mul_zero]
      rw [decide_eq_false (show ¬ V.int yi.num = V.int 0 from fun z => y0 (V.int.inj z))]
      have low : ((xi.den : Int) * (yi.den : Int)).natAbs < 2 ^ (n + n) := lt_mul bxi.2 byi.2
      have top : (xi.num * yi.num).natAbs < 2 ^ (n + n) := lt_mul bxi.1 byi.1
      have low0 : 0 < (xi.den : Int) * (yi.den : Int) := Int.mul_pos (den_pos xi) (den_pos yi)
      refine iteT ⟨.ref a, rfl, .int _, rfl, a, us, _, _, rfl, rfl, ha, g1, a1, _, 1, _, rfl, rfl, ha1.sq, atI_nat (j := 1) rfl, .ref l, rfl, .int _, rfl, l, ws, _, _, rfl, rfl, hL, g2, a2, _, 1, _, rfl, rfl, ha2.sq, atI_nat (j := 1) rfl, _, _, rfl, rfl, wide_mul bxi.2 byi.2 (by omega) (by omega) (by omega), ?_⟩
      refine ⟨.int t, rfl, .int _, rfl, _, _, rfl, rfl, wide_mul tb low (by omega) (by omega) (by omega), ?_⟩
      refine ⟨.ref a, rfl, .int _, rfl, a, us, _, _, rfl, rfl, ha, g1, a1, _, 0, _, rfl, rfl, ha1.sq, atI_nat (j := 0) rfl, .ref l, rfl, .int _, rfl, l, ws, _, _, rfl, rfl, hL, g2, a2, _, 0, _, rfl, rfl, ha2.sq, atI_nat (j := 0) rfl, _, _, rfl, rfl, wide_mul bxi.1 byi.1 (by omega) (by omega) (by omega), .int b, rfl, _, _, rfl, rfl, wide_mul top bb (by omega) (by omega) (by omega), _, _, rfl, rfl, ?_⟩
      refine ⟨.int b, rfl, .int _, rfl, _, _, rfl, rfl, wide_mul bb low (by omega) (by omega) (by omega), _, _, rfl, rfl, _, _, _, _, rfl, Int.mul_pos b0 low0, ?_, ?_, ?_⟩
      · have e1 : 2 * n + 1 + (2 * n + 2) * (i + 1) = (4 * n + 2 + (2 * n + 2) * i) + 1 := by omega
        have e2 : 2 * n * i ≤ (2 * n + 2) * i := Nat.mul_le_mul_right _ (by omega)
        rw [e1]
        exact lt_add (lt_up (lt_mul tb low) (by omega)) (lt_up (lt_mul top bb) (by omega))
      · exact lt_up (lt_mul bb low) (by omega)
      · have bn : b ≠ 0 := by omega
        have ln : (xi.den : Int) * (yi.den : Int) ≠ 0 := by omega
        show Rat.divInt (t * ((xi.den : Int) * (yi.den : Int)) + xi.num * yi.num * b) (b * ((xi.den : Int) * (yi.den : Int))) = _
        rw [← Rat.divInt_add_divInt _ _ bn ln, mul_as, hd, e]
    · rintro σ H2 ⟨rfl, t, b, y4, y5, rfl, b0, tb, bb, e⟩
      rw [List.take_of_length_le (by omega), List.take_of_length_le (by omega)] at e
      rw [lu] at tb bb
      exact ⟨.int t, rfl, .int b, rfl, by show 2 ≤ sizeLine; decide, fun p hp => q p t b _ (sm0.trans (same_new hp)) (sm0.free hp) upd_same b0 tb bb e⟩

theorem cross {t b : Int} {y : Rat} (hb : 0 < b) (h : Rat.divInt t b = y) : t * (y.den : Int) = y.num * b := by
  have h2 := Rat.num_divInt_den y
  rw [← h2] at h
  exact (Rat.divInt_eq_divInt_iff (by omega) (by have := den_pos y; omega)).mp h
abbrev s__law_equals : Stmt := topS 39
theorem sc__law_equals : FnScope ["total", "ratio"] ["total", "ratio"] (defScope s__law_equals) := ⟨rfl, rfl, rfl, by decide +kernel, rfl, by decide +kernel, by decide +kernel⟩
def sp_equals (K : PySem.W.Frag) : Sp := fun vs H Q _ => ∃ (p : Addr) (u : V) (t b : Int) (y : Rat), vs = [.ref p, u] ∧ H p = some (.tup [.int t, .int b]) ∧ Im K H u (rD y) ∧ 0 < b ∧ t.natAbs < 2 ^ 600000 ∧ b.natAbs < 2 ^ 600000 ∧ Bd 2900 2900 y ∧ Rat.divInt t b = y ∧ Q (.bl true) H
theorem ok__law_equals {f : Addr} {fd : FuncData} {k : Nat} (F : Fun K "_law_equals" "_law_equals" s__law_equals f fd) (T : Tx K mg C) : FnOk P w K mg base CX0 (k + 1) f fd ["total", "ratio"] (sp_equals K) := by
  have nd := sc__law_equals.nd
  refine F.ok sc__law_equals (fun vs H Q E h => ?_) (fun cdv A outer s H vs Q E hr h => ?_)
  · obtain ⟨_, _, _, _, _, rfl, _⟩ := h
    rfl
  · obtain ⟨p, u, t, b, y, rfl, ep, hu, b0, tb, bb, bd, e, q⟩ := h
    obtain ⟨a, rfl, ha⟩ := rat_inv hu
    refine ⟨_, (pss_one (ps_ret (pe_cmpR op_eq (pe_op op_mulW (pe_ix (kix_tup K) (pv 0) pe_int (fun _ _ => rfl)) (pe_ix (kix_tup K) (pv 1) pe_int (fun _ _ => rfl))) (pe_op op_mulW (pe_ix (kix_tup K) (pv 1) pe_int (fun _ _ => rfl)) (pe_ix (kix_tup K) (pv 0) pe_int (fun _ _ => rfl))) (nomark _)))), ?_⟩
    refine ⟨.ref p, rfl, p, _, 0, _, rfl, rfl, .inl (.inl ep), atI_nat (j := 0) rfl, .ref a, rfl, a, _, 1, _, rfl, rfl, ha.sq, atI_nat (j := 1) rfl, _, _, rfl, rfl, wide_mul tb bd.2 (by omega) (by omega) (by omega), ?_⟩
    refine ⟨.ref a, rfl, a, _, 0, _, rfl, rfl, ha.sq, atI_nat (j := 0) rfl, .ref p, rfl, p, _, 1, _, rfl, rfl, .inl (.inl ep), atI_nat (j := 1) rfl, _, _, rfl, rfl, wide_mul bd.1 bb (by omega) (by omega) (by omega), rfl, ?_⟩
    rw [decide_eq_true (show V.int (t * (y.den : Int)) = V.int (y.num * b) by rw [cross b0 e])]
    exact q
end
end K39

set_option Elab.async false
set_option linter.all false
set_option maxRecDepth 100000
set_option exponentiation.threshold 20000
namespace K39
open PySem PySem.Spec PyProof.Rows L2 Ly Mt El
/-- data of ints, texts and tuples, nested less than d deep -/
inductive Fl : Nat → PyData → Prop
  | int (d : Nat) (i : Int) : Fl d (.int i)
  | str (d : Nat) (x : Str) : Fl d (.str x)
  | tup (d : Nat) (ds : List PyData) : ds.length ≤ 1000 → (∀ x ∈ ds, Fl d x) → Fl (d + 1) (.tuple ds)
theorem fl_rat (d : Nat) (q : Rat) : Fl (d + 1) (rD q) := .tup d _ (by show 2 ≤ 1000; decide) fun x hx => by
  have : x = .int q.num ∨ x = .int (q.den : Int) := by simpa using hx
  rcases this with h | h <;> rw [h] <;> exact .int d _
theorem fl_vec (d : Nat) {r : List Rat} (h : r.length ≤ 1000) : Fl (d + 2) (vD r) := .tup (d + 1) _ (by rw [List.length_map]; exact h) fun x hx => by
  obtain ⟨q, _, rfl⟩ := List.mem_map.mp hx
  exact fl_rat d q
theorem fl_word {x : Str} {r : List Rat} (h : r.length ≤ 1000) : Fl 3 (.tuple [.str x, vD r]) := .tup 2 _ (by show 2 ≤ 1000; decide) fun y hy => by
  have : y = .str x ∨ y = vD r := by simpa using hy
  rcases this with e | e <;> rw [e]
  · exact .str 2 _
  · exact fl_vec 0 h
/-- an entry as it is drawn -/
def Ent (g : Bool) (q : Rat) : Prop := ∃ z : Int, ((42 : Int) : Rat) * q = (z : Rat) ∧ z.natAbs ≤ (if g then 42 * 10 ^ 40 else 168)
theorem ent_mk {t bo c : Int} (h : bo * c = 42) (h0 : bo ≠ 0) : ((42 : Int) : Rat) * Rat.divInt t bo = ((t * c : Int) : Rat) := by
  have hb : (bo : Rat) ≠ 0 := fun e => h0 (Rat.intCast_inj.mp (by simpa using e))
  have h2 : (bo : Rat) * (c : Rat) = ((42 : Int) : Rat) := by rw [← h, Rat.intCast_mul]
  rw [Rat.divInt_eq_div, Rat.intCast_mul, ← h2]
  grind
section
variable {P : Program} {w : World} {K : PySem.W.Frag} {mg : Str → Option Value} {base : Heap} {C : Addr}
abbrev s__law_entry : Stmt := topS 40
theorem sc__law_entry : FnScope ["cup", "great", "top"] ["cup", "great"] (defScope s__law_entry) := ⟨rfl, rfl, rfl, by decide +kernel, rfl, by decide +kernel, by decide +kernel⟩
def sp_entry (K : PySem.W.Frag) : Sp := fun vs H Q _ => ∃ c L g n, vs = [.ref c, .bl g] ∧ Cup H c L (n + 5) ∧ ∀ q p H', Im K H' (.ref p) (rD q) → Ent g q → Cup H' c L n → But c L H H' → H p = none → Q (.ref p) H'
theorem ok__law_entry {f : Addr} {fd : FuncData} {k : Nat} (F : Fun K "_law_entry" "_law_entry" s__law_entry f fd) (T : Tx K mg C){ki : Nat} (D__law_sip : Def P w K mg base ki "_law_sip" s__law_sip ["cup", "many"] sp_sip) (D__law_ratio : Def P w K mg base ki "_law_ratio" s__law_ratio ["top", "bottom"] (sp_ratio K)) (hk : ki ≤ k) : FnOk P w K mg base CX0 (k + 1) f fd ["cup", "great"] (sp_entry K) := by
  have nd := sc__law_entry.nd
  refine F.ok sc__law_entry (fun vs H Q E h => ?_) (fun cdv A outer s H vs Q E hr h => ?_)
  · obtain ⟨_, _, _, _, rfl, _⟩ := h
    rfl
  · obtain ⟨c, L, g, n, rfl, u, q⟩ := h
    refine ⟨_, (pss_cons (ps_set (i := 2) nd rfl (.inl rfl) (pe_op op_sub (pe_def D__law_sip (hr.mono (by omega)) rfl (pa_cons (pv 0) (pa_cons pe_int pa_nil))) pe_int))
      (C8.pss_cut (ps_if (PW.pt (pw_and (pt_val (pv 1)) (pw_and1 (pt_cmpR op_eq (pe_def D__law_sip (hr.mono (by omega)) rfl (pa_cons (pv 0) (pa_cons pe_int pa_nil))) pe_int (nomark _)))))
        (pss_one (ps_set (i := 2) nd rfl (.inl rfl) (pe_op op_mulW (pe_ix (kix_list K) (pe_lst (pa_cons pe_int (pa_cons (pe_un un_neg pe_int) pa_nil))) (pe_def D__law_sip (hr.mono (by omega)) rfl (pa_cons (pv 0) (pa_cons pe_int pa_nil))) (fun _ _ => rfl)) (pe_def D__law_sip (hr.mono (by omega)) rfl (pa_cons (pv 0) (pa_cons (pe_op op_pow pe_int pe_int) pa_nil))))))
        pss_nil)
      (pss_one (ps_ret (pe_def D__law_ratio (hr.mono (by omega)) rfl (pa_cons (pv 2) (pa_cons (pe_ix (kix_list K) (pe_lst (pa_cons pe_int (pa_cons pe_int (pa_cons pe_int (pa_cons pe_int (pa_cons pe_int (pa_cons pe_int (pa_cons pe_int pa_nil)))))))) (pe_def D__law_sip (hr.mono (by omega)) rfl (pa_cons (pv 0) (pa_cons pe_int pa_nil))) (fun _ _ => rfl)) pa_nil))))))), ?_⟩
    refine ⟨.ref c, rfl, c, L, 9, n + 4, rfl, u, by decide, by decide, fun d1 H1 d0 d9 u1 b1 => ⟨_, _, rfl, rfl, ?_⟩⟩
    have t1 : (d1 - 4).natAbs ≤ (if g then 10 ^ 40 else 4) := by
      have : (d1 - 4).natAbs ≤ 4 := by omega
      split
      · exact Nat.le_trans this (by decide)
      · exact this
    refine ⟨fun σ' H' => ∃ t, σ' = [some (.ref c), some (.bl g), some (.int t)] ∧ t.natAbs ≤ (if g then 10 ^ 40 else 4) ∧ Cup H' c L (n + 1) ∧ But c L H H', ?_, ?_⟩
    · refine ⟨.bl g, rfl, g, rfl, ?_⟩
      cases g with
      | false => exact iteF (iteF ⟨_, rfl, t1, u1.less (by omega), b1⟩)
      | true =>
        refine iteT ⟨.ref c, rfl, c, L, 3, n + 3, rfl, u1, by decide, by decide, fun d2 H2 _ _ u2 b2 => ⟨rfl, _, rfl, ?_⟩⟩
        have b12 := b1.trans b2
        by_cases e2 : d2 = 0
        · rw [decide_eq_true (show V.int d2 = V.int 0 by rw [e2])]
          refine iteT ⟨_, rfl, by show 2 ≤ sizeLine; decide, fun l hl => ⟨.ref c, rfl, c, L, 2, n + 2, rfl, u2.same (same_new hl), by decide, by decide, fun d3 H3 d30 d31 u3 b3 => ?_⟩⟩
          have ne := u2.ne hl
          have hl3 : H3 l = some (.lst [.int 1, .int (-1)]) := b3 l _ ne.1 ne.2 upd_same
          have p40 : (10 : Int) ^ (40 : Int).toNat = 10000000000000000000000000000000000000000 := by decide
          obtain ⟨sg, hsg, gs⟩ : ∃ sg : Int, (sg = 1 ∨ sg = -1) ∧ atI [V.int 1, V.int (-1)] d3 = some (V.int sg) := by
            have : d3 = 0 ∨ d3 = 1 := by omega
            rcases this with rfl | rfl
            · exact ⟨1, .inl rfl, rfl⟩
            · exact ⟨-1, .inr rfl, rfl⟩
          refine ⟨l, _, d3, _, rfl, rfl, .of hl3, gs, .ref c, rfl, _, _, rfl, rfl, ⟨by decide, by decide, by decide⟩, ?_⟩
          refine ⟨c, L, _, n + 1, rfl, u3, by rw [p40]; decide, by rw [p40]; decide, fun d4 H4 d40 d41 u4 b4 => ?_⟩
          rw [p40] at d41
          have d4b : d4.natAbs < 2 ^ 133 := abs_lt d40 (by omega)
          have sgb : sg.natAbs < 2 ^ 1 := by rcases hsg with rfl | rfl <;> decide
          refine ⟨_, _, rfl, rfl, wide_mul sgb d4b (by decide) (by decide) (by decide), _, rfl, ?_, u4, ((b12.trans (but_same (same_new hl))).trans b3).trans b4⟩
          rw [if_pos rfl]
          have a1 : (sg * d4).natAbs = d4.natAbs := by rcases hsg with rfl | rfl <;> simp
          rw [a1]
          omega
        · rw [decide_eq_false (show ¬ V.int d2 = V.int 0 from fun z => e2 (V.int.inj z))]
          exact iteF ⟨_, rfl, t1, u2.less (by omega), b12⟩
    · rintro σ' H' ⟨t, rfl, tb, u', bt⟩
      refine ⟨.int t, rfl, by show 7 ≤ sizeLine; decide, fun l hl => ⟨.ref c, rfl, c, L, 7, n, rfl, u'.same (same_new hl), by decide, by decide, fun d5 H5 d50 d51 u5 b5 => ?_⟩⟩
      have ne := u'.ne hl
      have hl5 : H5 l = some (.lst [.int 1, .int 1, .int 2, .int 1, .int 3, .int 1, .int 7]) := b5 l _ ne.1 ne.2 upd_same
      obtain ⟨bo, bc, hb0, hb8, hc0, hc, hbc, gs⟩ : ∃ bo bc : Int, 0 < bo ∧ bo < 8 ∧ 0 < bc ∧ bc ≤ 42 ∧ bo * bc = 42 ∧ atI [V.int 1, V.int 1, V.int 2, V.int 1, V.int 3, V.int 1, V.int 7] d5 = some (V.int bo) := by
        have : d5 = 0 ∨ d5 = 1 ∨ d5 = 2 ∨ d5 = 3 ∨ d5 = 4 ∨ d5 = 5 ∨ d5 = 6 := by omega
        rcases this with rfl | rfl | rfl | rfl | rfl | rfl | rfl
        · exact ⟨1, 42, by decide, by decide, by decide, by decide, by decide, rfl⟩
        · exact ⟨1, 42, by decide, by decide, by decide, by decide, by decide, rfl⟩
        · exact ⟨2, 21, by decide, by decide, by decide, by decide, by decide, rfl⟩
        · exact ⟨1, 42, by decide, by decide, by decide, by decide, by decide, rfl⟩
        · exact ⟨3, 14, by decide, by decide, by decide, by decide, by decide, rfl⟩
        · exact ⟨1, 42, by decide, by decide, by decide, by decide, by decide, rfl⟩
        · exact ⟨7, 6, by decide, by decide, by decide, by decide, by decide, rfl⟩
      have bb : bo.natAbs < 2 ^ 3 := by omega
      refine ⟨l, _, d5, _, rfl, rfl, .of hl5, gs, t, bo, rfl, hb0, lt_up bb (by decide), fun p hp ip => ?_⟩
      have b6 : But c L H H5 := (bt.trans (but_same (same_new hl))).trans b5
      refine q _ p _ ip ⟨t * bc, ent_mk hbc (by omega), ?_⟩ (u5.same (same_new hp)) (b6.trans (but_same (same_new hp))) (b6.free u5 hp)
      rw [Int.natAbs_mul]
      have hc2 : bc.natAbs ≤ 42 := by omega
      have := Nat.mul_le_mul tb hc2
      refine Nat.le_trans this ?_
      cases g <;> decide

abbrev s__law_same : Stmt := topS 43
theorem sc__law_same : FnScope ["found", "due", "k"] ["found", "due"] (defScope s__law_same) := ⟨rfl, rfl, rfl, by decide +kernel, rfl, by decide +kernel, by decide +kernel⟩
def sp_same (K : PySem.W.Frag) : Nat → Sp
  | 0 => fun _ _ _ _ => False
  | d + 1 => fun vs H Q _ => ∃ v1 v2 D, vs = [v1, v2] ∧ Im K H v1 D ∧ Im K H v2 D ∧ Fl d D ∧ ∀ H', Same H H' → Q (.bl true) H'
theorem ok_same0 {f : Addr} {fd : FuncData} {k : Nat} (F : Fun K "_law_same" "_law_same" s__law_same f fd) : FnOk P w K mg base CX0 (k + 1) f fd ["found", "due"] (sp_same K 0) := by
  exact F.ok sc__law_same (fun vs H Q E h => h.elim) (fun cdv A outer s H vs Q E hr h => h.elim)
theorem ok__law_same {f : Addr} {fd : FuncData} {k : Nat} (F : Fun K "_law_same" "_law_same" s__law_same f fd) (T : Tx K mg C){ki d : Nat} (D__law_same : Def P w K mg base ki "_law_same" s__law_same ["found", "due"] (sp_same K d)) (hk : ki ≤ k) : FnOk P w K mg base CX0 (k + 1) f fd ["found", "due"] (sp_same K (d + 1)) := by
  have nd := sc__law_same.nd
  refine F.ok sc__law_same (fun vs H Q E h => ?_) (fun cdv A outer s H vs Q E hr h => ?_)
  · obtain ⟨_, _, _, rfl, _⟩ := h
    rfl
  · obtain ⟨v1, v2, D, rfl, i1, i2, fl, q⟩ := h
    refine ⟨_, (pss_cons (ps_if (pt_val (pe_callB (kcall_isi K) (by rfl) T.m_isinstance (by decide +kernel) (pa_cons (pv 1) (pa_cons (pe_bltn (v := .ty "tuple") (u := .type "tuple") (by rfl) T.m_tuple (by decide +kernel) rfl) pa_nil))))
        (pss_cons (ps_if (PW.pt (pw_or (pt_not (pt_val (pe_callB (kcall_isi K) (by rfl) T.m_isinstance (by decide +kernel) (pa_cons (pv 0) (pa_cons (pe_bltn (v := .ty "tuple") (u := .type "tuple") (by rfl) T.m_tuple (by decide +kernel) rfl) pa_nil))))) (pw_or1 (pt_cmpR op_ne (pe_callB (kcall_len K) (by rfl) T.m_len PySem.boot_len (pa_cons (pv 0) pa_nil)) (pe_callB (kcall_len K) (by rfl) T.m_len PySem.boot_len (pa_cons (pv 1) pa_nil)) (nomark _)))))
          (pss_one (ps_ret pe_bl))
          pss_nil)
        (pss_one (ps_ret (pe_callB (kcr_all K) (by rfl) T.m_all (by decide +kernel) (pa_cons (pe_lc (own := [("k", 2)]) (g := gName 2) (tt := tYes) rfl nd (pi_range1 rfl T.m_range (pa_cons (pe_callB (kcall_len K) (by rfl) T.m_len PySem.boot_len (pa_cons (pv 1) pa_nil)) pa_nil)) (blkOk_by (by rfl)) (fun _ _ _ _ _ => (pg_name (i := 2) nd rfl (.inl rfl))) (fun _ _ _ _ _ => pts_nil) (fun _ _ _ _ _ => (pe_def D__law_same (hr.mono (by omega)) rfl (pa_cons (pe_ix (kix_tup K) (pv 0) (pv 2) (fun _ _ => rfl)) (pa_cons (pe_ix (kix_tup K) (pv 1) (pv 2) (fun _ _ => rfl)) pa_nil))))) pa_nil)))))
        pss_nil)
      (pss_cons (ps_if (pt_cmp (pc_isN (pv 1)))
        (pss_one (ps_ret (pe_cmp (pc_isN (pv 0)) rfl)))
        pss_nil)
      (pss_cons (ps_if (pt_val (pe_callB (kcall_isi K) (by rfl) T.m_isinstance (by decide +kernel) (pa_cons (pv 1) (pa_cons (pe_bltn (v := .ty "bool") (u := .type "bool") (by rfl) T.m_bool (by decide +kernel) rfl) pa_nil))))
        (pss_one (ps_ret (pe_and (pe_callB (kcall_isi K) (by rfl) T.m_isinstance (by decide +kernel) (pa_cons (pv 0) (pa_cons (pe_bltn (v := .ty "bool") (u := .type "bool") (by rfl) T.m_bool (by decide +kernel) rfl) pa_nil))) (pe_one (pe_cmpR op_eq (pv 0) (pv 1) (nomark _))))))
        pss_nil)
      (pss_cons (ps_if (pt_val (pe_callB (kcall_isi K) (by rfl) T.m_isinstance (by decide +kernel) (pa_cons (pv 1) (pa_cons (pe_bltn (v := .ty "int") (u := .type "int") (by rfl) T.m_int (by decide +kernel) rfl) pa_nil))))
        (pss_one (ps_ret (pe_and (pe_callB (kcall_isi K) (by rfl) T.m_isinstance (by decide +kernel) (pa_cons (pv 0) (pa_cons (pe_bltn (v := .ty "int") (u := .type "int") (by rfl) T.m_int (by decide +kernel) rfl) pa_nil))) (pe_and (pe_not (pe_callB (kcall_isi K) (by rfl) T.m_isinstance (by decide +kernel) (pa_cons (pv 0) (pa_cons (pe_bltn (v := .ty "bool") (u := .type "bool") (by rfl) T.m_bool (by decide +kernel) rfl) pa_nil)))) (pe_one (pe_cmpR op_eq (pv 0) (pv 1) (nomark _)))))))
        pss_nil)
      (pss_one (ps_ret (pe_and (pe_callB (kcall_isi K) (by rfl) T.m_isinstance (by decide +kernel) (pa_cons (pv 0) (pa_cons (pe_bltn (v := .ty "str") (u := .type "str") (by rfl) T.m_str (by decide +kernel) rfl) pa_nil))) (pe_one (pe_cmpR op_eq (pv 0) (pv 1) (nomark _)))))))))), ?_⟩
    cases fl with
    | int d i =>
      rw [i1.int_inv, i2.int_inv]
      refine ⟨.int i, rfl, .int i, _, .type "int", _, false, rfl, .ty _, .base (.int i), kit_ty (by decide +kernel), false, rfl, iteF ?_⟩
      refine ⟨.int i, rfl, _, rfl, ?_⟩
      rw [decide_eq_false (show ¬ V.int i = V.non from fun z => nomatch z)]
      refine iteF ⟨.int i, rfl, .int i, _, .type "int", _, false, rfl, .ty _, .base (.int i), kit_ty (by decide +kernel), false, rfl, iteF ?_⟩
      refine ⟨.int i, rfl, .int i, _, .type "int", _, true, rfl, .ty _, .base (.int i), kit_ty (by decide +kernel), true, rfl, iteT ?_⟩
      refine ⟨.int i, rfl, .int i, _, .type "int", _, true, rfl, .ty _, .base (.int i), kit_ty (by decide +kernel), true, rfl, iteT ?_⟩
      refine ⟨.int i, rfl, .int i, _, .type "int", _, false, rfl, .ty _, .base (.int i), kit_ty (by decide +kernel), false, rfl, true, rfl, iteT ?_⟩
      refine ⟨.int i, rfl, .int i, rfl, rfl, ?_⟩
      rw [decide_eq_true rfl]
      exact q H (Same.refl H)
    | str d x =>
      rw [i1.str_inv, i2.str_inv]
      refine ⟨.str x, rfl, .str x, _, .type "str", _, false, rfl, .ty _, .base (.str x), kit_ty (by decide +kernel), false, rfl, iteF ?_⟩
      refine ⟨.str x, rfl, _, rfl, ?_⟩
      rw [decide_eq_false (show ¬ V.str x = V.non from fun z => nomatch z)]
      refine iteF ⟨.str x, rfl, .str x, _, .type "str", _, false, rfl, .ty _, .base (.str x), kit_ty (by decide +kernel), false, rfl, iteF ?_⟩
      refine ⟨.str x, rfl, .str x, _, .type "str", _, false, rfl, .ty _, .base (.str x), kit_ty (by decide +kernel), false, rfl, iteF ?_⟩
      refine ⟨.str x, rfl, .str x, _, .type "str", _, true, rfl, .ty _, .base (.str x), kit_ty (by decide +kernel), true, rfl, iteT ?_⟩
      refine ⟨.str x, rfl, .str x, rfl, rfl, ?_⟩
      rw [decide_eq_true rfl]
      exact q H (Same.refl H)
    | tup d ds hl hfl =>
      obtain ⟨a, xs, rfl, ha, hxs⟩ := i1.tuple_inv
      obtain ⟨b, ys, rfl, hb, hys⟩ := i2.tuple_inv
      have lx := hxs.length
      have ly := hys.length
      refine ⟨.ref b, rfl, .ref b, _, .type "tuple", _, true, rfl, .ty _, ity hb, kit_ty (by decide +kernel), true, rfl, iteT ?_⟩
      refine ⟨.ref a, rfl, .ref a, _, .type "tuple", _, true, rfl, .ty _, ity ha, kit_ty (by decide +kernel), true, rfl, iteF ?_⟩
      refine ⟨.ref a, rfl, a, xs, rfl, .inr ha.sq, .ref b, rfl, b, ys, rfl, .inr hb.sq, rfl, _, rfl, ?_⟩
      rw [show xs.length = ys.length by omega]
      refine iteNS rfl ?_
      refine ⟨.ref b, rfl, b, ys, rfl, .inr hb.sq, (ys.length : Nat), rfl, by omega, by omega, fun D2 hD => ?_⟩
      refine lc_all (walk_range (lo := 0) (n := ys.length)) (fun i H2 => Same H H2 ∧ H2 D2 = some (.lst ((List.replicate i true).map V.bl))) ⟨same_new hD, upd_same⟩ (fun _ _ _ _ => trivial) (fun i x H2 H3 hi z y => ?_) (fun H2 z => ?_)
      · obtain ⟨sm, eD⟩ := z
        obtain ⟨rfl, rfl⟩ := y
        have hd : ds[i]? = some (ds[i]'(by omega)) := List.getElem?_eq_getElem (by omega)
        generalize ds[i]'(by omega) = di at hd
        obtain ⟨x1, hx1, j1⟩ := hxs.get hd
        obtain ⟨x2, hx2, j2⟩ := hys.get hd
        have k0 : ((0 : Int) + (i : Nat)) = ((i : Nat) : Int) := by omega
        have g1 : atI xs ((0 : Int) + (i : Nat)) = some x1 := by rw [k0]; exact atI_nat hx1
        have g2 : atI ys ((0 : Int) + (i : Nat)) = some x2 := by rw [k0]; exact atI_nat hx2
        refine ⟨rfl, .ref a, rfl, .int _, rfl, a, xs, _, _, rfl, rfl, (ha.mono (tk_same sm)).sq, g1, .ref b, rfl, .int _, rfl, b, ys, _, _, rfl, rfl, (hb.mono (tk_same sm)).sq, g2, x1, x2, di, rfl, Im.mono (tk_same sm) _ j1, Im.mono (tk_same sm) _ j2, hfl di (List.mem_of_getElem? hd), fun H4 sm4 => ⟨_, sm4 _ _ eD, ?_, fun c o e => ?_, ?_⟩⟩
        · rw [List.length_map, List.length_replicate]; exact small1000 (by omega)
        · rw [upd_ne (ne_of_none e hD)]
          exact sm4 _ _ (sm _ _ e)
        · rw [upd_same, List.replicate_succ', List.map_append]; rfl
      · refine ⟨D2, List.replicate ys.length true, rfl, .of z.2, ?_⟩
        have e : (List.replicate ys.length true).all id = true := by simp
        rw [e]
        exact q _ z.1
end
end K39

set_option Elab.async false
set_option linter.all false
set_option maxRecDepth 100000
set_option exponentiation.threshold 20000
namespace K39
open PySem PySem.Spec PyProof.Rows L2 Ly Mt El
/-- a matrix, its rows in a list or a tuple -/
def MtAt (K : PySem.W.Frag) (H : Hp) (v : V) (A : List (List Rat)) : Prop := ∃ p ws, v = .ref p ∧ (SqL K H p ws ∨ SqT K H p ws) ∧ ImAll K H ws (A.map vD)
theorem mt_tup {K : PySem.W.Frag} {H : Hp} {v : V} {A : List (List Rat)} (h : Im K H v (mD A)) : MtAt K H v A := by
  obtain ⟨a, xs, rfl, ha, hxs⟩ := mat_inv h
  exact ⟨a, xs, rfl, .inr ha.sq, hxs⟩
theorem col_length {B : List (List Rat)} {j : Nat} : (Mt.col B j).length = B.length := by unfold Mt.col; rw [List.length_map]
theorem bd_col {B : List (List Rat)} {j n N : Nat} (h : ∀ r ∈ B, r.length = n) (hj : j < n) (b : ∀ r ∈ B, ∀ y ∈ r, Bd N N y) : ∀ y ∈ Mt.col B j, Bd N N y := by
  intro y hy
  obtain ⟨br, hbr, rfl⟩ := List.mem_map.mp hy
  have lbr : br.length = n := h br hbr
  rw [List.getD_eq_getElem?_getD, List.getElem?_eq_getElem (by omega)]
  exact b br hbr _ (List.getElem_mem (by omega))
theorem sc_bd {s : Int} {E N : Nat} {r : List Rat} (h : Sc s E r) (s0 : s ≠ 0) (sE : s.natAbs ≤ E) (hE : E < 2 ^ N) : ∀ y ∈ r, Bd N N y := by
  intro y hy
  obtain ⟨q, rfl⟩ := fn_mem hy
  obtain ⟨z, ez, zE⟩ := h q
  exact bd_of (by rw [Rat.mul_comm]; exact ez) s0 (by omega) (by omega)
theorem Task.E_lt {s : Int} {E m size : Nat} {rows : List (List Rat)} (t : Task s E m size rows) : E < 2 ^ 2900 := by
  have h0 : 1 ≤ (m * E) ^ m := Nat.one_le_pow _ _ (Nat.mul_pos t.ok.m1 t.ok.E1)
  have h1 : E ≤ E * (m * E) ^ m := Nat.le_mul_of_pos_right _ h0
  have h2 : E * (m * E) ^ m ≤ (m + 1) * (E * (m * E) ^ m) := Nat.le_mul_of_pos_left _ (by omega)
  exact Nat.lt_of_le_of_lt (Nat.le_trans h1 h2) t.big
theorem bd_div {n : Nat} {x y : Rat} (hx : Bd n n x) (hy : Bd n n y) (h0 : y ≠ 0) : Bd (n + n) (n + n) (x / y) := by
  have ny := num_ne h0
  rw [← over_as]
  by_cases h : 0 < y.num
  · exact bd_divInt (Int.mul_pos (den_pos x) h) (lt_mul hx.1 hy.2) (lt_mul hx.2 hy.1)
  · rw [← divInt_flip]
    refine bd_divInt (by have := Int.mul_pos (den_pos x) (show 0 < -y.num by omega); rw [Int.mul_neg] at this; omega) ?_ ?_
    · rw [Int.natAbs_neg]; exact lt_mul hx.1 hy.2
    · rw [Int.natAbs_neg]; exact lt_mul hx.2 hy.1
theorem bd_mk {n : Nat} {l : List Rat} {place : Nat} (hn : 1 ≤ n) (hl : Bd n n (fn l place)) (h0 : fn l place ≠ 0) : ∀ {h : HL}, (∀ x ∈ h, ∀ q, Bd n n (fn x.2 q)) → ∀ q, Bd (n + n) (n + n) (mkf l place h q)
  | [], _, q => by
    show Bd _ _ (if q = place then 1 / fn l place else 0)
    split
    · have h1 : (1 : Nat) < 2 ^ n := Nat.lt_of_lt_of_le (by decide : 1 < 2 ^ 1) (Nat.pow_le_pow_right (by decide) hn)
      exact bd_div ⟨h1, h1⟩ hl h0
    · exact bd_zero (by omega)
  | x :: h, k, q => by
    show Bd _ _ (if q = x.1 then -(fn x.2 place) / fn l place else mkf l place h q)
    split
    · exact bd_div (bd_neg (k x (List.mem_cons_self ..) place)) hl h0
    · exact bd_mk hn hl h0 (fun y hy => k y (List.mem_cons_of_mem _ hy)) q
section
variable {s : Int} {E m size : Nat} {rows : List (List Rat)} (t : Task s E m size rows) {target : List Rat} (ht : target.length = size) (hi : Sc s E target)
include t ht hi
theorem wts_bd : ∀ y ∈ wts rows size target, Bd 2900 2900 y := by
  intro y hy
  obtain ⟨x, hx, rfl⟩ := List.mem_map.mp hy
  obtain ⟨q, rfl⟩ := fn_mem (List.mem_of_mem_drop hx)
  exact bd_neg (left_bd' t ht hi q)
theorem wts_length : (wts rows size target).length = rows.length := by
  unfold wts
  rw [List.length_map, List.length_drop, left_length t ht]; omega
theorem mks_bd {pl : Nat} (hf : first (leftOf rows size target) size = some pl) : ∀ y ∈ mks rows size target pl, Bd 5800 5800 y := by
  intro y hy
  obtain ⟨q, _, rfl⟩ := List.mem_map.mp hy
  have tms : Tame (solved rows size) (size + rows.length) := by rw [← t.all]; exact t.tame _
  exact bd_mk (n := 2900) (by decide) (left_bd' t ht hi pl) (first_some hf).2 (fun x hx => (tms x (List.mem_reverse.mp hx)).2.2) q
theorem mks_length {pl : Nat} : (mks rows size target pl).length = size := by
  unfold mks marksL; simp
end
section
variable {P : Program} {w : World} {K : PySem.W.Frag} {mg : Str → Option Value} {base : Heap} {C : Addr}

abbrev s__law_combine : Stmt := topS 41
theorem sc__law_combine : FnScope ["weights", "rows", "size", "found", "k", "total", "row"] ["weights", "rows", "size"] (defScope s__law_combine) := ⟨rfl, rfl, rfl, by decide +kernel, rfl, by decide +kernel, by decide +kernel⟩
def sp_combine (K : PySem.W.Frag) : Sp := fun vs H Q _ => ∃ (W : Addr) (v2 : V) (ws : List Rat) (A : List (List Rat)) (n N : Nat), vs = [.ref W, v2, .int (n : Nat)] ∧ LRow K H W ws ∧ MtAt K H v2 A ∧ ws.length = A.length ∧ A.length ≤ 48 ∧ (∀ r ∈ A, r.length = n) ∧ n ≤ 48 ∧ N ≤ 2900 ∧ 1 ≤ N ∧ (∀ x ∈ ws, Bd N N x) ∧ (∀ r ∈ A, ∀ y ∈ r, Bd N N y) ∧ 1 + 2 * N * A.length ≤ 9000 ∧
  ∀ p H', Same H H' → H p = none → Im K H' (.ref p) (vD (vm n ws A)) → Q (.ref p) H'
theorem ok__law_combine {f : Addr} {fd : FuncData} {k : Nat} (F : Fun K "_law_combine" "_law_combine" s__law_combine f fd) (T : Tx K mg C){ki : Nat} (D__law_total : Def P w K mg base ki "_law_total" s__law_total ["ones", "others"] (sp_total K)) {kj : Nat} (D__law_ratio : Def P w K mg base kj "_law_ratio" s__law_ratio ["top", "bottom"] (sp_ratio K)) (hk : ki ≤ k) (hj : kj ≤ k) : FnOk P w K mg base CX0 (k + 1) f fd ["weights", "rows", "size"] (sp_combine K) := by
  have nd := sc__law_combine.nd
  refine F.ok sc__law_combine (fun vs H Q E h => ?_) (fun cdv A outer s H vs Q E hr h => ?_)
  · obtain ⟨_, _, _, _, _, _, rfl, _⟩ := h
    rfl
  · obtain ⟨W, v2, ws, B, n, N, rfl, LW, ⟨b, ys, rfl, hb, hys⟩, hl, hB, hn, h48, hN, hN1, bw, bB, hbig, q⟩ := h
    have ly : ys.length = B.length := all_len hys
    have lvm : (vm n ws B).length = n := vm_length hn
    refine ⟨_, (pss_cons (ps_set (i := 3) nd rfl (.inl rfl) (pe_lst pa_nil))
      (pss_cons (ps_for PassesOwn.never rfl (pi_range1 rfl T.m_range (pa_cons (pv 2) pa_nil)) (pg_name (i := 4) nd rfl (.inr rfl))
        (pss_cons (ps_set (i := 5) nd rfl (.inl rfl) (pe_def D__law_total (hr.mono (by omega)) rfl (pa_cons (pv 0) (pa_cons (pe_lc (own := [("row", 6)]) (g := gName 6) (tt := tYes) rfl nd (kpi_any K (pv 1)) (blkOk_by (by rfl)) (fun _ _ _ _ _ => (pg_name (i := 6) nd rfl (.inl rfl))) (fun _ _ _ _ _ => pts_nil) (fun _ _ _ _ _ => (pe_ix (kix_tup K) (pv 6) (pv 4) (fun _ _ => rfl)))) pa_nil))))
        (pss_one (ps_expr (pe_bm PySem.F.plainAttrs_list PySem.F.slot_list_append PySem.F.type_list_append mt_append (pv 3) (pa_cons (pe_def D__law_ratio (hr.mono (by omega)) rfl (pa_cons (pe_ix (kix_tup K) (pv 5) pe_int (fun _ _ => rfl)) (pa_cons (pe_ix (kix_tup K) (pv 5) pe_int (fun _ _ => rfl)) pa_nil))) pa_nil))))))
      (pss_one (ps_ret (pe_callTy (kcall_tuple K) (by rfl) T.m_tuple (by decide +kernel) (pa_cons (pv 3) pa_nil)))))), ?_⟩
    refine ⟨by show 0 ≤ sizeLine; decide, fun e he => ⟨.int n, rfl, n, rfl, by omega, by omega, ?_⟩⟩
    refine for_it (walk_range (lo := 0) (n := n)) (fun j σ H4 => ∃ y4 y5 y6 acc2, σ = [some (.ref W), some (.ref b), some (.int n), some (.ref e), y4, y5, y6] ∧ Same H H4 ∧ H4 e = some (.lst acc2) ∧ ImAll K H4 acc2 (((vm n ws B).take j).map rD)) ⟨none, none, none, [], rfl, same_new he, upd_same, .nil⟩ (fun _ _ _ _ _ => trivial) ?_ ?_
    · rintro j x2 σ H4 H5 hj ⟨z4, z5, z6, acc2, rfl, sm4, ee, i2⟩ ⟨rfl, rfl⟩
      have k0 : ((0 : Int) + (j : Nat)) = ((j : Nat) : Int) := by omega
      have rest : ∀ D H6, (∃ acc3, H6 D = some (.lst acc3) ∧ ImAll K H6 acc3 (((Mt.col B j).take ys.length).map rD)) → RwAt K H6 (.ref D) (Mt.col B j) := by
        rintro D H6 ⟨acc3, eD, i3⟩
        rw [List.take_of_length_le (by rw [col_length]; omega)] at i3
        exact rw_lst ⟨acc3, eD, i3⟩
      have fin : ∀ (t b2 : Int) (H7 : Hp) (p2 : Addr), Same H5 H7 → H7 p2 = none → Rat.divInt t b2 = dot ws (Mt.col B j) → Im K (upd H7 p2 (.tup [.int (Rat.divInt t b2).num, .int ((Rat.divInt t b2).den : Int)])) (.ref p2) (rD (Rat.divInt t b2)) → ∃ G, G = upd H7 p2 (.tup [.int (Rat.divInt t b2).num, .int ((Rat.divInt t b2).den : Int)]) ∧ G e = some (.lst acc2) ∧ acc2.length < sizeLine ∧ Same H (upd G e (.lst (acc2 ++ [.ref p2]))) ∧ ImAll K (upd G e (.lst (acc2 ++ [.ref p2]))) (acc2 ++ [.ref p2]) (((vm n ws B).take (j + 1)).map rD) := by
        intro t b2 H7 p2 sm57 hp2 eq ip2
        rw [eq] at ip2 ⊢
        have ee7 := sm57 _ _ ee
        have ee8 : (upd H7 p2 (.tup [.int (dot ws (Mt.col B j)).num, .int ((dot ws (Mt.col B j)).den : Int)])) e = some (.lst acc2) := by rw [upd_ne (ne_of_none ee7 hp2)]; exact ee7
        have l2 : acc2.length = j := by rw [all_len i2, List.length_take, lvm]; omega
        have hj2 : (vm n ws B)[j]? = some (dot ws (Mt.col B j)) := by
          rw [vm_as hn, List.getElem?_map, List.getElem?_range hj]; rfl
        refine ⟨_, rfl, ee8, small1000 (by omega), (fun y oo ey => ?_), ?_⟩
        · rw [upd_ne (ne_of_none ey he)]
          have h7 := sm57 _ _ (sm4 _ _ ey)
          rw [upd_ne (ne_of_none h7 hp2)]; exact h7
        · exact all_snoc (ImAll.mono (((tk_same sm57).trans (tk_new hp2)).trans (tk_lst ee8)) _ i2) hj2 (Im.mono (tk_lst ee8) _ ip2)
      refine ⟨.ref W, rfl, .ref b, rfl, b, rfl, ?_⟩
      have step : ∀ (D : Addr) (m : Nat) (x3 : V) (H6 : Hp), H5 D = none → m < ys.length → ys[m]? = some x3 → (Same H5 H6 ∧ ∃ acc3, H6 D = some (.lst acc3) ∧ ImAll K H6 acc3 (((Mt.col B j).take m).map rD)) → ∃ c zs vz acc3, x3 = .ref c ∧ SqT K H6 c zs ∧ atI zs ((0 : Int) + (j : Nat)) = some vz ∧ H6 D = some (.lst acc3) ∧ acc3.length < sizeLine ∧ Same H5 (upd H6 D (.lst (acc3 ++ [vz]))) ∧ ∃ acc4, (upd H6 D (.lst (acc3 ++ [vz]))) D = some (.lst acc4) ∧ ImAll K (upd H6 D (.lst (acc3 ++ [vz]))) acc4 (((Mt.col B j).take (m + 1)).map rD) := by
        rintro D m x3 H6 hD hm hx3 ⟨sm6, acc3, eD, i3⟩
        obtain ⟨br, hbr, ib⟩ := all_get hys hx3
        obtain ⟨c, zs, rfl, hc, hzs⟩ := vec_inv (Im.mono (tk_same (sm4.trans sm6)) _ ib)
        have lbr : br.length = n := hn br (List.mem_of_getElem? hbr)
        have hbj : br[j]? = some (br.getD j 0) := by
          rw [List.getD_eq_getElem?_getD, List.getElem?_eq_getElem (by omega)]; rfl
        obtain ⟨vz, hvz, iz⟩ := all_at hzs hbj
        have hcol : (Mt.col B j)[m]? = some (br.getD j 0) := by
          unfold Mt.col; rw [List.getElem?_map, hbr]; rfl
        have l3 : acc3.length = m := by
          rw [all_len i3, List.length_take, col_length]; omega
        refine ⟨c, zs, vz, acc3, rfl, hc.sq, by rw [k0]; exact atI_nat hvz, eD, small1000 (by omega), fun y oo ey => ?_, acc3 ++ [vz], upd_same, ?_⟩
        · rw [upd_ne (ne_of_none ey hD)]; exact sm6 _ _ ey
        · exact all_snoc (ImAll.mono (tk_lst eD) _ i3) hcol (Im.mono (tk_lst eD) _ iz)
      rcases hb with hb | hb
      · refine .inl ⟨⟨ys, sql_same hb sm4⟩, fun D hD => ?_⟩
        refine lc_all (walk_list (xs := ys)) (fun m H6 => Same H5 H6 ∧ ∃ acc3, H6 D = some (.lst acc3) ∧ ImAll K H6 acc3 (((Mt.col B j).take m).map rD)) ⟨same_new hD, [], upd_same, .nil⟩ (fun m H6 _ z => sql_same hb (sm4.trans z.1)) (fun m x3 H6 H7 hm z y => ?_) (fun H6 z => ?_)
        · obtain ⟨rfl, hx3⟩ := y
          obtain ⟨c, zs, vz, acc3, rfl, h1, h2, h3, h4, h5⟩ := step D m x3 H7 hD hm hx3 z
          exact ⟨rfl, .ref c, rfl, .int _, rfl, c, zs, _, vz, rfl, rfl, h1, h2, acc3, h3, h4, h5⟩
        · refine ⟨.ref W, .ref D, ws, Mt.col B j, N, rfl, rw_lst (LW.same (sm4.trans z.1)), rest D H6 z.2, by rw [col_length, hl], by omega, by omega, hN1, bw, bd_col hn hj bB, fun p t b2 H7 sm7 np ep b0 tb bb eq => ?_⟩
          have sm57 := z.1.trans sm7
          have hp : SqT K H7 p [.int t, .int b2] := .of ep
          refine ⟨.ref e, rfl, .inl ⟨rfl, _, .of (sm57 _ _ ee)⟩, .ref p, rfl, p, _, 0, _, rfl, rfl, hp, atI_nat (j := 0) rfl, .ref p, rfl, p, _, 1, _, rfl, rfl, hp, atI_nat (j := 1) rfl, t, b2, rfl, b0, lt_up bb (by rw [hl]; exact hbig), fun p2 hp2 ip2 => ?_⟩
          obtain ⟨G, rfl, h1, h2, h3, h4⟩ := fin t b2 H7 p2 sm57 hp2 eq ip2
          exact ⟨e, acc2, .ref p2, rfl, rfl, h1, h2, _, _, _, _, rfl, h3, upd_same, h4⟩
      · refine .inr ⟨⟨ys, sqt_same hb sm4⟩, fun D hD => ?_⟩
        refine lc_all (walk_tup (xs := ys)) (fun m H6 => Same H5 H6 ∧ ∃ acc3, H6 D = some (.lst acc3) ∧ ImAll K H6 acc3 (((Mt.col B j).take m).map rD)) ⟨same_new hD, [], upd_same, .nil⟩ (fun m H6 _ z => sqt_same hb (sm4.trans z.1)) (fun m x3 H6 H7 hm z y => ?_) (fun H6 z => ?_)
        · obtain ⟨rfl, hx3⟩ := y
          obtain ⟨c, zs, vz, acc3, rfl, h1, h2, h3, h4, h5⟩ := step D m x3 H7 hD hm hx3 z
          exact ⟨rfl, .ref c, rfl, .int _, rfl, c, zs, _, vz, rfl, rfl, h1, h2, acc3, h3, h4, h5⟩
        · refine ⟨.ref W, .ref D, ws, Mt.col B j, N, rfl, rw_lst (LW.same (sm4.trans z.1)), rest D H6 z.2, by rw [col_length, hl], by omega, by omega, hN1, bw, bd_col hn hj bB, fun p t b2 H7 sm7 np ep b0 tb bb eq => ?_⟩
          have sm57 := z.1.trans sm7
          have hp : SqT K H7 p [.int t, .int b2] := .of ep
          refine ⟨.ref e, rfl, .inl ⟨rfl, _, .of (sm57 _ _ ee)⟩, .ref p, rfl, p, _, 0, _, rfl, rfl, hp, atI_nat (j := 0) rfl, .ref p, rfl, p, _, 1, _, rfl, rfl, hp, atI_nat (j := 1) rfl, t, b2, rfl, b0, lt_up bb (by rw [hl]; exact hbig), fun p2 hp2 ip2 => ?_⟩
          obtain ⟨G, rfl, h1, h2, h3, h4⟩ := fin t b2 H7 p2 sm57 hp2 eq ip2
          exact ⟨e, acc2, .ref p2, rfl, rfl, h1, h2, _, _, _, _, rfl, h3, upd_same, h4⟩
    · rintro σ H2 ⟨y4, y5, y6, acc, rfl, sm, eo, ia⟩
      rw [List.take_of_length_le (by omega)] at ia
      exact ⟨.ref e, rfl, e, acc, rfl, .inl ⟨.of eo, fun l hl => q l _ (sm.trans (same_new hl)) (sm.free hl) (.tup (.inl upd_same) (ImAll.mono (tk_new hl) _ ia))⟩⟩
end
end K39

set_option Elab.async false
set_option linter.all false
set_option maxRecDepth 100000
set_option exponentiation.threshold 20000
namespace K39
open PySem PySem.Spec PyProof.Rows L2 Ly Mt El
section
variable {P : Program} {w : World} {K : PySem.W.Frag} {mg : Str → Option Value} {base : Heap} {C : Addr}

abbrev s__law_right : Stmt := topS 46
theorem sc__law_right : FnScope ["found", "rows", "target", "k", "row"] ["found", "rows", "target"] (defScope s__law_right) := ⟨rfl, rfl, rfl, by decide +kernel, rfl, by decide +kernel, by decide +kernel⟩
def sp_right (K : PySem.W.Frag) : Sp := fun vs H Q _ => ∃ (vf v1 v2 : V) (rows : List (List Rat)) (target : List Rat) (size : Nat) (s : Int) (E m : Nat), vs = [vf, v1, v2] ∧ Im K H vf (told rows size target) ∧ Im K H v1 (mD rows) ∧ Im K H v2 (vD target) ∧ Task s E m size rows ∧ target.length = size ∧ Sc s E target ∧ ∀ H', Same H H' → Q (.bl true) H'
set_option maxHeartbeats 1000000 in
theorem ok__law_right {f : Addr} {fd : FuncData} {k : Nat} (F : Fun K "_law_right" "_law_right" s__law_right f fd) (T : Tx K mg C){k1 : Nat} (D__law_is_vector : Def P w K mg base k1 "_law_is_vector" s__law_is_vector ["found", "size"] (sp_lis_vector K)) {k2 : Nat} (D__law_total : Def P w K mg base k2 "_law_total" s__law_total ["ones", "others"] (sp_total K)) {k3 : Nat} (D__law_equals : Def P w K mg base k3 "_law_equals" s__law_equals ["total", "ratio"] (sp_equals K)) (e1 : k1 ≤ k) (e2 : k2 ≤ k) (e3 : k3 ≤ k) : FnOk P w K mg base CX0 (k + 1) f fd ["found", "rows", "target"] (sp_right K) := by
  have nd := sc__law_right.nd
  refine F.ok sc__law_right (fun vs H Q E h => ?_) (fun cdv A outer s H vs Q E hr h => ?_)
  · obtain ⟨_, _, _, _, _, _, _, _, _, rfl, _⟩ := h
    rfl
  · obtain ⟨vf, v1, v2, rows, target, size, sc, Ec, m, rfl, iF, i1, i2, t, ht, hi, q⟩ := h
    have l48 := t.l48
    have n48 := t.n48
    obtain ⟨a, xs, rfl, ha, hxs⟩ := mat_inv i1
    obtain ⟨b, ys, rfl, hb, hys⟩ := vec_inv i2
    have lx : xs.length = rows.length := all_len hxs
    have ly : ys.length = size := by rw [all_len hys, ht]
    have bt := sc_bd hi t.ok.s0 t.ok.sE t.E_lt
    have br : ∀ r ∈ rows, ∀ y ∈ r, Bd 2900 2900 y := fun r hr => sc_bd (t.ok.wholes r hr) t.ok.s0 t.ok.sE t.E_lt
    refine ⟨_, (pss_cons (ps_if (PW.pt (pw_or (pt_not (pt_val (pe_callB (kcall_isi K) (by rfl) T.m_isinstance (by decide +kernel) (pa_cons (pv 0) (pa_cons (pe_bltn (v := .ty "tuple") (u := .type "tuple") (by rfl) T.m_tuple (by decide +kernel) rfl) pa_nil))))) (pw_or (pt_cmpR op_ne (pe_callB (kcall_len K) (by rfl) T.m_len PySem.boot_len (pa_cons (pv 0) pa_nil)) pe_int (nomark _)) (pw_or1 (pt_not (pt_val (pe_callB (kcall_isi K) (by rfl) T.m_isinstance (by decide +kernel) (pa_cons (pe_ix (kix_tup K) (pv 0) pe_int (fun _ _ => rfl)) (pa_cons (pe_bltn (v := .ty "str") (u := .type "str") (by rfl) T.m_str (by decide +kernel) rfl) pa_nil)))))))))
        (pss_one (ps_ret pe_bl))
        pss_nil)
      (pss_cons (ps_if (pt_cmpR op_eq (pe_ix (kix_tup K) (pv 0) pe_int (fun _ _ => rfl)) pe_str (nomark _))
        (pss_cons (ps_if (pt_not (pt_val (pe_def D__law_is_vector (hr.mono (by omega)) rfl (pa_cons (pe_ix (kix_tup K) (pv 0) pe_int (fun _ _ => rfl)) (pa_cons (pe_callB (kcall_len K) (by rfl) T.m_len PySem.boot_len (pa_cons (pv 1) pa_nil)) pa_nil)))))
          (pss_one (ps_ret pe_bl))
          pss_nil)
        (pss_cons (ps_for PassesOwn.never rfl (pi_range1 rfl T.m_range (pa_cons (pe_callB (kcall_len K) (by rfl) T.m_len PySem.boot_len (pa_cons (pv 2) pa_nil)) pa_nil)) (pg_name (i := 3) nd rfl (.inr rfl))
          (pss_one (ps_if (pt_not (pt_val (pe_def D__law_equals (hr.mono (by omega)) rfl (pa_cons (pe_def D__law_total (hr.mono (by omega)) rfl (pa_cons (pe_ix (kix_tup K) (pv 0) pe_int (fun _ _ => rfl)) (pa_cons (pe_lc (own := [("row", 4)]) (g := gName 4) (tt := tYes) rfl nd (kpi_tup K (pv 1)) (blkOk_by (by rfl)) (fun _ _ _ _ _ => (pg_name (i := 4) nd rfl (.inl rfl))) (fun _ _ _ _ _ => pts_nil) (fun _ _ _ _ _ => (pe_ix (kix_tup K) (pv 4) (pv 3) (fun _ _ => rfl)))) pa_nil))) (pa_cons (pe_ix (kix_tup K) (pv 2) (pv 3) (fun _ _ => rfl)) pa_nil)))))
            (pss_one (ps_ret pe_bl))
            pss_nil)))
        (pss_one (ps_ret pe_bl))))
        pss_nil)
      (pss_cons (ps_if (PW.pt (pw_or (pt_cmpR op_ne (pe_ix (kix_tup K) (pv 0) pe_int (fun _ _ => rfl)) pe_str (nomark _)) (pw_or1 (pt_not (pt_val (pe_def D__law_is_vector (hr.mono (by omega)) rfl (pa_cons (pe_ix (kix_tup K) (pv 0) pe_int (fun _ _ => rfl)) (pa_cons (pe_callB (kcall_len K) (by rfl) T.m_len PySem.boot_len (pa_cons (pv 2) pa_nil)) pa_nil))))))))
        (pss_one (ps_ret pe_bl))
        pss_nil)
      (pss_cons (ps_for PassesOwn.never rfl (kpi_tup K (pv 1)) (pg_name (i := 4) nd rfl (.inl rfl))
        (pss_one (ps_if (pt_cmpR op_ne (pe_ix (kix_tup K) (pe_def D__law_total (hr.mono (by omega)) rfl (pa_cons (pe_ix (kix_tup K) (pv 0) pe_int (fun _ _ => rfl)) (pa_cons (pv 4) pa_nil))) pe_int (fun _ _ => rfl)) pe_int (nomark _))
          (pss_one (ps_ret pe_bl))
          pss_nil)))
      (pss_one (ps_ret (pe_def D__law_equals (hr.mono (by omega)) rfl (pa_cons (pe_def D__law_total (hr.mono (by omega)) rfl (pa_cons (pe_ix (kix_tup K) (pv 0) pe_int (fun _ _ => rfl)) (pa_cons (pv 2) pa_nil))) (pa_cons (pe_tup (pa_cons pe_int (pa_cons pe_int pa_nil))) pa_nil))))))))), ?_⟩
    unfold told at iF
    cases hf : first (leftOf rows size target) size with
    | none =>
      rw [hf] at iF
      obtain ⟨c, zs, rfl, hc, hzs⟩ := iF.tuple_inv
      obtain ⟨x0, r0, rfl, ix0, h0⟩ := hzs.cons_inv
      obtain ⟨x1, r1, rfl, ix1, h1⟩ := h0.cons_inv
      rw [h1.nil_inv, ix0.str_inv] at hc
      have lw := wts_length t ht hi
      have bw := wts_bd t ht hi
      refine ⟨.ref c, rfl, .ref c, _, .type "tuple", _, true, rfl, .ty _, ity hc, kit_ty (by decide +kernel), true, rfl, iteF ?_⟩
      refine ⟨.ref c, rfl, c, _, rfl, .inr hc.sq, rfl, _, rfl, ?_⟩
      refine iteNS rfl ?_
      refine ⟨.ref c, rfl, c, _, 0, _, rfl, rfl, hc.sq, atI_nat (j := 0) rfl, .str "made", _, .type "str", _, true, rfl, .ty _, .base (.str _), kit_ty (by decide +kernel), true, rfl, iteF ?_⟩
      refine ⟨.ref c, rfl, c, _, 0, _, rfl, rfl, hc.sq, atI_nat (j := 0) rfl, rfl, _, rfl, ?_⟩
      rw [decide_eq_true rfl]
      refine iteT ⟨.ref c, rfl, c, _, 1, _, rfl, rfl, hc.sq, atI_nat (j := 1) rfl, .ref a, rfl, a, xs, rfl, .inr ha.sq, x1, _, xs.length, rfl, ix1, by rw [lw, lx], by omega, fun y hy => (bw y hy).mono (by decide) (by decide), fun H1 sm1 => ⟨true, rfl, iteF ?_⟩⟩
      refine ⟨.ref b, rfl, b, ys, rfl, .inr (hb.mono (tk_same sm1)).sq, (ys.length : Nat), rfl, by omega, by omega, ?_⟩
      refine for_it (walk_range (lo := 0) (n := ys.length)) (fun j σ H4 => ∃ y3 y4, σ = [some (.ref c), some (.ref a), some (.ref b), y3, y4] ∧ Same H H4) ⟨none, none, rfl, sm1⟩ (fun _ _ _ _ _ => trivial) ?_ ?_
      · rintro j x2 σ H4 H5 hj ⟨z3, z4, rfl, sm4⟩ ⟨rfl, rfl⟩
        have k0 : ((0 : Int) + (j : Nat)) = ((j : Nat) : Int) := by omega
        have ha4 := ha.mono (tk_same sm4)
        refine ⟨.ref c, rfl, c, _, 1, _, rfl, rfl, (hc.mono (tk_same sm4)).sq, atI_nat (j := 1) rfl, .ref a, rfl, a, rfl, ⟨xs, ha4.sq⟩, fun D hD => ?_⟩
        refine lc_all (walk_tup (xs := xs)) (fun m H6 => Same H5 H6 ∧ ∃ acc3, H6 D = some (.lst acc3) ∧ ImAll K H6 acc3 (((Mt.col rows j).take m).map rD)) ⟨same_new hD, [], upd_same, .nil⟩ (fun m H6 _ z => (ha4.mono (tk_same z.1)).sq) (fun m x3 H6 H7 hm z y => ?_) (fun H6 z => ?_)
        · obtain ⟨rfl, hx3⟩ := y
          obtain ⟨sm6, acc3, eD, i3⟩ := z
          obtain ⟨br', hbr, ib⟩ := all_get hxs hx3
          obtain ⟨d, us, rfl, hd, hus⟩ := vec_inv (Im.mono (tk_same (sm4.trans sm6)) _ ib)
          have lbr : br'.length = size := t.ok.len br' (List.mem_of_getElem? hbr)
          have hbj : br'[j]? = some (br'.getD j 0) := by
            rw [List.getD_eq_getElem?_getD, List.getElem?_eq_getElem (by omega)]; rfl
          obtain ⟨vz, hvz, iz⟩ := all_at hus hbj
          have hcol : (Mt.col rows j)[m]? = some (br'.getD j 0) := by
            unfold Mt.col; rw [List.getElem?_map, hbr]; rfl
          have l3 : acc3.length = m := by
            rw [all_len i3, List.length_take, col_length]; omega
          refine ⟨rfl, .ref d, rfl, .int _, rfl, d, us, _, vz, rfl, rfl, hd.sq, by rw [k0]; exact atI_nat hvz, acc3, eD, small1000 (by omega), fun y oo ey => ?_, acc3 ++ [vz], upd_same, ?_⟩
          · rw [upd_ne (ne_of_none ey hD)]; exact sm6 _ _ ey
          · exact all_snoc (ImAll.mono (tk_lst eD) _ i3) hcol (Im.mono (tk_lst eD) _ iz)
        · obtain ⟨sm6, acc3, eD, i3⟩ := z
          rw [List.take_of_length_le (by rw [col_length]; omega)] at i3
          refine ⟨x1, .ref D, wts rows size target, Mt.col rows j, 2900, rfl, rw_tup (Im.mono (tk_same (sm4.trans sm6)) _ ix1), rw_lst ⟨acc3, eD, i3⟩, by rw [col_length, lw], by omega, by decide, by decide, bw, bd_col t.ok.len (by omega) br, fun p tt b2 H7 sm7 np ep b0 tb bb eq => ?_⟩
          have sm57 := sm6.trans sm7
          have sm47 := sm4.trans sm57
          obtain ⟨u, hu, iu⟩ := all_at (ImAll.mono (tk_same sm47) _ hys) (get_fn (show j < target.length by omega))
          refine ⟨.ref b, rfl, .int _, rfl, b, ys, _, _, rfl, rfl, (hb.mono (tk_same sm47)).sq, by rw [k0]; exact atI_nat hu, p, u, tt, b2, fn target j, rfl, ep, iu, b0, lt_up tb ?_, lt_up bb ?_, bt _ ?_, ?_, ?_⟩
          · have : (2 * 2900 + 2) * (wts rows size target).length ≤ 5802 * 48 := Nat.mul_le_mul (by decide) (by omega)
            omega
          · have : (2 * 2900) * (wts rows size target).length ≤ 5800 * 48 := Nat.mul_le_mul (by decide) (by omega)
            omega
          · exact List.mem_of_getElem? (get_fn (show j < target.length by omega))
          · rw [eq]; exact made_ok t.ok.len ht hf j (by omega)
          · exact ⟨true, rfl, iteF ⟨_, _, rfl, sm47⟩⟩
      · rintro σ H2 ⟨y3, y4, rfl, sm⟩
        exact q H2 sm
    | some pl =>
      rw [hf] at iF
      obtain ⟨c, zs, rfl, hc, hzs⟩ := iF.tuple_inv
      obtain ⟨x0, r0, rfl, ix0, h0⟩ := hzs.cons_inv
      obtain ⟨x1, r1, rfl, ix1, h1⟩ := h0.cons_inv
      rw [h1.nil_inv, ix0.str_inv] at hc
      have lw := mks_length t ht hi (pl := pl)
      have bw := mks_bd t ht hi hf
      obtain ⟨ap1, ap2⟩ := apart_ok t.ok ht hf
      refine ⟨.ref c, rfl, .ref c, _, .type "tuple", _, true, rfl, .ty _, ity hc, kit_ty (by decide +kernel), true, rfl, iteF ?_⟩
      refine ⟨.ref c, rfl, c, _, rfl, .inr hc.sq, rfl, _, rfl, ?_⟩
      refine iteNS rfl ?_
      refine ⟨.ref c, rfl, c, _, 0, _, rfl, rfl, hc.sq, atI_nat (j := 0) rfl, .str "apart", _, .type "str", _, true, rfl, .ty _, .base (.str _), kit_ty (by decide +kernel), true, rfl, iteF ?_⟩
      refine ⟨.ref c, rfl, c, _, 0, _, rfl, rfl, hc.sq, atI_nat (j := 0) rfl, rfl, _, rfl, ?_⟩
      rw [decide_eq_false (show ¬ V.str "apart" = V.str "made" from fun z => absurd (V.str.inj z) (by decide))]
      refine iteF ⟨.ref c, rfl, c, _, 0, _, rfl, rfl, hc.sq, atI_nat (j := 0) rfl, rfl, _, rfl, ?_⟩
      rw [decide_eq_true rfl]
      refine iteF ⟨.ref c, rfl, c, _, 1, _, rfl, rfl, hc.sq, atI_nat (j := 1) rfl, .ref b, rfl, b, ys, rfl, .inr hb.sq, x1, _, ys.length, rfl, ix1, by rw [lw, ly], by omega, fun y hy => bw y hy, fun H1 sm1 => ⟨true, rfl, iteF ?_⟩⟩
      have lens : ∀ {r : List Rat}, r.length = size → (2 * 5800 + 2) * (mks rows size target pl).length ≤ 11602 * 48 ∧ (2 * 5800) * (mks rows size target pl).length ≤ 11600 * 48 := fun _ => ⟨Nat.mul_le_mul (by decide) (by omega), Nat.mul_le_mul (by decide) (by omega)⟩
      refine ⟨.ref a, rfl, a, rfl, ⟨xs, (ha.mono (tk_same sm1)).sq⟩, ?_⟩
      refine for_it (walk_tup (xs := xs)) (fun j σ H4 => ∃ y3 y4, σ = [some (.ref c), some (.ref a), some (.ref b), y3, y4] ∧ Same H H4) ⟨none, none, rfl, sm1⟩ (fun j σ H4 _ ⟨_, _, _, sm⟩ => (ha.mono (tk_same sm)).sq) ?_ ?_
      · rintro j x2 σ H4 H5 hj ⟨z3, z4, rfl, sm4⟩ ⟨rfl, hx3⟩
        obtain ⟨r, hr', ir⟩ := all_get hxs hx3
        have mr := List.mem_of_getElem? hr'
        have lr := t.ok.len r mr
        refine ⟨.ref c, rfl, c, _, 1, _, rfl, rfl, (hc.mono (tk_same sm4)).sq, atI_nat (j := 1) rfl, x2, rfl, x1, x2, mks rows size target pl, r, 5800, rfl, rw_tup (Im.mono (tk_same sm4) _ ix1), rw_tup (Im.mono (tk_same sm4) _ ir), by rw [lw, lr], by omega, by decide, by decide, bw, fun y hy => (br r mr y hy).mono (by decide) (by decide), fun p tt b2 H7 sm7 np ep b0 tb bb eq => ?_⟩
        have e0 : tt = 0 := by
          have z : Rat.divInt tt b2 = 0 := by rw [eq]; exact ap1 r mr
          have z2 : tt * 1 = 0 * b2 := cross b0 z
          omega
        subst e0
        refine ⟨p, _, 0, _, rfl, rfl, .inl (.inl ep), atI_nat (j := 0) rfl, rfl, _, rfl, ?_⟩
        rw [decide_eq_true rfl]
        exact iteF ⟨_, _, rfl, sm4.trans sm7⟩
      · rintro σ H2 ⟨y3, y4, rfl, sm⟩
        refine ⟨.ref c, rfl, c, _, 1, _, rfl, rfl, (hc.mono (tk_same sm)).sq, atI_nat (j := 1) rfl, .ref b, rfl, x1, .ref b, mks rows size target pl, target, 5800, rfl, rw_tup (Im.mono (tk_same sm) _ ix1), rw_tup (Im.mono (tk_same sm) _ i2), by rw [lw, ht], by omega, by decide, by decide, bw, fun y hy => (bt y hy).mono (by decide) (by decide), fun p tt b2 H7 sm7 np ep b0 tb bb eq => ?_⟩
        obtain ⟨l1, l2⟩ := lens ht
        refine ⟨by show 2 ≤ sizeLine; decide, fun T hT => ?_⟩
        have s8 := same_new (o := .tup [.int 1, .int 1]) hT
        exact ⟨p, .ref T, tt, b2, 1, rfl, s8 _ _ ep, rat_mk (q := 1) (.inl upd_same), b0, lt_up tb (by omega), lt_up bb (by omega), ⟨by decide, by decide⟩, by rw [eq]; exact ap2, q _ ((sm.trans sm7).trans s8)⟩
end
end K39

set_option Elab.async false
set_option linter.all false
set_option maxRecDepth 100000
set_option exponentiation.threshold 20000
namespace K39
open PySem PySem.Spec PyProof.Rows L2 Ly Mt El
theorem dot_comm : ∀ (xs ys : List Rat), dot xs ys = dot ys xs
  | [], ys => by rw [dot_nil, dot_nil2]
  | x :: xs, [] => by rw [dot_nil, dot_nil2]
  | x :: xs, y :: ys => by
    show x * y + dot xs ys = y * x + dot ys xs
    rw [dot_comm xs ys, Rat.mul_comm]
theorem dot_zero2 : ∀ {xs ys : List Rat}, (∀ y ∈ ys, y = 0) → dot xs ys = 0
  | [], ys, _ => dot_nil _
  | x :: xs, [], _ => dot_nil2 _
  | x :: xs, y :: ys, h => by
    show x * y + dot xs ys = 0
    rw [h y (List.mem_cons_self ..), dot_zero2 fun z hz => h z (List.mem_cons_of_mem _ hz)]; grind
theorem vm_kill {n : Nat} {ws M : List Rat} {rows : List (List Rat)} (h : ∀ r ∈ rows, r.length = n) (k : ∀ r ∈ rows, dot M r = 0) : dot M (vm n ws rows) = 0 := by
  rw [dot_comm, dot_vm h]
  refine dot_zero2 fun y hy => ?_
  obtain ⟨r, hr, rfl⟩ := List.mem_map.mp hy
  rw [dot_comm]; exact k r hr
/-- the word that is told -/
def word (rows : List (List Rat)) (size : Nat) (target : List Rat) : Str := match first (leftOf rows size target) size with
  | none => "made"
  | some _ => "apart"
section
variable {s : Int} {E m size : Nat} {rows : List (List Rat)} (t : Task s E m size rows) {target : List Rat} (ht : target.length = size)
include t
theorem word_made {ws : List Rat} : word rows size (vm size ws rows) = "made" := by
  unfold word
  cases hf : first (leftOf rows size (vm size ws rows)) size with
  | none => rfl
  | some pl =>
    obtain ⟨h1, h2⟩ := apart_ok t.ok (vm_length t.ok.len) hf
    rw [vm_kill t.ok.len h1] at h2
    exact absurd h2 (by decide)
include ht
theorem word_zero (h : ∀ y ∈ target, y = 0) : word rows size target = "made" := by
  unfold word
  cases hf : first (leftOf rows size target) size with
  | none => rfl
  | some pl =>
    obtain ⟨h1, h2⟩ := apart_ok t.ok ht hf
    rw [dot_zero2 h] at h2
    exact absurd h2 (by decide)
theorem word_apart {M : List Rat} (k : ∀ r ∈ rows, dot M r = 0) (k1 : dot M target = 1) : word rows size target = "apart" := by
  unfold word
  cases hf : first (leftOf rows size target) size with
  | some pl => rfl
  | none =>
    have e : vm size (wts rows size target) rows = target := by
      rw [vm_as t.ok.len]
      apply List.ext_getElem?
      intro q
      rw [List.getElem?_map]
      by_cases hq : q < size
      · rw [List.getElem?_range hq, get_fn (show q < target.length by omega)]
        show some (dot _ _) = _
        rw [← made_ok t.ok.len ht hf q hq]; rfl
      · rw [List.getElem?_eq_none (by simp; omega), List.getElem?_eq_none (by omega)]; rfl
    have := vm_kill (ws := wts rows size target) t.ok.len k
    rw [e, k1] at this
    exact absurd this (by decide)
end
theorem told_as {rows : List (List Rat)} {size : Nat} {target : List Rat} {s : Int} {E m : Nat} (t : Task s E m size rows) (ht : target.length = size) (hi : Sc s E target) : ∃ r, told rows size target = .tuple [.str (word rows size target), vD r] ∧ r.length ≤ 48 := by
  unfold told word
  have l48 := t.l48
  have n48 := t.n48
  cases hf : first (leftOf rows size target) size with
  | none => exact ⟨_, rfl, by rw [wts_length t ht hi]; omega⟩
  | some pl => exact ⟨_, rfl, by rw [mks_length t ht hi]; omega⟩
theorem eqV_str (x : Str) : eqV (.str x) (.str x) = true := by
  show (x == x) = true
  exact beq_self_eq_true x
section
variable {P : Program} {w : World} {K : PySem.W.Frag} {mg : Str → Option Value} {base : Heap} {C : Addr}
theorem kb_made_of_target_rows : ∀ f fd, Fun K "made_of" "made_of" s_made_of f fd → KBinds K fd ["rows", "target"] ["target", "rows"] (fun us ws => match us, ws with | [], [x, y] => [y, x] | _, _ => []) (fun us ws => match us, ws with | [], [x, y] => [y, x] | _, _ => []) := by
  intro f fd U
  obtain ⟨oc, od, kV, doc, pm, an, cdv, ct, osl, rfl, lk, hcd⟩ := U.ex
  refine ⟨fun s us ws X hl => ?_, fun {vs us zs ws} r rz => ?_⟩
  · match us, ws, hl with
    | [], [x, y], _ => exact .of_eq rfl
    | [], [], h => simp at h
    | [], [_], h => simp at h
    | [], _ :: _ :: _ :: _, h => simp at h
    | _ :: _, _, h => simp at h
  · cases r with
    | cons a b => exact .nil
    | nil =>
      cases rz with
      | nil => exact .nil
      | cons a b =>
        cases b with
        | nil => exact .nil
        | cons a2 b2 =>
          cases b2 with
          | nil => exact .cons a2 (.cons a .nil)
          | cons _ _ => exact .nil

abbrev s__law_asked : Stmt := topS 47
theorem sc__law_asked : FnScope ["rows", "target", "due", "found"] ["rows", "target", "due"] (defScope s__law_asked) := ⟨rfl, rfl, rfl, by decide +kernel, rfl, by decide +kernel, by decide +kernel⟩
def sp_asked (K : PySem.W.Frag) : Sp := fun vs H Q _ => ∃ (v1 v2 : V) (due : Str) (rows : List (List Rat)) (target : List Rat) (size : Nat) (s : Int) (E m : Nat), vs = [v1, v2, .str due] ∧ Im K H v1 (mD rows) ∧ Im K H v2 (vD target) ∧ Task s E m size rows ∧ target.length = size ∧ Sc s E target ∧ (due = "" ∨ due = word rows size target) ∧ ∀ H', Same H H' → Q (.bl true) H'
theorem ok__law_asked {f : Addr} {fd : FuncData} {k : Nat} (F : Fun K "_law_asked" "_law_asked" s__law_asked f fd) (T : Tx K mg C){k1 : Nat} (D_made_of : Def P w K mg base k1 "made_of" s_made_of ["rows", "target"] (sp_made_of K)) {k2 : Nat} (D__law_right : Def P w K mg base k2 "_law_right" s__law_right ["found", "rows", "target"] (sp_right K)) {k3 : Nat} (D__law_same : Def P w K mg base k3 "_law_same" s__law_same ["found", "due"] (sp_same K 4)) (e1 : k1 ≤ k) (e2 : k2 ≤ k) (e3 : k3 ≤ k) : FnOk P w K mg base CX0 (k + 1) f fd ["rows", "target", "due"] (sp_asked K) := by
  have nd := sc__law_asked.nd
  refine F.ok sc__law_asked (fun vs H Q E h => ?_) (fun cdv A outer s H vs Q E hr h => ?_)
  · obtain ⟨_, _, _, _, _, _, _, _, _, rfl, _⟩ := h
    rfl
  · obtain ⟨v1, v2, due, rows, target, size, sc, Ec, m, rfl, i1, i2, t, ht, hi, hd, q⟩ := h
    obtain ⟨r, hr', lr⟩ := told_as t ht hi
    refine ⟨_, (pss_cons (ps_set (i := 3) nd rfl (.inl rfl) (pe_def D_made_of (hr.mono (by omega)) rfl (pa_cons (pv 0) (pa_cons (pv 1) pa_nil))))
      (pss_cons (ps_if (PW.pt (pw_or (pt_not (pt_val (pe_def D__law_right (hr.mono (by omega)) rfl (pa_cons (pv 3) (pa_cons (pv 0) (pa_cons (pv 1) pa_nil)))))) (pw_or1 (pt_cmpR (kop_notIn K) (pv 2) (pe_tup (pa_cons pe_str (pa_cons (pe_ix (kix_tup K) (pv 3) pe_int (fun _ _ => rfl)) pa_nil))) (by rfl)))))
        (pss_one (ps_ret pe_bl))
        pss_nil)
      (pss_one (ps_ret (pe_def D__law_same (hr.mono (by omega)) rfl (pa_cons (pe_defK D_made_of (hr.mono (by omega)) rfl kb_made_of_target_rows (pk_cons (pv 1) (pk_cons (pv 0) pk_nil))) (pa_cons (pv 3) pa_nil))))))), ?_⟩
    refine ⟨v1, rfl, v2, rfl, v1, v2, rows, target, size, sc, Ec, m, rfl, i1, i2, t, ht, hi, fun p H1 sm1 ip => ?_⟩
    refine ⟨.ref p, rfl, v1, rfl, v2, rfl, .ref p, v1, v2, rows, target, size, sc, Ec, m, rfl, ip, Im.mono (tk_same sm1) _ i1, Im.mono (tk_same sm1) _ i2, t, ht, hi, fun H2 sm2 => ⟨true, rfl, iteF ?_⟩⟩
    have ip2 := Im.mono (tk_same sm2) _ ip
    have ip2' := ip2
    rw [hr'] at ip2'
    obtain ⟨c, zs, ec, hc, hzs⟩ := ip2'.tuple_inv
    obtain ⟨x0, r0, rfl, ix0, h0⟩ := hzs.cons_inv
    obtain ⟨x1, r1, rfl, ix1, h1⟩ := h0.cons_inv
    rw [h1.nil_inv, ix0.str_inv] at hc
    obtain rfl := V.ref.inj ec
    refine ⟨.str due, rfl, .ref p, rfl, p, _, 0, _, rfl, rfl, hc.sq, atI_nat (j := 0) rfl, by show 2 ≤ sizeLine; decide, fun T' hT => ⟨T', _, rfl, .inr (.of upd_same), rfl, rfl, _, rfl, ?_⟩⟩
    have hin : inV (.str due) [.str "", .str (word rows size target)] = true := by
      show (eqV (.str "") (.str due) || (eqV (.str (word rows size target)) (.str due) || false)) = true
      rcases hd with rfl | rfl
      · rw [eqV_str]; rfl
      · rw [eqV_str, Bool.or_comm]; rfl
    rw [if_pos rfl]
    have hin' : (!inV (.str due) [V.str "", V.str (word rows size target)]) = false := by rw [hin]; rfl
    rw [hin']
    refine iteF ?_
    have sm3 := (sm1.trans sm2).trans (same_new (o := .tup [V.str "", V.str (word rows size target)]) hT)
    refine ⟨v2, rfl, v1, rfl, v1, v2, rows, target, size, sc, Ec, m, rfl, Im.mono (tk_same sm3) _ i1, Im.mono (tk_same sm3) _ i2, t, ht, hi, fun p4 H4 sm4 ip4 => ?_⟩
    refine ⟨.ref p, rfl, .ref p4, .ref p, told rows size target, rfl, ip4, Im.mono (tk_same ((same_new hT).trans sm4)) _ ip2, by rw [hr']; exact fl_word (by omega), fun H5 sm5 => q _ ((sm3.trans sm4).trans sm5)⟩
end
end K39

set_option Elab.async false
set_option linter.all false
set_option maxRecDepth 100000
set_option exponentiation.threshold 20000
namespace K39
open PySem PySem.Spec PyProof.Rows L2 Ly Mt El
/-! ### multiples that are ints -/
theorem sc_up {s u : Int} {E F : Nat} {r : List Rat} (h : Sc s E r) (hF : u.natAbs * E ≤ F) : Sc (u * s) F r := by
  intro q
  obtain ⟨z, e, b⟩ := h q
  refine ⟨u * z, ?_, ?_⟩
  · rw [Rat.intCast_mul, Rat.intCast_mul, ← e]; grind
  · rw [Int.natAbs_mul]
    exact Nat.le_trans (Nat.mul_le_mul_left _ b) hF
theorem sc_mono {s : Int} {E F : Nat} {r : List Rat} (h : Sc s E r) (hF : E ≤ F) : Sc s F r := fun q => by
  obtain ⟨z, e, b⟩ := h q
  exact ⟨z, e, by omega⟩
/-- a number whose multiple is an int -/
def Sn (s : Int) (E : Nat) (x : Rat) : Prop := ∃ z : Int, (s : Rat) * x = (z : Rat) ∧ z.natAbs ≤ E
theorem sn_zero (s : Int) (E : Nat) : Sn s E 0 := ⟨0, by simp, Nat.zero_le _⟩
theorem sc_of {s : Int} {E : Nat} {r : List Rat} (h : ∀ x ∈ r, Sn s E x) : Sc s E r := fun q => by
  by_cases hq : q < r.length
  · exact h _ (List.mem_of_getElem? (get_fn hq))
  · rw [fn_none (by omega)]; exact sn_zero s E
theorem sn_of {s : Int} {E : Nat} {r : List Rat} (h : Sc s E r) : ∀ x ∈ r, Sn s E x := fun x hx => by
  obtain ⟨q, rfl⟩ := fn_mem hx
  exact h q
theorem ent_sn {g : Bool} {q : Rat} (h : Ent g q) : Sn 42 (if g then 42 * 10 ^ 40 else 168) q := h
theorem dot_sn {a s : Int} {F E : Nat} : ∀ {xs ys : List Rat}, (∀ x ∈ xs, Sn a F x) → (∀ y ∈ ys, Sn s E y) → Sn (a * s) (xs.length * (F * E)) (dot xs ys)
  | [], ys, _, _ => by rw [dot_nil]; exact sn_zero _ _
  | x :: xs, [], _, _ => by rw [dot_nil2]; exact sn_zero _ _
  | x :: xs, y :: ys, h, k => by
    obtain ⟨z1, e1, b1⟩ := h x (List.mem_cons_self ..)
    obtain ⟨z2, e2, b2⟩ := k y (List.mem_cons_self ..)
    obtain ⟨z3, e3, b3⟩ := dot_sn (xs := xs) (ys := ys) (fun x hx => h x (List.mem_cons_of_mem _ hx)) (fun x hx => k x (List.mem_cons_of_mem _ hx))
    refine ⟨z1 * z2 + z3, ?_, ?_⟩
    · show ((a * s : Int) : Rat) * (x * y + dot xs ys) = _
      rw [Rat.intCast_mul] at e3
      rw [Rat.intCast_mul, Rat.intCast_add, Rat.intCast_mul, ← e1, ← e2, ← e3]; grind
    · have h1 : (z1 * z2).natAbs ≤ F * E := by rw [Int.natAbs_mul]; exact Nat.mul_le_mul b1 b2
      have h2 := Int.natAbs_add_le (z1 * z2) z3
      have h3 : (x :: xs).length * (F * E) = xs.length * (F * E) + F * E := by rw [List.length_cons, Nat.succ_mul]
      rw [h3]; omega
theorem sc_vm {a s : Int} {F E n B : Nat} {ws : List Rat} {A : List (List Rat)} (hn : ∀ r ∈ A, r.length = n) (h : ∀ x ∈ ws, Sn a F x) (k : ∀ r ∈ A, Sc s E r) (hB : ws.length * (F * E) ≤ B) : Sc (a * s) B (vm n ws A) := by
  refine sc_of fun x hx => ?_
  rw [vm_as hn] at hx
  obtain ⟨q, _, rfl⟩ := List.mem_map.mp hx
  obtain ⟨z, e, b⟩ := dot_sn h (ys := Mt.col A q) (fun y hy => by
    obtain ⟨r, hr, rfl⟩ := List.mem_map.mp hy
    exact k r hr q)
  exact ⟨z, e, Nat.le_trans b hB⟩
theorem sn_bd {s : Int} {E N : Nat} {x : Rat} (h : Sn s E x) (s0 : s ≠ 0) (sE : s.natAbs ≤ E) (hE : E < 2 ^ N) : Bd N N x := by
  obtain ⟨z, ez, zE⟩ := h
  exact bd_of (by rw [Rat.mul_comm]; exact ez) s0 (by omega) (by omega)
/-- what a row may be when k rows went ahead -/
def Lv (k : Nat) (r : List Rat) : Prop := Sc (42 ^ (k + 1)) (2 ^ (139 + 11 * k)) r
theorem lv_pow (k : Nat) : 2 ^ (139 + 11 * (k + 1)) = 2 ^ (139 + 11 * k) * 2048 := by
  rw [show 139 + 11 * (k + 1) = (139 + 11 * k) + 11 by omega, Nat.pow_add]
theorem lv_up {k : Nat} {r : List Rat} (h : Lv k r) : Lv (k + 1) r := by
  have e : (42 : Int) ^ (k + 1 + 1) = 42 * 42 ^ (k + 1) := by rw [Int.pow_succ, Int.mul_comm]
  unfold Lv
  rw [e]
  refine sc_up h ?_
  rw [lv_pow]
  generalize 2 ^ (139 + 11 * k) = G
  show 42 * G ≤ G * 2048
  omega
theorem lv_le {k j : Nat} {r : List Rat} (h : Lv k r) (hj : k ≤ j) : Lv j r := by
  induction j with
  | zero => rw [show k = 0 by omega] at h; exact h
  | succ j ih =>
    by_cases e : k = j + 1
    · rw [← e]; exact h
    · exact lv_up (ih (by omega))
theorem lv_ent {g : Bool} {r : List Rat} (h : ∀ x ∈ r, Ent g x) : Lv 0 r := by
  refine sc_mono (sc_of (s := 42) (E := if g then 42 * 10 ^ 40 else 168) h) ?_
  cases g <;> decide
theorem lv_zero {k n : Nat} : Lv k (List.replicate n 0) := sc_of fun x hx => by rw [(List.mem_replicate.mp hx).2]; exact sn_zero _ _
theorem lv_vm {k n : Nat} {ws : List Rat} {A : List (List Rat)} (hk : ws.length ≤ 7) (hn : ∀ r ∈ A, r.length = n) (h : ∀ x ∈ ws, Ent false x) (l : ∀ r ∈ A, Lv k r) : Lv (k + 1) (vm n ws A) := by
  have e : (42 : Int) ^ (k + 1 + 1) = 42 * 42 ^ (k + 1) := by rw [Int.pow_succ, Int.mul_comm]
  unfold Lv
  rw [e]
  refine sc_vm hn (F := 168) h l ?_
  rw [lv_pow]
  generalize 2 ^ (139 + 11 * k) = G
  have h1 : ws.length * (168 * G) ≤ 7 * (168 * G) := Nat.mul_le_mul_right _ hk
  omega
theorem lv_bd {k : Nat} {r : List Rat} (h : Lv k r) (hk : k ≤ 7) : ∀ y ∈ r, Bd 217 217 y := by
  have h7 := lv_le h hk
  exact sc_bd h7 (by decide) (by decide) (by decide)
theorem ent_bd {g : Bool} {x : Rat} (h : Ent g x) : Bd 217 217 x := by
  refine sn_bd (ent_sn h) (by decide) ?_ ?_
  · cases g <;> decide
  · cases g <;> decide
/-! ### lists that draws leave -/
/-- rows in a list that is not the source -/
def LMat (K : PySem.W.Frag) (H : Hp) (c L p : Addr) (A : List (List Rat)) : Prop := p ≠ c ∧ p ≠ L ∧ ∃ ws, H p = some (.lst ws) ∧ ImAll K H ws (A.map vD)
theorem LMat.but {K : PySem.W.Frag} {H H' : Hp} {c L p : Addr} {A : List (List Rat)} {n : Nat} (h : LMat K H c L p A) (b : But c L H H') (u : Cup H c L n) : LMat K H' c L p A := by
  obtain ⟨h1, h2, ws, h3, h4⟩ := h
  exact ⟨h1, h2, ws, b _ _ h1 h2 h3, ImAll.mono (b.tk u) _ h4⟩
theorem LMat.same {K : PySem.W.Frag} {H H' : Hp} {c L p : Addr} {A : List (List Rat)} (h : LMat K H c L p A) (b : Same H H') : LMat K H' c L p A := by
  obtain ⟨h1, h2, ws, h3, h4⟩ := h
  exact ⟨h1, h2, ws, b _ _ h3, ImAll.mono (tk_same b) _ h4⟩
theorem LMat.mt {K : PySem.W.Frag} {H : Hp} {c L p : Addr} {A : List (List Rat)} (h : LMat K H c L p A) : MtAt K H (.ref p) A := by
  obtain ⟨_, _, ws, h3, h4⟩ := h
  exact ⟨p, ws, rfl, .inl (.of h3), h4⟩
/-- ratios in such a list -/
def LVec (K : PySem.W.Frag) (H : Hp) (c L p : Addr) (r : List Rat) : Prop := p ≠ c ∧ p ≠ L ∧ LRow K H p r
theorem LVec.but {K : PySem.W.Frag} {H H' : Hp} {c L p : Addr} {A : List Rat} {n : Nat} (h : LVec K H c L p A) (b : But c L H H') (u : Cup H c L n) : LVec K H' c L p A := by
  obtain ⟨h1, h2, ws, h3, h4⟩ := h
  exact ⟨h1, h2, ws, b _ _ h1 h2 h3, ImAll.mono (b.tk u) _ h4⟩
theorem lay_rats : ∀ r : List Rat, PyData.canLayAll0 (r.map rD) = true
  | [] => by simp [PyData.canLayAll0]
  | q :: r => by
    have := lay_rats r
    simp [PyData.canLayAll0, rD, PyData.canLay0, this]
theorem lay_vecs : ∀ A : List (List Rat), PyData.canLayAll0 (A.map vD) = true
  | [] => by simp [PyData.canLayAll0]
  | r :: A => by
    have h1 := lay_rats r
    have h2 := lay_vecs A
    simp [PyData.canLayAll0, vD, PyData.canLay0, h1] at h2 ⊢
    exact h2
theorem deep_rats : ∀ r : List Rat, PyData.depthAll (r.map rD) ≤ 2
  | [] => by simp [PyData.depthAll]
  | q :: r => by
    have := deep_rats r
    have h0 : PyData.depth (rD q) ≤ 2 := by simp [rD, PyData.depth, PyData.depthAll]
    simp only [List.map_cons, PyData.depthAll]
    omega
theorem deep_vecs : ∀ A : List (List Rat), PyData.depthAll (A.map vD) ≤ 3
  | [] => by simp [PyData.depthAll]
  | r :: A => by
    have h1 := deep_vecs A
    have h2 := deep_rats r
    have h0 : PyData.depth (vD r) ≤ 3 := by simp only [vD, PyData.depth]; omega
    simp only [List.map_cons, PyData.depthAll]
    omega
theorem shaped_rows (A : List (List Rat)) : SeqAt.shaped (.list (A.map vD)) = true := by
  have h := deep_vecs A
  have h2 : PyData.depth (.list (A.map vD)) ≤ 64 := by
    simp only [PyData.depth]; omega
  show (PyData.canLay0 (.list (A.map vD)) && decide (PyData.depth (.list (A.map vD)) ≤ 64)) = true
  rw [Bool.and_eq_true]
  exact ⟨by simp only [PyData.canLay0]; exact lay_vecs A, decide_eq_true h2⟩
theorem eqv_rows_nil (A : List (List Rat)) : PyData.eqv (.list (A.map vD)) (.list []) = A.isEmpty := by
  cases A <;> simp [PyData.eqv, PyData.eqvAll]
theorem shaped_nil : SeqAt.shaped (.list []) = true := shaped_rows []
section
variable {P : Program} {w : World} {K : PySem.W.Frag} {mg : Str → Option Value} {base : Heap} {C : Addr}
/-- draws that fill the list at D: i of n are made, each of at most f; what comes is P -/
def DrawI (K : PySem.W.Frag) (c L D : Addr) (n f fuel : Nat) (Pq : Rat → Prop) (H1 : Hp) (i : Nat) (H : Hp) : Prop := ∃ (r : List Rat) (acc : List V), r.length = i ∧ (∀ q ∈ r, Pq q) ∧ But c L H1 H ∧ Cup H c L (fuel + f * (n - i)) ∧ H D = some (.lst acc) ∧ ImAll K H acc (r.map rD)
theorem draw_start {c L D : Addr} {n f fuel : Nat} {Pq : Rat → Prop} {H1 : Hp} (u : Cup H1 c L (fuel + f * n)) (hD : H1 D = none) : DrawI K c L D n f fuel Pq H1 0 (upd H1 D (.lst [])) :=
  ⟨[], [], rfl, fun _ h => by simp at h, but_same (same_new hD), by rw [Nat.sub_zero]; exact u.same (same_new hD), upd_same, .nil⟩
theorem DrawI.cup {c L D : Addr} {n f fuel i : Nat} {Pq : Rat → Prop} {H1 H : Hp} (h : DrawI K c L D n f fuel Pq H1 i H) (hi : i < n) : Cup H c L (fuel + f * (n - (i + 1)) + f) := by
  obtain ⟨r, acc, h1, h2, h3, h4, h5, h6⟩ := h
  have e : f * (n - i) = f * (n - (i + 1)) + f := by rw [show n - i = (n - (i + 1)) + 1 by omega, Nat.mul_succ]
  rw [e, ← Nat.add_assoc] at h4
  exact h4
theorem DrawI.but {c L D : Addr} {n f fuel i : Nat} {Pq : Rat → Prop} {H1 H : Hp} (h : DrawI K c L D n f fuel Pq H1 i H) : But c L H1 H := by
  obtain ⟨r, acc, h1, h2, h3, h4, h5, h6⟩ := h
  exact h3
theorem draw_step {c L D : Addr} {n f fuel i : Nat} {Pq : Rat → Prop} {H1 H H6 : Hp} {v : V} {q : Rat} (h : DrawI K c L D n f fuel Pq H1 i H) (hi : i < n) (hn : n ≤ 100) (hD : H1 D = none) (ne : D ≠ c ∧ D ≠ L) (b6 : But c L H H6) (u6 : Cup H6 c L (fuel + f * (n - (i + 1)))) (iv : Im K H6 v (rD q)) (pq : Pq q) :
    ∃ acc, H6 D = some (.lst acc) ∧ acc.length < sizeLine ∧ DrawI K c L D n f fuel Pq H1 (i + 1) (upd H6 D (.lst (acc ++ [v]))) := by
  obtain ⟨r, acc, h1, h2, h3, h4, h5, h6⟩ := h
  have e6 := b6 _ _ ne.1 ne.2 h5
  have l : acc.length = i := by rw [all_len h6]; exact h1
  refine ⟨acc, e6, small1000 (by omega), r ++ [q], acc ++ [v], by rw [List.length_append, h1]; rfl, fun y hy => ?_, fun b o k1 k2 e => ?_, u6.upd ne.1 ne.2, upd_same, ?_⟩
  · rcases List.mem_append.mp hy with h | h
    · exact h2 y h
    · rw [List.mem_singleton.mp h]; exact pq
  · rw [upd_ne (ne_of_none e hD)]
    exact b6 b o k1 k2 (h3 b o k1 k2 e)
  · rw [List.map_append]
    exact (ImAll.mono ((b6.tk h4).trans (tk_lst e6)) _ h6).snoc (Im.mono (tk_lst e6) _ iv)
theorem DrawI.done {c L D : Addr} {n f fuel : Nat} {Pq : Rat → Prop} {H1 H : Hp} (h : DrawI K c L D n f fuel Pq H1 n H) : ∃ (r : List Rat) (acc : List V), r.length = n ∧ (∀ q ∈ r, Pq q) ∧ But c L H1 H ∧ Cup H c L fuel ∧ H D = some (.lst acc) ∧ ImAll K H acc (r.map rD) := by
  obtain ⟨r, acc, h1, h2, h3, h4, h5, h6⟩ := h
  rw [Nat.sub_self, Nat.mul_zero, Nat.add_zero] at h4
  exact ⟨r, acc, h1, h2, h3, h4, h5, h6⟩
theorem cut_whole {xs : List V} {lo hi : Option Int} (h : HT.sIx xs.length 0 lo = 0 ∧ HT.sIx xs.length xs.length hi = xs.length) : cutV xs lo hi = xs := by
  unfold cutV
  rw [h.1, h.2]; simp
theorem sl_any {a : Addr} {xs : List V} {lo hi : Option Int} {H : Hp} {Q : VK} (h : ITup K H a xs) (q : ∀ p H', Same H H' → ITup K H' p (cutV xs lo hi) → Q (.ref p) H') : rSlA K (.ref a) lo hi H Q :=
  ⟨a, xs, rfl, h.sq, fun w => q a H (Same.refl H) (by rw [cut_whole w]; exact h), fun _ p hp => q p _ (same_new hp) (.inl upd_same)⟩
theorem cat_any {a b : Addr} {xs ys : List V} {H : Hp} {Q : VK} (h : ITup K H a xs) (h2 : ITup K H b ys) (hz : xs.length + ys.length ≤ 1000) (q : ∀ p H', Same H H' → ITup K H' p (xs ++ ys) → Q (.ref p) H') : rCatA K (.ref a) (.ref b) H Q := by
  refine ⟨a, b, xs, ys, rfl, rfl, h.sq, h2.sq, Nat.le_of_lt (small1000 hz), fun e => q b H (Same.refl H) (by rw [e]; exact h2), fun _ e => q a H (Same.refl H) (by rw [e, List.append_nil]; exact h), fun _ _ p hp => q p _ (same_new hp) (.inl upd_same)⟩
/-- a tuple's repetition -/
theorem rep_any {l : Addr} {x : V} {H : Hp} {n : Nat} {Q : VK} (h : ITup K H l [x]) (hn : n ≤ 1000) (q : ∀ p H', Same H H' → ITup K H' p (List.replicate n x) → Q (.ref p) H') : rRepTA K (.ref l) (.int n) H Q := by
  refine ⟨l, n, [x], rfl, rfl, h.sq, by simp, by omega, by omega, by show 1 ≤ 1000; decide, fun e => ?_, fun _ p hp => q p _ (same_new hp) (.inl ?_)⟩
  · have e1 : n = 1 := by omega
    subst e1
    exact q l H (Same.refl H) h
  · show (upd H p (.tup (List.replicate n [x]).flatten)) p = _
    rw [flat1]
    exact upd_same
end
end K39

set_option Elab.async false
set_option linter.all false
set_option maxRecDepth 100000
set_option exponentiation.threshold 20000
namespace K39
open PySem PySem.Spec PyProof.Rows L2 Ly Mt El
section
variable {P : Program} {w : World} {K : PySem.W.Frag} {mg : Str → Option Value} {base : Heap} {C : Addr}

abbrev s__law_rows : Stmt := topS 44
theorem sc__law_rows : FnScope ["cup", "many", "size", "great", "rows", "k", "way", "row", "turn", "one"] ["cup", "many", "size", "great"] (defScope s__law_rows) := ⟨rfl, rfl, rfl, by decide +kernel, rfl, by decide +kernel, by decide +kernel⟩
def sp_rows (K : PySem.W.Frag) : Sp := fun vs H Q _ => ∃ (c L : Addr) (g : Bool) (many size n : Nat), vs = [.ref c, .int many, .int size, .bl g] ∧ many ≤ 7 ∧ size ≤ 6 ∧ Cup H c L (n + 100 * many) ∧ ∀ A p H', A.length = many → (∀ r ∈ A, r.length = size ∧ Lv many r) → LMat K H' c L p A → Cup H' c L n → But c L H H' → Q (.ref p) H'
set_option maxHeartbeats 1000000 in
theorem ok__law_rows {f : Addr} {fd : FuncData} {k : Nat} (F : Fun K "_law_rows" "_law_rows" s__law_rows f fd) (T : Tx K mg C){k1 : Nat} (D__law_sip : Def P w K mg base k1 "_law_sip" s__law_sip ["cup", "many"] sp_sip) {k2 : Nat} (D__law_entry : Def P w K mg base k2 "_law_entry" s__law_entry ["cup", "great"] (sp_entry K)) {k3 : Nat} (D__law_combine : Def P w K mg base k3 "_law_combine" s__law_combine ["weights", "rows", "size"] (sp_combine K)) (e1 : k1 ≤ k) (e2 : k2 ≤ k) (e3 : k3 ≤ k) : FnOk P w K mg base CX0 (k + 1) f fd ["cup", "many", "size", "great"] (sp_rows K) := by
  have nd := sc__law_rows.nd
  refine F.ok sc__law_rows (fun vs H Q E h => ?_) (fun cdv A outer s H vs Q E hr h => ?_)
  · obtain ⟨_, _, _, _, _, _, rfl, _⟩ := h
    rfl
  · obtain ⟨c, L, g, many, size, n, rfl, hm, hs, u, q⟩ := h
    refine ⟨_, (pss_cons (ps_set (i := 4) nd rfl (.inl rfl) (pe_lst pa_nil))
      (pss_cons (ps_for PassesOwn.never rfl (pi_range1 rfl T.m_range (pa_cons (pv 1) pa_nil)) (pg_name (i := 5) nd rfl (.inl rfl))
        (pss_cons (ps_set (i := 6) nd rfl (.inl rfl) (pe_def D__law_sip (hr.mono (by omega)) rfl (pa_cons (pv 0) (pa_cons pe_int pa_nil))))
        (pss_cons (ps_set (i := 7) nd rfl (.inl rfl) (pe_callTy (kcall_tuple K) (by rfl) T.m_tuple (by decide +kernel) (pa_cons (pe_lc (own := [("turn", 8)]) (g := gName 8) (tt := tYes) rfl nd (pi_range1 rfl T.m_range (pa_cons (pv 2) pa_nil)) (blkOk_by (by rfl)) (fun _ _ _ _ _ => (pg_name (i := 8) nd rfl (.inl rfl))) (fun _ _ _ _ _ => pts_nil) (fun _ _ _ _ _ => (pe_def D__law_entry (hr.mono (by omega)) rfl (pa_cons (pv 0) (pa_cons (pv 3) pa_nil))))) pa_nil)))
        (C8.pss_cut (ps_if (pt_cmpR op_eq (pv 6) pe_int (nomark _))
          (pss_one (ps_set (i := 7) nd rfl (.inl rfl) (pe_def D__law_combine (hr.mono (by omega)) rfl (pa_cons (pe_lc (own := [("one", 9)]) (g := gName 9) (tt := tYes) rfl nd (kpi_list K (pv 4)) (blkOk_by (by rfl)) (fun _ _ _ _ _ => (pg_name (i := 9) nd rfl (.inl rfl))) (fun _ _ _ _ _ => pts_nil) (fun _ _ _ _ _ => (pe_def D__law_entry (hr.mono (by omega)) rfl (pa_cons (pv 0) (pa_cons pe_bl pa_nil))))) (pa_cons (pv 4) (pa_cons (pv 2) pa_nil))))))
          pss_nil)
        (C8.pss_cut (ps_if (PW.pt (pw_and (pt_cmpR op_eq (pv 6) pe_int (nomark _)) (pw_and1 (pt_cmpR (kop_neD K hr.units) (pv 4) (pe_lst pa_nil) (nomark _)))))
          (pss_one (ps_set (i := 7) nd rfl (.inl rfl) (pe_ix (kix_list K) (pv 4) (pe_def D__law_sip (hr.mono (by omega)) rfl (pa_cons (pv 0) (pa_cons (pe_callB (kcall_len K) (by rfl) T.m_len PySem.boot_len (pa_cons (pv 4) pa_nil)) pa_nil))) (fun _ _ => rfl))))
          pss_nil)
        (C8.pss_cut (ps_if (PW.pt (pw_and (pt_cmpR op_eq (pv 6) pe_int (nomark _)) (pw_and1 (pt_cmpR op_eq (pe_def D__law_sip (hr.mono (by omega)) rfl (pa_cons (pv 0) (pa_cons pe_int pa_nil))) pe_int (nomark _)))))
          (pss_one (ps_set (i := 7) nd rfl (.inl rfl) (pe_op (kop_repTA K) (pe_tup (pa_cons (pe_tup (pa_cons pe_int (pa_cons pe_int pa_nil))) pa_nil)) (pv 2))))
          pss_nil)
        (pss_one (ps_expr (pe_bm PySem.F.plainAttrs_list PySem.F.slot_list_append PySem.F.type_list_append mt_append (pv 4) (pa_cons (pv 7) pa_nil))))))))))
      (pss_one (ps_ret (pv 4))))), ?_⟩
    refine ⟨by show 0 ≤ sizeLine; decide, fun e he => ⟨_, rfl, many, rfl, by omega, by omega, ?_⟩⟩
    have nee := u.ne he
    refine for_it (walk_range (lo := 0) (n := many)) (fun i σ H2 => ∃ y5 y6 y7 y8 y9 B, σ = [some (.ref c), some (.int many), some (.int size), some (.bl g), some (.ref e), y5, y6, y7, y8, y9] ∧ B.length = i ∧ (∀ r ∈ B, r.length = size ∧ Lv i r) ∧ LMat K H2 c L e B ∧ But c L H H2 ∧ Cup H2 c L (n + 100 * (many - i))) ⟨none, none, none, none, none, [], rfl, rfl, fun _ h => by simp at h, ⟨nee.1, nee.2, [], upd_same, .nil⟩, but_same (same_new he), u.same (same_new he)⟩ (fun _ _ _ _ _ => trivial) ?_ ?_
    · rintro i x σ H2 H3 hi ⟨y5, y6, y7, y8, y9, B, rfl, lB, hB, lm, bt, u2⟩ ⟨rfl, rfl⟩
      have ef : 100 * (many - i) = 100 * (many - (i + 1)) + 100 := by omega
      rw [ef] at u2
      generalize hR : n + 100 * (many - (i + 1)) = R at *
      have u2' : Cup H3 c L (R + 99 + 1) := by rw [← hR]; exact u2
      refine ⟨.ref c, rfl, c, L, 6, R + 99, rfl, u2', by decide, by decide, fun d H4 d0 d6 u4 b4 => ?_⟩
      have bt4 := bt.trans b4
      have lm4 := lm.but b4 u2'
      refine ⟨.int size, rfl, size, rfl, by omega, by omega, fun D hD => ?_⟩
      have ne := u4.ne hD
      refine lc_all (walk_range (lo := 0) (n := size)) (DrawI K c L D size 5 (R + 99 - 5 * size) (Ent g) H4) (draw_start (by rw [show R + 99 - 5 * size + 5 * size = R + 99 by omega]; exact u4) hD) (fun _ _ _ _ => trivial) (fun j x H5 H6 hj z y => ?_) (fun H5 z => ?_)
      · obtain ⟨rfl, rfl⟩ := y
        exact ⟨rfl, .ref c, rfl, .bl g, rfl, c, L, g, _, rfl, z.cup hj, fun qq p H7 ip pq u7 b7 np => draw_step z hj (by omega) hD ne b7 u7 ip pq⟩
      · obtain ⟨r, acc, lr, pr, b5, u5, eD, ir⟩ := z.done
        refine ⟨D, acc, rfl, .inl ⟨.of eD, fun l hl => ?_⟩⟩
        have sm6 : Same H5 (upd H5 l (.tup acc)) := same_new hl
        have il : Im K (upd H5 l (.tup acc)) (.ref l) (vD r) := .tup (.inl upd_same) (ImAll.mono (tk_same sm6) _ ir)
        have lm6 := (lm4.but b5 u4).same sm6
        have bt6 := (bt4.trans b5).trans (but_same sm6)
        have u6 := (u5.same sm6).less (show R + 60 ≤ R + 99 - 5 * size by omega)
        generalize upd H5 l (.tup acc) = G at *
        refine ⟨fun σ' H' => ∃ v r y8 y9, σ' = [some (.ref c), some (.int many), some (.int size), some (.bl g), some (.ref e), some (.int ((0 : Int) + (i : Nat))), some (.int d), some v, y8, y9] ∧ Im K H' v (vD r) ∧ r.length = size ∧ Lv (i + 1) r ∧ LMat K H' c L e B ∧ But c L H H' ∧ Cup H' c L (R + 20), ?_, ?_⟩
        · refine ⟨.int d, rfl, rfl, _, rfl, ?_⟩
          by_cases h0 : d = 0
          · rw [decide_eq_true (show V.int d = V.int 0 by rw [h0])]
            obtain ⟨nc, nL, ws, ew, iw⟩ := id lm6
            have lw : ws.length = i := by rw [all_len iw]; exact lB
            refine iteT ⟨.ref e, rfl, e, rfl, ⟨ws, .of ew⟩, fun D2 hD2 => ?_⟩
            have ne2 := u6.ne hD2
            refine lc_all (walk_list (xs := ws)) (DrawI K c L D2 ws.length 5 (R + 60 - 5 * ws.length) (Ent false) G) (draw_start (by rw [show R + 60 - 5 * ws.length + 5 * ws.length = R + 60 by omega]; exact u6) hD2) (fun j H7 _ z => .of (z.but _ _ nc nL ew)) (fun j x H7 H8 hj z y => ?_) (fun H7 z => ?_)
            · obtain ⟨rfl, _⟩ := y
              exact ⟨rfl, .ref c, rfl, c, L, false, _, rfl, z.cup hj, fun qq p H9 ip pq u9 b9 np => draw_step z hj (by omega) hD2 ne2 b9 u9 ip pq⟩
            · obtain ⟨r2, acc2, lr2, pr2, b7, u7, eD2, ir2⟩ := z.done
              have lm7 := lm6.but b7 u6
              refine ⟨.ref e, rfl, .int size, rfl, D2, .ref e, r2, B, size, 217, rfl, ⟨acc2, eD2, ir2⟩, lm7.mt, by omega, by omega, fun r hr => (hB r hr).1, by omega, by decide, by decide, fun y hy => ent_bd (pr2 y hy), fun r hr => lv_bd (hB r hr).2 (by omega), ?_, fun p9 H9 sm9 np9 i9 => ?_⟩
              · have : 2 * 217 * B.length ≤ 2 * 217 * 7 := Nat.mul_le_mul_left _ (by omega)
                omega
              · exact ⟨_, _, _, _, rfl, i9, vm_length (fun r hr => (hB r hr).1), lv_vm (by omega) (fun r hr => (hB r hr).1) pr2 (fun r hr => (hB r hr).2), lm7.same sm9, (bt6.trans b7).trans (but_same sm9), (u7.same sm9).less (by omega)⟩
          · rw [decide_eq_false (show ¬ V.int d = V.int 0 from fun z => h0 (V.int.inj z))]
            exact iteF ⟨_, _, _, _, rfl, il, lr, lv_le (lv_ent pr) (by omega), lm6, bt6, u6.less (by omega)⟩
        · rintro σ' H' ⟨v, r', z8, z9, rfl, iv, lr', lv', lm7, bt7, u7⟩
          refine ⟨fun σ' H' => ∃ v r y8 y9, σ' = [some (.ref c), some (.int many), some (.int size), some (.bl g), some (.ref e), some (.int ((0 : Int) + (i : Nat))), some (.int d), some v, y8, y9] ∧ Im K H' v (vD r) ∧ r.length = size ∧ Lv (i + 1) r ∧ LMat K H' c L e B ∧ But c L H H' ∧ Cup H' c L (R + 10), ?_, ?_⟩
          · refine ⟨.int d, rfl, rfl, _, rfl, ?_⟩
            by_cases h1 : d = 1
            · rw [decide_eq_true (show V.int d = V.int 1 by rw [h1])]
              obtain ⟨nc, nL, ws, ew, iw⟩ := id lm7
              refine iteT ⟨.ref e, rfl, by show 0 ≤ sizeLine; decide, fun e2 he2 => ?_⟩
              have sm8 : Same H' (upd H' e2 (.lst [])) := same_new he2
              refine ⟨_, _, .lst (.of (sm8 _ _ ew)) (ImAll.dp _ (ImAll.mono (tk_same sm8) _ iw)), .lst (.of upd_same) .nil, shaped_rows B, shaped_nil, ?_⟩
              rw [eqv_rows_nil]
              have lm8 := lm7.same sm8
              have u8 := u7.same sm8
              have bt8 := bt7.trans (but_same sm8)
              have iv8 := Im.mono (tk_same sm8) _ iv
              have ew8 := sm8 _ _ ew
              generalize upd H' e2 (.lst []) = G8 at *
              cases hBe : B with
              | nil =>
                rw [hBe] at lm8
                exact ⟨false, rfl, iteF ⟨_, _, _, _, rfl, iv8, lr', lv', lm8, bt8, u8.less (by omega)⟩⟩
              | cons b0 bs =>
                rw [← hBe]
                have eB : (!B.isEmpty) = true := by rw [hBe]; rfl
                rw [eB]
                have l0 : 0 < B.length := by rw [hBe]; simp
                have lw : ws.length = B.length := all_len iw
                refine ⟨true, rfl, iteT ⟨.ref e, rfl, .ref c, rfl, .ref e, rfl, e, ws, rfl, .inl (.of ew8), c, L, (ws.length : Nat), R + 19, rfl, u8, by omega, by omega, fun d3 H9 d30 d31 u9 b9 => ?_⟩⟩
                have lm9 := lm8.but b9 u8
                obtain ⟨_, _, ws9, ew9, iw9⟩ := id lm9
                obtain ⟨d3n, rfl⟩ : ∃ m : Nat, d3 = m := ⟨d3.toNat, by omega⟩
                have hd3 : B[d3n]? = some (B[d3n]'(by omega)) := List.getElem?_eq_getElem (by omega)
                have hmem := List.getElem_mem (l := B) (n := d3n) (by omega)
                generalize B[d3n]'(by omega) = rr at hd3 hmem
                obtain ⟨x9, hx9, ix9⟩ := all_at iw9 hd3
                exact ⟨e, ws9, _, x9, rfl, rfl, .of ew9, atI_nat hx9, _, _, _, _, rfl, ix9, (hB rr hmem).1, lv_up (hB rr hmem).2, lm9, bt8.trans b9, u9.less (by omega)⟩
            · rw [decide_eq_false (show ¬ V.int d = V.int 1 from fun z => h1 (V.int.inj z))]
              exact iteF ⟨_, _, _, _, rfl, iv, lr', lv', lm7, bt7, u7.less (by omega)⟩
          · rintro σ' H' ⟨v, r', z8, z9, rfl, iv, lr', lv', lm8, bt8, u8⟩
            refine ⟨fun σ' H' => ∃ v r y8 y9, σ' = [some (.ref c), some (.int many), some (.int size), some (.bl g), some (.ref e), some (.int ((0 : Int) + (i : Nat))), some (.int d), some v, y8, y9] ∧ Im K H' v (vD r) ∧ r.length = size ∧ Lv (i + 1) r ∧ LMat K H' c L e B ∧ But c L H H' ∧ Cup H' c L R, ?_, ?_⟩
            · refine ⟨.int d, rfl, rfl, _, rfl, ?_⟩
              by_cases h2 : d = 2
              · rw [decide_eq_true (show V.int d = V.int 2 by rw [h2])]
                refine iteT ⟨.ref c, rfl, c, L, 2, R + 9, rfl, u8, by decide, by decide, fun d3 H9 d30 d31 u9 b9 => ⟨rfl, _, rfl, ?_⟩⟩
                have lm9 := lm8.but b9 u8
                have bt9 := bt8.trans b9
                have iv9 := Im.mono (b9.tk u8) _ iv
                by_cases h3 : d3 = 0
                · rw [decide_eq_true (show V.int d3 = V.int 0 by rw [h3])]
                  refine iteT ⟨by show 2 ≤ sizeLine; decide, fun z0 hz0 => ⟨by show 1 ≤ sizeLine; decide, fun z1 hz1 => ⟨.int size, rfl, ?_⟩⟩⟩
                  have sma : Same H9 (upd H9 z0 (.tup [.int 0, .int 1])) := same_new hz0
                  have ia : Im K (upd H9 z0 (.tup [.int 0, .int 1])) (.ref z0) (rD 0) := rat_mk (q := 0) (.inl upd_same)
                  generalize upd H9 z0 (.tup [.int 0, .int 1]) = Ga at *
                  have smb : Same Ga (upd Ga z1 (.tup [.ref z0])) := same_new hz1
                  have smc := sma.trans smb
                  refine rep_any (x := .ref z0) (.inl upd_same) (by omega) fun p H10 sm10 sq => ?_
                  have ia10 := Im.mono (tk_same (smb.trans sm10)) _ ia
                  have smd := smc.trans sm10
                  exact ⟨_, _, _, _, rfl, .tup sq (all_rep (f := rD) (a := 0) ia10 size), by rw [List.length_replicate], lv_zero, lm9.same smd, bt9.trans (but_same smd), (u9.same smd).less (by omega)⟩
                · rw [decide_eq_false (show ¬ V.int d3 = V.int 0 from fun z => h3 (V.int.inj z))]
                  exact iteF ⟨_, _, _, _, rfl, iv9, lr', lv', lm9, bt9, u9.less (by omega)⟩
              · rw [decide_eq_false (show ¬ V.int d = V.int 2 from fun z => h2 (V.int.inj z))]
                exact iteF ⟨_, _, _, _, rfl, iv, lr', lv', lm8, bt8, u8.less (by omega)⟩
            · rintro σ' H' ⟨v, r', z8, z9, rfl, iv, lr', lv', lm9, bt9, u9⟩
              obtain ⟨nc, nL, ws, ew, iw⟩ := lm9
              have lw : ws.length = i := by rw [all_len iw]; exact lB
              refine ⟨.ref e, rfl, .inl ⟨rfl, _, .of ew⟩, v, rfl, e, ws, v, rfl, rfl, ew, small1000 (by omega), _, _, _, _, _, B ++ [r'], rfl, by rw [List.length_append, lB]; rfl, fun r hr => ?_, ⟨nc, nL, _, upd_same, ?_⟩, fun b o k1 k2 eb => ?_, ?_⟩
              · rcases List.mem_append.mp hr with h | h
                · exact ⟨(hB r h).1, lv_up (hB r h).2⟩
                · rw [List.mem_singleton.mp h]; exact ⟨lr', lv'⟩
              · rw [List.map_append]
                exact (ImAll.mono (tk_lst ew) _ iw).snoc (Im.mono (tk_lst ew) _ iv)
              · rw [upd_ne (ne_of_none eb he)]
                exact bt9 b o k1 k2 eb
              · exact u9.upd nc nL
    · rintro σ H2 ⟨y5, y6, y7, y8, y9, B, rfl, lB, hB, lm, bt, u2⟩
      rw [Nat.sub_self, Nat.mul_zero, Nat.add_zero] at u2
      exact ⟨.ref e, rfl, q B e H2 lB hB lm u2 bt⟩
end
end K39

set_option Elab.async false
set_option linter.all false
set_option maxRecDepth 100000
set_option exponentiation.threshold 20000
namespace K39
open PySem PySem.Spec PyProof.Rows L2 Ly Mt El
theorem dot_set : ∀ {M r : List Rat} {i : Nat} {b : Rat}, i < M.length → M.length = r.length → dot (M.set i 1) (r.set i b) = dot (M.set i 0) r + b
  | m :: M, x :: r, 0, b, _, _ => by
    show 1 * b + dot M r = 0 * x + dot M r + b
    grind
  | m :: M, x :: r, i + 1, b, h, k => by
    have ih := dot_set (M := M) (r := r) (i := i) (b := b) (by simpa using h) (by simpa using k)
    show m * x + dot (M.set i 1) (r.set i b) = m * x + dot (M.set i 0) r + b
    rw [ih]; grind
  | [], _, _, _, h, _ => by simp at h
  | _ :: _, [], _, _, _, k => by simp at k
theorem set_cut {xs : List V} {i : Nat} {v : V} (h : i < xs.length) : (cutV xs none (some (i : Int)) ++ [v]) ++ cutV xs (some (((i : Int)) + 1)) none = xs.set i v := by
  have e1 : cutV xs none (some (i : Int)) = xs.take i := by
    unfold cutV
    rw [HT.sIx_nat, HT.sIx_none, Nat.min_eq_left (by omega)]; simp
  have e2 : cutV xs (some ((i : Int) + 1)) none = xs.drop (i + 1) := by
    rw [show ((i : Int) + 1) = ((i + 1 : Nat) : Int) by omega]
    exact cut_drop (by omega)
  rw [e1, e2, List.set_eq_take_append_cons_drop, if_pos h, List.append_assoc]; rfl
theorem sn_set {s : Int} {E i : Nat} {r : List Rat} {b : Rat} (h : Sc s E r) (hb : Sn s E b) : Sc s E (r.set i b) := sc_of fun x hx => by
  rcases List.mem_or_eq_of_mem_set hx with h1 | h1
  · exact sn_of h x h1
  · rw [h1]; exact hb
section
variable {P : Program} {w : World} {K : PySem.W.Frag} {mg : Str → Option Value} {base : Heap} {C : Addr}
theorem LMat.bar {H H' : Hp} {c L p D : Addr} {A : List (List Rat)} {xs : List V} (h : LMat K H c L p A) (b : Bar D H H') (hD : H D = some (.lst xs)) (ne : p ≠ D) : LMat K H' c L p A := by
  obtain ⟨h1, h2, ws, h3, h4⟩ := h
  exact ⟨h1, h2, ws, b _ _ ne h3, ImAll.mono (b.tk hD) _ h4⟩
theorem Cup.bar {c L D : Addr} {H H' : Hp} {n : Nat} (u : Cup H c L n) (b : Bar D H H') (h1 : D ≠ c) (h2 : D ≠ L) : Cup H' c L n := by
  obtain ⟨a, x, k, ns, hc, hL, r⟩ := u
  exact ⟨a, x, k, ns, b _ _ h1.symm hc, b _ _ h2.symm hL, r⟩
/-- the rows turned so far -/
def Turned (s : Int) (E size many : Nat) (M : List Rat) (Ts : List (List Rat)) : Prop := ∀ (j : Nat) (r : List Rat), Ts[j]? = some r → r.length = size ∧ Sc s E r ∧ dot M r = if j = many then 1 else 0
theorem Turned.snoc {s : Int} {E size many : Nat} {M : List Rat} {Ts : List (List Rat)} (h : Turned s E size many M Ts) {r : List Rat} (h1 : r.length = size) (h2 : Sc s E r) (h3 : dot M r = if Ts.length = many then 1 else 0) : Turned s E size many M (Ts ++ [r]) := fun j r' e => by
  by_cases hj : j < Ts.length
  · rw [List.getElem?_append_left hj] at e
    exact h j r' e
  · have := (List.getElem?_eq_some_iff.mp e).1
    rw [List.length_append] at this
    have ej : j = Ts.length := by simp at this; omega
    subst ej
    rw [List.getElem?_append_right (Nat.le_refl _), Nat.sub_self] at e
    simp at e
    subst e
    exact ⟨h1, h2, h3⟩

abbrev s__law_marked : Stmt := topS 45
theorem sc__law_marked : FnScope ["cup", "rows", "size", "place", "marks", "turned", "row", "total", "back", "turn"] ["cup", "rows", "size"] (defScope s__law_marked) := ⟨rfl, rfl, rfl, by decide +kernel, rfl, by decide +kernel, by decide +kernel⟩
def sp_marked (K : PySem.W.Frag) : Sp := fun vs H Q _ => ∃ (c L p : Addr) (rows : List (List Rat)) (size n : Nat) (u : Int) (E : Nat), vs = [.ref c, .ref p, .int size] ∧ LMat K H c L p rows ∧ 0 < size ∧ size ≤ 16 ∧ rows.length ≤ 16 ∧ (∀ r ∈ rows, r.length = size ∧ Sc (u * 42) E r) ∧ u ≠ 0 ∧ 168 * u.natAbs ≤ E ∧ E < 2 ^ 217 ∧ Cup H c L (n + 200) ∧
  ∀ B tgt M p' H', B.length = rows.length → (∀ r ∈ B, r.length = size ∧ Sc (42 * (u * 42)) (4096 * E) r) → tgt.length = size → Sc (42 * (u * 42)) (4096 * E) tgt → (∀ r ∈ B, dot M r = 0) → dot M tgt = 1 → LMat K H' c L p' (B ++ [tgt]) → Cup H' c L n → But c L H H' → Q (.ref p') H'
set_option maxHeartbeats 1000000 in
theorem ok__law_marked {f : Addr} {fd : FuncData} {k : Nat} (F : Fun K "_law_marked" "_law_marked" s__law_marked f fd) (T : Tx K mg C){k1 : Nat} (D__law_sip : Def P w K mg base k1 "_law_sip" s__law_sip ["cup", "many"] sp_sip) {k2 : Nat} (D__law_entry : Def P w K mg base k2 "_law_entry" s__law_entry ["cup", "great"] (sp_entry K)) {k3 : Nat} (D__law_total : Def P w K mg base k3 "_law_total" s__law_total ["ones", "others"] (sp_total K)) {k4 : Nat} (D__law_ratio : Def P w K mg base k4 "_law_ratio" s__law_ratio ["top", "bottom"] (sp_ratio K)) (e1 : k1 ≤ k) (e2 : k2 ≤ k) (e3 : k3 ≤ k) (e4 : k4 ≤ k) : FnOk P w K mg base CX0 (k + 1) f fd ["cup", "rows", "size"] (sp_marked K) := by
  have nd := sc__law_marked.nd
  refine F.ok sc__law_marked (fun vs H Q E h => ?_) (fun cdv A outer s H vs Q E hr h => ?_)
  · obtain ⟨_, _, _, _, _, _, _, _, rfl, _⟩ := h
    rfl
  · obtain ⟨c, L, p, rows, size, n, uu, Ec, rfl, lm, s0, s16, l16, hrows, u0, uE, E217, u, q⟩ := h
    refine ⟨_, (pss_cons (ps_set (i := 3) nd rfl (.inl rfl) (pe_def D__law_sip (hr.mono (by omega)) rfl (pa_cons (pv 0) (pa_cons (pv 2) pa_nil))))
      (pss_cons (ps_setLc (i := 4) (own := [("turn", 9)]) (g := gName 9) (tt := tYes) rfl nd rfl rfl (sw_true rfl rfl rfl (by decide +kernel)) (pi_range1 rfl T.m_range (pa_cons (pv 2) pa_nil)) (blkOk_by (by rfl)) (fun _ _ _ _ _ => (pg_name (i := 9) nd rfl (.inl rfl))) (fun _ _ _ _ _ => pts_nil) (fun _ _ _ _ _ => (pe_def D__law_entry (hr.mono (by omega)) rfl (pa_cons (pv 0) (pa_cons pe_bl pa_nil)))))
      (pss_cons (ps_asg (pe_tup (pa_cons pe_int (pa_cons pe_int pa_nil))) (pg_sub (pv 4) (pv 3) set_list))
      (pss_cons (ps_set (i := 5) nd rfl (.inl rfl) (pe_lst pa_nil))
      (pss_cons (ps_for PassesOwn.never rfl (kpi_list K (pe_op op_cat (pv 1) (pe_lst (pa_cons (pe_callTy (kcall_tuple K) (by rfl) T.m_tuple (by decide +kernel) (pa_cons (pe_lc (own := [("turn", 9)]) (g := gName 9) (tt := tYes) rfl nd (pi_range1 rfl T.m_range (pa_cons (pv 2) pa_nil)) (blkOk_by (by rfl)) (fun _ _ _ _ _ => (pg_name (i := 9) nd rfl (.inl rfl))) (fun _ _ _ _ _ => pts_nil) (fun _ _ _ _ _ => (pe_def D__law_entry (hr.mono (by omega)) rfl (pa_cons (pv 0) (pa_cons pe_bl pa_nil))))) pa_nil)) pa_nil)))) (pg_name (i := 6) nd rfl (.inl rfl))
        (pss_cons (ps_set (i := 7) nd rfl (.inl rfl) (pe_def D__law_total (hr.mono (by omega)) rfl (pa_cons (pv 4) (pa_cons (pv 6) pa_nil))))
        (pss_cons (ps_set (i := 8) nd rfl (.inl rfl) (pe_def D__law_ratio (hr.mono (by omega)) rfl (pa_cons (pe_un un_neg (pe_ix (kix_tup K) (pv 7) pe_int (fun _ _ => rfl))) (pa_cons (pe_ix (kix_tup K) (pv 7) pe_int (fun _ _ => rfl)) pa_nil))))
        (C8.pss_cut (ps_if (pt_cmpR op_eq (pe_callB (kcall_len K) (by rfl) T.m_len PySem.boot_len (pa_cons (pv 5) pa_nil)) (pe_callB (kcall_len K) (by rfl) T.m_len PySem.boot_len (pa_cons (pv 1) pa_nil)) (nomark _))
          (pss_one (ps_set (i := 8) nd rfl (.inl rfl) (pe_def D__law_ratio (hr.mono (by omega)) rfl (pa_cons (pe_op op_sub (pe_ix (kix_tup K) (pv 7) pe_int (fun _ _ => rfl)) (pe_ix (kix_tup K) (pv 7) pe_int (fun _ _ => rfl))) (pa_cons (pe_ix (kix_tup K) (pv 7) pe_int (fun _ _ => rfl)) pa_nil)))))
          pss_nil)
        (pss_one (ps_expr (pe_bm PySem.F.plainAttrs_list PySem.F.slot_list_append PySem.F.type_list_append mt_append (pv 5) (pa_cons (pe_op (kop_catA K) (pe_op (kop_catA K) (pe_slice (ksl_tupA K) (pv 6) po_none (po_some (pv 3))) (pe_tup (pa_cons (pv 8) pa_nil))) (pe_slice (ksl_tupA K) (pv 6) (po_some (pe_op op_add (pv 3) pe_int)) po_none)) pa_nil))))))))
      (pss_one (ps_ret (pv 5)))))))), ?_⟩
    refine ⟨.ref c, rfl, .int size, rfl, c, L, size, n + 199, rfl, u, by omega, by omega, fun pl0 H1 pl1 pl2 u1 b1 => ?_⟩
    obtain ⟨pl, rfl⟩ : ∃ x : Nat, pl0 = x := ⟨pl0.toNat, by omega⟩
    have lm1 := lm.but b1 u
    refine ⟨.int size, rfl, size, rfl, by omega, by omega, fun D hD => ?_⟩
    have ne := u1.ne hD
    refine lc_all (walk_range (lo := 0) (n := size)) (DrawI K c L D size 5 (n + 199 - 5 * size) (Ent false) H1) (draw_start (by rw [show n + 199 - 5 * size + 5 * size = n + 199 by omega]; exact u1) hD) (fun _ _ _ _ => trivial) (fun j x H5 H6 hj z y => ?_) (fun H2 z => ?_)
    · obtain ⟨rfl, rfl⟩ := y
      exact ⟨rfl, .ref c, rfl, c, L, false, _, rfl, z.cup hj, fun qq p H7 ip pq u7 b7 np => draw_step z hj (by omega) hD ne b7 u7 ip pq⟩
    · obtain ⟨m0, acc, lm0, pm0, b2, u2, eD, im0⟩ := z.done
      have lacc : acc.length = size := by rw [all_len im0]; exact lm0
      have lm2 := lm1.but b2 u1
      refine ⟨by show 2 ≤ sizeLine; decide, fun z0 hz0 => ?_⟩
      have sm3 : Same H2 (upd H2 z0 (.tup [.int 0, .int 1])) := same_new hz0
      have iz3 : Im K (upd H2 z0 (.tup [.int 0, .int 1])) (.ref z0) (rD 0) := rat_mk (q := 0) (.inl upd_same)
      generalize upd H2 z0 (.tup [.int 0, .int 1]) = G3 at *
      have eD3 := sm3 _ _ eD
      refine ⟨.ref D, rfl, .int pl, rfl, D, acc, pl, pl, rfl, rfl, eD3, ixN_nat (by omega), ?_⟩
      have b4 : Bar D G3 (upd G3 D (.lst (acc.set pl (.ref z0)))) := bar_upd
      have LM4 : LRow K (upd G3 D (.lst (acc.set pl (.ref z0)))) D (m0.set pl 0) := ⟨_, upd_same, ImAll.mono (tk_lst eD3) _ (all_set iz3 (ImAll.mono (tk_same sm3) _ im0))⟩
      have pD : p ≠ D := by
        obtain ⟨_, _, ws, h3, _⟩ := lm1
        exact ne_of_none h3 hD
      have lm4 := (lm2.same sm3).bar b4 eD3 pD
      have u4 := ((u2.same sm3).bar b4 ne.1 ne.2).less (show n + 100 ≤ n + 199 - 5 * size by omega)
      have bt4 : But c L H (upd G3 D (.lst (acc.set pl (.ref z0)))) := fun b o k1 k2 eb => by
        have h1 := b1 b o k1 k2 eb
        rw [upd_ne (ne_of_none h1 hD)]
        exact sm3 _ _ (b2 b o k1 k2 h1)
      generalize upd G3 D (.lst (acc.set pl (.ref z0))) = G4 at *
      refine ⟨by show 0 ≤ sizeLine; decide, fun tu htu => ?_⟩
      have sm5 : Same G4 (upd G4 tu (.lst [])) := same_new htu
      have etu5 : (upd G4 tu (.lst [])) tu = some (.lst []) := upd_same
      have netu := u4.ne htu
      have tuD : D ≠ tu := by
        obtain ⟨_, h3, _⟩ := LM4
        exact ne_of_none h3 htu
      have tup : p ≠ tu := by
        obtain ⟨_, _, ws, h3, _⟩ := lm4
        exact ne_of_none h3 htu
      have nottu : H tu = none := bt4.free u4 htu
      have LM5 := LM4.same sm5
      have lm5 := lm4.same sm5
      have u5 := u4.same sm5
      have bt5 := bt4.trans (but_same sm5)
      generalize upd G4 tu (.lst []) = G5 at *
      refine ⟨.ref p, rfl, .int size, rfl, size, rfl, by omega, by omega, fun D2 hD2 => ?_⟩
      have ne2 := u5.ne hD2
      refine lc_all (walk_range (lo := 0) (n := size)) (DrawI K c L D2 size 5 (n + 100 - 5 * size) (Ent false) G5) (draw_start (by rw [show n + 100 - 5 * size + 5 * size = n + 100 by omega]; exact u5) hD2) (fun _ _ _ _ => trivial) (fun j x H5 H6 hj z y => ?_) (fun H6 z => ?_)
      · obtain ⟨rfl, rfl⟩ := y
        exact ⟨rfl, .ref c, rfl, c, L, false, _, rfl, z.cup hj, fun qq p H7 ip pq u7 b7 np => draw_step z hj (by omega) hD2 ne2 b7 u7 ip pq⟩
      obtain ⟨e, acc2, le, pe, b6, u6, eD2, ie⟩ := z.done
      have lm6 := lm5.but b6 u5
      have LM6 : LRow K H6 D (m0.set pl 0) := by
        obtain ⟨ws, h3, h4⟩ := LM5
        exact ⟨ws, b6 _ _ ne.1 ne.2 h3, ImAll.mono (b6.tk u5) _ h4⟩
      have etu6 := b6 _ _ netu.1 netu.2 etu5
      have bt6 := bt5.trans b6
      refine ⟨D2, acc2, rfl, .inl ⟨.of eD2, fun l hl => ⟨by show 1 ≤ sizeLine; decide, fun l2 hl2 => ?_⟩⟩⟩
      have sm7 : Same H6 (upd H6 l (.tup acc2)) := same_new hl
      have il7 : Im K (upd H6 l (.tup acc2)) (.ref l) (vD e) := .tup (.inl upd_same) (ImAll.mono (tk_same sm7) _ ie)
      generalize upd H6 l (.tup acc2) = G7 at *
      have sm8 : Same G7 (upd G7 l2 (.lst [.ref l])) := same_new hl2
      have el8 : (upd G7 l2 (.lst [.ref l])) l2 = some (.lst [.ref l]) := upd_same
      generalize upd G7 l2 (.lst [.ref l]) = G8 at *
      have sm68 := sm7.trans sm8
      obtain ⟨nc, nL, ws, ew, iw⟩ := lm6.same sm68
      have lw : ws.length = rows.length := all_len iw
      refine ⟨p, l2, ws, [.ref l], rfl, rfl, ew, el8, Nat.le_of_lt (small1000 (by show ws.length + 1 ≤ 1000; omega)), fun Z hZ => ?_⟩
      have sm9 : Same G8 (upd G8 Z (.lst (ws ++ [.ref l]))) := same_new hZ
      have eZ : (upd G8 Z (.lst (ws ++ [.ref l]))) Z = some (.lst (ws ++ [.ref l])) := upd_same
      have Ztu : Z ≠ tu := (ne_of_none (sm68 _ _ etu6) hZ).symm
      generalize upd G8 Z (.lst (ws ++ [.ref l])) = G9 at *
      have sm69 := sm68.trans sm9
      have iZ : ImAll K G9 (ws ++ [.ref l]) ((rows ++ [e]).map vD) := by
        rw [List.map_append]
        exact (ImAll.mono (tk_same sm9) _ iw).snoc (Im.mono (tk_same (sm8.trans sm9)) _ il7)
      have LM9 := LM6.same sm69
      have ep9 := sm9 _ _ ew
      have etu9 := sm69 _ _ etu6
      have u9 := (u6.same sm69).less (show n ≤ n + 100 - 5 * size by omega)
      have bt9 := bt6.trans (but_same sm69)
      have hall : ∀ r ∈ rows ++ [e], r.length = size ∧ Sc (uu * 42) Ec r := by
        intro r hr
        rcases List.mem_append.mp hr with h | h
        · exact hrows r h
        · rw [List.mem_singleton.mp h]
          exact ⟨le, sc_up (sc_of (s := 42) (E := 168) pe) (by rw [Nat.mul_comm]; exact uE)⟩
      have hM0 : ∀ x ∈ m0.set pl 0, Sn 42 168 x := by
        intro x hx
        rcases List.mem_or_eq_of_mem_set hx with h1 | h1
        · exact pm0 x h1
        · rw [h1]; exact sn_zero _ _
      have s42 : (uu * 42).natAbs = uu.natAbs * 42 := Int.natAbs_mul _ _
      have hbt : ∀ r ∈ rows ++ [e], Sn (42 * (uu * 42)) (4096 * Ec) (-dot (m0.set pl 0) r) ∧ Sn (42 * (uu * 42)) (4096 * Ec) (1 - dot (m0.set pl 0) r) := by
        intro r hr
        obtain ⟨z, ez, bz⟩ := dot_sn hM0 (sn_of (hall r hr).2)
        have bz2 : z.natAbs ≤ 2688 * Ec := by
          refine Nat.le_trans bz ?_
          rw [List.length_set, lm0, ← Nat.mul_assoc]
          exact Nat.mul_le_mul_right _ (show size * 168 ≤ 2688 by omega)
        refine ⟨⟨-z, ?_, by rw [Int.natAbs_neg]; omega⟩, ⟨42 * (uu * 42) - z, ?_, ?_⟩⟩
        · rw [Rat.intCast_neg, ← ez]; grind
        · rw [Rat.intCast_sub, ← ez]; grind
        · have h1 := Int.natAbs_sub_le (42 * (uu * 42)) z
          have h2 : (42 * (uu * 42)).natAbs = 42 * (uu.natAbs * 42) := by rw [Int.natAbs_mul, s42]; rfl
          omega
      refine ⟨Z, rfl, ⟨_, .of eZ⟩, ?_⟩
      refine for_it (walk_list (xs := ws ++ [.ref l])) (fun i σ H2 => ∃ y6 y7 y8 y9 Ts acc, σ = [some (.ref c), some (.ref p), some (.int size), some (.int pl), some (.ref D), some (.ref tu), y6, y7, y8, y9] ∧ Bar tu G9 H2 ∧ H2 tu = some (.lst acc) ∧ ImAll K H2 acc (Ts.map vD) ∧ Ts.length = i ∧ Turned (42 * (uu * 42)) (4096 * Ec) size rows.length (m0.set pl 1) Ts) ⟨none, none, none, none, [], [], rfl, fun b o _ h => h, etu9, .nil, rfl, fun j r h => by simp at h⟩ (fun i σ H2 _ ⟨_, _, _, _, _, _, _, b, _⟩ => .of (b _ _ Ztu eZ)) ?_ ?_
      · rintro i x σ H2 H3 hi ⟨y6, y7, y8, y9, Ts, acc, rfl, b, etu, iT, lT, hT⟩ ⟨rfl, hx⟩
        have tk := b.tk etu9
        obtain ⟨r, hr', ir⟩ := all_get iZ hx
        have mr := List.mem_of_getElem? hr'
        obtain ⟨lr, scr⟩ := hall r mr
        have ir3 := Im.mono tk _ ir
        obtain ⟨xa, xs, rfl, hxa, hxs⟩ := vec_inv ir3
        have lxs : xs.length = size := by rw [all_len hxs]; exact lr
        have LM3 : LRow K H3 D (m0.set pl 0) := LM9.bar b tk tuD
        have br : ∀ y ∈ r, Bd 217 217 y := sc_bd scr (Int.mul_ne_zero u0 (by decide)) (by rw [s42]; omega) E217
        have bM : ∀ y ∈ m0.set pl 0, Bd 217 217 y := fun y hy => sn_bd (hM0 y hy) (by decide) (by decide) (by decide)
        refine ⟨.ref D, rfl, .ref xa, rfl, .ref D, .ref xa, m0.set pl 0, r, 217, rfl, rw_lst LM3, rw_tup ir3, by rw [List.length_set, lm0, lr], by rw [List.length_set]; omega, by decide, by decide, bM, br, fun pt tt b2 H4 sm4 np ep b0 tb bb eq => ?_⟩
        have bb2 : b2.natAbs < 2 ^ 9000 := lt_up bb (by
          rw [List.length_set, lm0]
          have : 2 * 217 * size ≤ 2 * 217 * 16 := Nat.mul_le_mul_left _ s16
          omega)
        have hpt : SqT K H4 pt [.int tt, .int b2] := .of ep
        refine ⟨.ref pt, rfl, pt, _, 0, _, rfl, rfl, hpt, atI_nat (j := 0) rfl, _, rfl, .ref pt, rfl, pt, _, 1, _, rfl, rfl, hpt, atI_nat (j := 1) rfl, -tt, b2, rfl, b0, bb2, fun p5 hp5 i5 => ?_⟩
        have eneg : Rat.divInt (-tt) b2 = -dot (m0.set pl 0) r := by rw [← eq, Rat.neg_divInt]
        have eone : Rat.divInt (b2 - tt) b2 = 1 - dot (m0.set pl 0) r := by
          have hb : (b2 : Rat) ≠ 0 := fun e => absurd (Rat.intCast_inj.mp (show (b2 : Rat) = ((0 : Int) : Rat) by simpa using e)) (by omega)
          rw [← eq, Rat.divInt_eq_div, Rat.divInt_eq_div, Rat.intCast_sub]
          grind
        rw [eneg] at i5 ⊢
        have sm5' : Same H4 (upd H4 p5 (.tup [.int (-dot (m0.set pl 0) r).num, .int ((-dot (m0.set pl 0) r).den : Int)])) := same_new hp5
        generalize upd H4 p5 (.tup [.int (-dot (m0.set pl 0) r).num, .int ((-dot (m0.set pl 0) r).den : Int)]) = G5' at *
        have sm35 := sm4.trans sm5'
        refine ⟨fun σ' H' => ∃ v bk y9, σ' = [some (.ref c), some (.ref p), some (.int size), some (.int pl), some (.ref D), some (.ref tu), some (.ref xa), some (.ref pt), some v, y9] ∧ Same H3 H' ∧ Im K H' v (rD bk) ∧ bk = (if i = rows.length then 1 else 0) - dot (m0.set pl 0) r ∧ Sn (42 * (uu * 42)) (4096 * Ec) bk, ?_, ?_⟩
        · have etu5' := sm35 _ _ etu
          have lacc' : acc.length = i := by rw [all_len iT]; exact lT
          refine ⟨.ref tu, rfl, tu, acc, rfl, .inl (.of etu5'), .ref p, rfl, p, ws, rfl, .inl (.of (sm35 _ _ (b _ _ tup ep9))), rfl, _, rfl, ?_⟩
          rw [lacc', lw]
          by_cases ei : i = rows.length
          · rw [decide_eq_true (show V.int (i : Nat) = V.int (rows.length : Nat) by rw [ei])]
            have hpt5 : SqT K G5' pt [.int tt, .int b2] := .of (sm5' _ _ ep)
            refine iteT ⟨.ref pt, rfl, pt, _, 1, _, rfl, rfl, hpt5, atI_nat (j := 1) rfl, .ref pt, rfl, pt, _, 0, _, rfl, rfl, hpt5, atI_nat (j := 0) rfl, _, _, rfl, rfl, .ref pt, rfl, pt, _, 1, _, rfl, rfl, hpt5, atI_nat (j := 1) rfl, b2 - tt, b2, rfl, b0, bb2, fun p6 hp6 i6 => ?_⟩
            rw [eone] at i6 ⊢
            refine ⟨_, _, _, rfl, sm35.trans (same_new hp6), i6, ?_, (hbt r mr).2⟩
            rw [if_pos ei]
          · rw [decide_eq_false (show ¬ V.int (i : Nat) = V.int (rows.length : Nat) from fun z => ei (by have := V.int.inj z; omega))]
            refine iteF ⟨_, _, _, rfl, sm35, i5, ?_, (hbt r mr).1⟩
            rw [if_neg ei]; grind
        · rintro σ' H' ⟨v, bk, z9, rfl, sm6', iv, ebk, sbk⟩
          have etu' := sm6' _ _ etu
          have hxa' := hxa.mono (tk_same sm6')
          refine ⟨.ref tu, rfl, .inl ⟨rfl, _, .of etu'⟩, .ref xa, rfl, .int pl, rfl, pl, rfl, ?_⟩
          refine sl_any hxa' fun q1 K1 sk1 iq1 => ?_
          refine ⟨v, rfl, by show 1 ≤ sizeLine; decide, fun T' hT' => ?_⟩
          have sk2 : Same K1 (upd K1 T' (.tup [v])) := same_new hT'
          have iq1' := iq1.mono (tk_same sk2)
          have lc1 := cutV_length xs none (some (pl : Int))
          refine cat_any iq1' (.inl upd_same) (by show _ + 1 ≤ 1000; omega) fun q2 K2 sk3 iq2 => ?_
          have sk13 := (sk1.trans sk2).trans sk3
          refine ⟨.ref xa, rfl, .int pl, rfl, _, _, rfl, rfl, _, rfl, ?_⟩
          refine ⟨xa, xs, rfl, (hxa'.mono (tk_same sk13)).sq, fun w => absurd w.1 (by rw [show ((pl : Int) + 1) = ((pl + 1 : Nat) : Int) by omega, HT.sIx_nat]; omega), fun _ q3 hq3 => ?_⟩
          have sk4 : Same K2 (upd K2 q3 (.tup (cutV xs (some ((pl : Int) + 1)) none))) := same_new hq3
          have iq3 : ITup K (upd K2 q3 (.tup (cutV xs (some ((pl : Int) + 1)) none))) q3 (cutV xs (some ((pl : Int) + 1)) none) := .inl upd_same
          have lc3 := cutV_length xs (some ((pl : Int) + 1)) none
          refine cat_any (iq2.mono (tk_same sk4)) iq3 (by rw [List.length_append]; show (_ + 1) + _ ≤ 1000; omega) fun q4 K4 sk5 iq4 => ?_
          rw [set_cut (by omega)] at iq4
          have sk15 := (sk13.trans sk4).trans sk5
          have etu4 := sk15 _ _ etu'
          have sk05 := sm6'.trans sk15
          have lacc' : acc.length = i := by rw [all_len iT]; exact lT
          have ir4 : Im K K4 (.ref q4) (vD (r.set pl bk)) := .tup iq4 (all_set (Im.mono (tk_same sk15) _ iv) (ImAll.mono (tk_same sk05) _ hxs))
          refine ⟨tu, acc, .ref q4, rfl, rfl, etu4, small1000 (by rw [List.length_append] at hi; rw [lacc']; have : [V.ref l].length = 1 := rfl; omega), _, _, _, _, Ts ++ [r.set pl bk], _, rfl, (b.trans (bar_same sk05)).trans bar_upd, upd_same, ?_, by rw [List.length_append, lT]; rfl, hT.snoc (by rw [List.length_set]; exact lr) (sn_set (sc_up scr (by show 42 * Ec ≤ 4096 * Ec; omega)) sbk) ?_⟩
          · rw [List.map_append]
            exact (ImAll.mono ((tk_same sk05).trans (tk_lst etu4)) _ iT).snoc (Im.mono (tk_lst etu4) _ ir4)
          · rw [dot_set (by omega) (by omega), ebk, lT]; grind
      · rintro σ H2 ⟨y6, y7, y8, y9, Ts, acc, rfl, b, etu, iT, lT, hT⟩
        have lT' : Ts.length = rows.length + 1 := by rw [lT, List.length_append, lw]; rfl
        have hg : Ts[rows.length]? = some (Ts[rows.length]'(by omega)) := List.getElem?_eq_getElem (by omega)
        generalize Ts[rows.length]'(by omega) = tgt at hg
        have eT : Ts = Ts.take rows.length ++ [tgt] := by
          have h1 := List.take_add_one (l := Ts) (i := rows.length)
          rw [hg, List.take_of_length_le (by omega)] at h1
          exact h1
        obtain ⟨t1, t2, t3⟩ := hT _ _ hg
        rw [if_pos rfl] at t3
        have hB : ∀ r ∈ Ts.take rows.length, r.length = size ∧ Sc (42 * (uu * 42)) (4096 * Ec) r ∧ dot (m0.set pl 1) r = 0 := by
          intro r hr
          obtain ⟨j, hj⟩ := List.mem_iff_getElem?.mp hr
          rw [List.getElem?_take] at hj
          by_cases hj2 : j < rows.length
          · rw [if_pos hj2] at hj
            obtain ⟨a1, a2, a3⟩ := hT _ _ hj
            rw [if_neg (by omega)] at a3
            exact ⟨a1, a2, a3⟩
          · rw [if_neg hj2] at hj; cases hj
        refine ⟨.ref tu, rfl, q (Ts.take rows.length) tgt (m0.set pl 1) tu H2 (by rw [List.length_take]; omega) (fun r hr => ⟨(hB r hr).1, (hB r hr).2.1⟩) t1 t2 (fun r hr => (hB r hr).2.2) t3 ⟨netu.1, netu.2, acc, etu, by rw [← eT]; exact iT⟩ (u9.bar b netu.1 netu.2) fun x o k1 k2 ex => ?_⟩
        exact b x o (ne_of_none ex nottu) (bt9 x o k1 k2 ex)
end
end K39

set_option Elab.async false
set_option linter.all false
set_option maxRecDepth 100000
set_option exponentiation.threshold 20000
namespace K39
open PySem PySem.Spec PyProof.Rows L2 Ly Mt El
theorem sn_mk {N t bo c : Int} (h : bo * c = N) (h0 : bo ≠ 0) : Sn N (t * c).natAbs (Rat.divInt t bo) := by
  have hb : (bo : Rat) ≠ 0 := fun e => h0 (Rat.intCast_inj.mp (by simpa using e))
  have h2 : (bo : Rat) * (c : Rat) = (N : Rat) := by rw [← h, Rat.intCast_mul]
  refine ⟨t * c, ?_, Nat.le_refl _⟩
  rw [Rat.divInt_eq_div, Rat.intCast_mul, ← h2]
  grind
theorem sn_le {s : Int} {E F : Nat} {x : Rat} (h : Sn s E x) (l : E ≤ F) : Sn s F x := by
  obtain ⟨z, e, b⟩ := h
  exact ⟨z, e, by omega⟩
theorem sn_int (s i : Int) : Sn s (s * i).natAbs (i : Rat) := ⟨s * i, by rw [Rat.intCast_mul], Nat.le_refl _⟩
theorem int_mk' {K : PySem.W.Frag} {H : Hp} {p : Addr} {i : Int} (h : ITup K H p [.int i, .int 1]) : Im K H (.ref p) (rD (i : Rat)) := rat_mk (q := (i : Rat)) h
section
variable {P : Program} {w : World} {K : PySem.W.Frag} {mg : Str → Option Value} {base : Heap} {C : Addr}
theorem LVec.same {H H' : Hp} {c L p : Addr} {A : List Rat} (h : LVec K H c L p A) (b : Same H H') : LVec K H' c L p A := ⟨h.1, h.2.1, h.2.2.same b⟩
theorem LMat.fresh {H : Hp} {c L p D : Addr} {A : List (List Rat)} {o : HO} {xs : List V} (h : LMat K H c L p A) (hD : H D = some (.lst xs)) (n : p ≠ D) : LMat K (upd H D o) c L p A := h.bar bar_upd hD n

abbrev s__law_wide : Stmt := topS 42
theorem sc__law_wide : FnScope ["cup", "size", "start", "back", "rows", "k", "row"] ["cup"] (defScope s__law_wide) := ⟨rfl, rfl, rfl, by decide +kernel, rfl, by decide +kernel, by decide +kernel⟩
def sp_wide (K : PySem.W.Frag) : Sp := fun vs H Q _ => ∃ (c L : Addr) (n : Nat), vs = [.ref c] ∧ Cup H c L (n + 1000) ∧ ∀ A size p H', A.length ≤ 48 → size ≤ 48 → (∀ r ∈ A, r.length = size ∧ Sc 6 24 r) → Im K H' (.ref p) (mD A) → Cup H' c L n → But c L H H' → Q (.ref p) H'
set_option maxHeartbeats 1000000 in
theorem ok__law_wide {f : Addr} {fd : FuncData} {k : Nat} (F : Fun K "_law_wide" "_law_wide" s__law_wide f fd) (T : Tx K mg C){k1 : Nat} (D__law_sip : Def P w K mg base k1 "_law_sip" s__law_sip ["cup", "many"] sp_sip) {k2 : Nat} (D__law_ratio : Def P w K mg base k2 "_law_ratio" s__law_ratio ["top", "bottom"] (sp_ratio K)) (e1 : k1 ≤ k) (e2 : k2 ≤ k) : FnOk P w K mg base CX0 (k + 1) f fd ["cup"] (sp_wide K) := by
  have nd := sc__law_wide.nd
  refine F.ok sc__law_wide (fun vs H Q E h => ?_) (fun cdv A outer s H vs Q E hr h => ?_)
  · obtain ⟨_, _, _, rfl, _⟩ := h
    rfl
  · obtain ⟨c, L, n, rfl, u, q⟩ := h
    refine ⟨_, (pss_cons (ps_set (i := 1) nd rfl (.inl rfl) (pe_op op_sub pe_int (pe_def D__law_sip (hr.mono (by omega)) rfl (pa_cons (pv 0) (pa_cons pe_int pa_nil)))))
      (pss_cons (ps_par (i := 2) (j := 3) (by rfl) nd rfl rfl (by decide) rfl rfl (pa_cons (pe_def D__law_sip (hr.mono (by omega)) rfl (pa_cons (pv 0) (pa_cons (pv 1) pa_nil))) (pa_cons (pe_def D__law_sip (hr.mono (by omega)) rfl (pa_cons (pv 0) (pa_cons pe_int pa_nil))) pa_nil)) (by rfl))
      (pss_cons (ps_set (i := 4) nd rfl (.inl rfl) (pe_lst pa_nil))
      (pss_cons (ps_for PassesOwn.never rfl (pi_range1 rfl T.m_range (pa_cons (pv 1) pa_nil)) (pg_name (i := 5) nd rfl (.inl rfl))
        (pss_cons (ps_set (i := 6) nd rfl (.inl rfl) (pe_op op_rep (pe_lst (pa_cons (pe_tup (pa_cons pe_int (pa_cons pe_int pa_nil))) pa_nil)) (pv 1)))
        (pss_cons (ps_asg (pe_def D__law_ratio (hr.mono (by omega)) rfl (pa_cons (pe_op op_add pe_int (pe_def D__law_sip (hr.mono (by omega)) rfl (pa_cons (pv 0) (pa_cons pe_int pa_nil)))) (pa_cons (pe_op op_add pe_int (pe_def D__law_sip (hr.mono (by omega)) rfl (pa_cons (pv 0) (pa_cons pe_int pa_nil)))) pa_nil))) (pg_sub (pv 6) (pe_op op_modN (pe_callTy call_int1 (by rfl) T.m_int (by decide +kernel) (pa_cons (pe_op op_add (pv 2) (pe_ix (kix_list K) (pe_lst (pa_cons (pv 5) (pa_cons (pe_op op_sub (pv 1) (pv 5)) pa_nil))) (pv 3) (fun _ _ => rfl))) pa_nil)) (pv 1)) set_list))
        (C8.pss_cut (ps_if (pt_cmpR op_eq (pe_op op_modN (pe_callTy call_int1 (by rfl) T.m_int (by decide +kernel) (pa_cons (pv 5) pa_nil)) pe_int) pe_int (nomark _))
          (pss_one (ps_asg (pe_tup (pa_cons (pe_op op_sub (pe_def D__law_sip (hr.mono (by omega)) rfl (pa_cons (pv 0) (pa_cons pe_int pa_nil))) pe_int) (pa_cons pe_int pa_nil))) (pg_sub (pv 6) (pe_op op_modN (pe_callTy call_int1 (by rfl) T.m_int (by decide +kernel) (pa_cons (pe_op op_add (pv 2) (pe_ix (kix_list K) (pe_lst (pa_cons (pe_op op_add (pv 5) pe_int) (pa_cons (pe_op op_sub (pe_op op_sub (pv 1) (pv 5)) pe_int) pa_nil))) (pv 3) (fun _ _ => rfl))) pa_nil)) (pv 1)) set_list)))
          pss_nil)
        (pss_one (ps_if (pt_cmpR op_gt (pe_def D__law_sip (hr.mono (by omega)) rfl (pa_cons (pv 0) (pa_cons pe_int pa_nil))) pe_int (nomark _))
          (pss_one (ps_expr (pe_bm PySem.F.plainAttrs_list PySem.F.slot_list_append PySem.F.type_list_append mt_append (pv 4) (pa_cons (pe_callTy (kcall_tuple K) (by rfl) T.m_tuple (by decide +kernel) (pa_cons (pv 6) pa_nil)) pa_nil))))
          pss_nil))))))
      (pss_one (ps_ret (pe_callTy (kcall_tuple K) (by rfl) T.m_tuple (by decide +kernel) (pa_cons (pv 4) pa_nil)))))))), ?_⟩
    refine ⟨.ref c, rfl, c, L, 9, n + 999, rfl, u, by decide, by decide, fun d0 H1 d00 d09 u1 b1 => ⟨_, _, rfl, rfl, ?_⟩⟩
    obtain ⟨size, es⟩ : ∃ x : Nat, (48 : Int) - d0 = x := ⟨((48 : Int) - d0).toNat, by omega⟩
    have s0 : 0 < size := by omega
    have s48 : size ≤ 48 := by omega
    change gName 1 (.int ((48 : Int) - d0)) _ _ _
    rw [es]
    refine ⟨.ref c, rfl, .int size, rfl, c, L, size, n + 998, rfl, u1, by omega, by omega, fun st H2 st0 st1 u2 b2 => ?_⟩
    refine ⟨.ref c, rfl, c, L, 2, n + 997, rfl, u2, by decide, by decide, fun bk H3 bk0 bk1 u3 b3 => ⟨_, _, rfl, ?_⟩⟩
    refine ⟨by show 0 ≤ sizeLine; decide, fun e he => ?_⟩
    have ne := u3.ne he
    have bt3 := (b1.trans b2).trans b3
    have hH : H e = none := bt3.free u3 he
    refine ⟨.int size, rfl, size, rfl, by omega, by omega, ?_⟩
    refine for_it (walk_range (lo := 0) (n := size)) (fun i σ H4 => ∃ y5 y6 B, σ = [some (.ref c), some (.int size), some (.int st), some (.int bk), some (.ref e), y5, y6] ∧ B.length ≤ i ∧ (∀ r ∈ B, r.length = size ∧ Sc 6 24 r) ∧ LMat K H4 c L e B ∧ But c L H H4 ∧ Cup H4 c L (n + 10 * (size - i))) ⟨none, none, [], rfl, Nat.le_refl _, fun _ h => by simp at h, ⟨ne.1, ne.2, [], upd_same, .nil⟩, bt3.trans (but_same (same_new he)), (u3.same (same_new he)).less (by omega)⟩ (fun _ _ _ _ _ => trivial) ?_ ?_
    · rintro i x σ H4 H5 hi ⟨y5, y6, B, rfl, lB, hB, lm, bt, u4⟩ ⟨rfl, rfl⟩
      have ef : 10 * (size - i) = 10 * (size - (i + 1)) + 10 := by omega
      rw [ef] at u4
      generalize hR : n + 10 * (size - (i + 1)) = R at *
      replace u4 : Cup H5 c L (R + 9 + 1) := by rw [← hR]; exact u4
      have k0 : ((0 : Int) + (i : Nat)) = ((i : Nat) : Int) := by omega
      refine ⟨by show 2 ≤ sizeLine; decide, fun z0 hz0 => ⟨by show 1 ≤ sizeLine; decide, fun l hl => ?_⟩⟩
      have sm1 : Same H5 (upd H5 z0 (.tup [.int 0, .int 1])) := same_new hz0
      have iz : Im K (upd H5 z0 (.tup [.int 0, .int 1])) (.ref z0) (rD 0) := rat_mk (q := 0) (.inl upd_same)
      generalize upd H5 z0 (.tup [.int 0, .int 1]) = G1 at *
      have sm2 : Same G1 (upd G1 l (.lst [.ref z0])) := same_new hl
      have el : (upd G1 l (.lst [.ref z0])) l = some (.lst [.ref z0]) := upd_same
      generalize upd G1 l (.lst [.ref z0]) = G2 at *
      refine ⟨.int size, rfl, l, (size : Nat), _, rfl, rfl, el, by omega, by omega, ?_, fun rr hrr => ?_⟩
      · show 1 * ((size : Int)).toNat ≤ sizeLine
        have := small1000 (show size ≤ 1000 by omega)
        rw [Nat.one_mul]
        show size ≤ sizeLine
        omega
      have sm3 : Same G2 (upd G2 rr (.lst (List.replicate ((size : Int)).toNat [V.ref z0]).flatten)) := same_new hrr
      have er : (upd G2 rr (.lst (List.replicate ((size : Int)).toNat [V.ref z0]).flatten)) rr = some (.lst (List.replicate size (V.ref z0))) := by
        rw [upd_same]
        show some (HO.lst (List.replicate size [V.ref z0]).flatten) = _
        rw [flat1]
      have s12 := sm1.trans sm2
      have lm2 := lm.same s12
      have u2' := u4.same s12
      have ner := u2'.ne hrr
      have enr : e ≠ rr := by
        obtain ⟨_, _, ws, h3, _⟩ := lm2
        exact ne_of_none h3 hrr
      generalize upd G2 rr (.lst (List.replicate ((size : Int)).toNat [V.ref z0]).flatten) = G3 at *
      have s13 := s12.trans sm3
      have lv3 : LVec K G3 c L rr (List.replicate size 0) := ⟨ner.1, ner.2, _, er, all_rep (f := rD) (a := 0) (Im.mono (tk_same (sm2.trans sm3)) _ iz) size⟩
      have lm3 := lm.same s13
      have u3' := u4.same s13
      have bt3' := bt.trans (but_same s13)
      have hrrH : H rr = none := (bt.trans (but_same s12)).free u2' hrr
      -- a write of the row
      have write : ∀ {Ha : Hp} {r : List Rat} {y : Rat} {v : V} {j : Nat}, LVec K Ha c L rr r → LMat K Ha c L e B → But c L H Ha → Im K Ha v (rD y) → Sn 6 24 y → r.length = size → Sc 6 24 r → j < size → ∃ xs, Ha rr = some (.lst xs) ∧ xs.length = size ∧ LVec K (upd Ha rr (.lst (xs.set j v))) c L rr (r.set j y) ∧ LMat K (upd Ha rr (.lst (xs.set j v))) c L e B ∧ But c L H (upd Ha rr (.lst (xs.set j v))) ∧ (r.set j y).length = size ∧ Sc 6 24 (r.set j y) ∧ ∀ m, Cup Ha c L m → Cup (upd Ha rr (.lst (xs.set j v))) c L m := by
        rintro Ha r y v j ⟨h1, h2, xs, h3, h4⟩ lm bt iv sy lr scr hj
        refine ⟨xs, h3, by rw [all_len h4]; exact lr, ⟨h1, h2, _, upd_same, ImAll.mono (tk_lst h3) _ (all_set iv h4)⟩, lm.fresh h3 enr, fun b o k1 k2 eb => ?_, by rw [List.length_set]; exact lr, sn_set scr sy, fun m u => u.upd h1 h2⟩
        rw [upd_ne (ne_of_none eb hrrH)]
        exact bt b o k1 k2 eb
      refine ⟨.ref c, rfl, c, L, 4, R + 9, rfl, u3', by decide, by decide, fun a1 H6 a10 a11 u6 b6 => ⟨_, _, rfl, rfl, .ref c, rfl, c, L, 3, R + 8, rfl, u6, by decide, by decide, fun a2 H7 a20 a21 u7 b7 => ⟨_, _, rfl, rfl, 1 + a1, 1 + a2, rfl, by omega, lt_up (show (1 + a2).natAbs < 2 ^ 2 by omega) (by decide), fun p8 hp8 i8 => ?_⟩⟩⟩
      have sn8 : Sn 6 24 (Rat.divInt (1 + a1) (1 + a2)) := by
        have : a2 = 0 ∨ a2 = 1 ∨ a2 = 2 := by omega
        rcases this with rfl | rfl | rfl
        · exact sn_le (sn_mk (c := 6) (by decide) (by decide)) (by omega)
        · exact sn_le (sn_mk (c := 3) (by decide) (by decide)) (by omega)
        · exact sn_le (sn_mk (c := 2) (by decide) (by decide)) (by omega)
      generalize Rat.divInt (1 + a1) (1 + a2) = y8 at *
      have sm8 : Same H7 (upd H7 p8 (.tup [.int y8.num, .int (y8.den : Int)])) := same_new hp8
      have lv8 := ((lv3.but b6 u3').but b7 u6).same sm8
      have lm8 := ((lm3.but b6 u3').but b7 u6).same sm8
      have u8 := u7.same sm8
      have bt8 := ((bt3'.trans b6).trans b7).trans (but_same sm8)
      generalize upd H7 p8 (.tup [.int y8.num, .int (y8.den : Int)]) = G8 at *
      refine ⟨.ref rr, rfl, .int st, rfl, .int ((0 : Int) + (i : Nat)), rfl, .int size, rfl, .int ((0 : Int) + (i : Nat)), rfl, _, _, rfl, rfl, by show 2 ≤ sizeLine; decide, fun l9 hl9 => ?_⟩
      have sm9 : Same G8 (upd G8 l9 (.lst [.int ((0 : Int) + (i : Nat)), .int ((size : Int) - ((0 : Int) + (i : Nat)))])) := same_new hl9
      have el9 : (upd G8 l9 (.lst [.int ((0 : Int) + (i : Nat)), .int ((size : Int) - ((0 : Int) + (i : Nat)))])) l9 = some (.lst [.int ((0 : Int) + (i : Nat)), .int ((size : Int) - ((0 : Int) + (i : Nat)))]) := upd_same
      generalize upd G8 l9 (.lst [.int ((0 : Int) + (i : Nat)), .int ((size : Int) - ((0 : Int) + (i : Nat)))]) = G9 at *
      obtain ⟨o9, g9⟩ : ∃ o9 : Int, atI [V.int ((0 : Int) + (i : Nat)), V.int ((size : Int) - ((0 : Int) + (i : Nat)))] bk = some (V.int o9) := by
        have : bk = 0 ∨ bk = 1 := by omega
        rcases this with rfl | rfl
        · exact ⟨_, rfl⟩
        · exact ⟨_, rfl⟩
      have fm := fmod_in (x := st + o9) (m := (size : Int)) (by omega)
      obtain ⟨j9, ej9⟩ : ∃ x : Nat, (st + o9).fmod (size : Int) = x := ⟨((st + o9).fmod (size : Int)).toNat, by omega⟩
      obtain ⟨xs9, ex9, lx9, lv10, lm10, bt10, len10, sc10, cup10⟩ := write (lv8.same sm9) (lm8.same sm9) (bt8.trans (but_same sm9)) (Im.mono (tk_same sm9) _ i8) sn8 (by rw [List.length_replicate]) (sc_of fun x hx => by rw [(List.mem_replicate.mp hx).2]; exact sn_zero _ _) (show j9 < size by omega)
      have u10 := cup10 _ (u8.same sm9)
      refine ⟨.int bk, rfl, l9, _, bk, _, rfl, rfl, .of el9, g9, _, _, rfl, rfl, .inl ⟨_, rfl, .int size, rfl, _, _, rfl, rfl, (by show (size : Int) ≠ 0; omega), rr, xs9, _, j9, rfl, rfl, ex9, by rw [ej9]; exact ixN_nat (by omega), ?_⟩⟩
      generalize upd G9 rr (.lst (xs9.set j9 (.ref p8))) = G10 at *
      generalize (List.replicate size (0 : Rat)).set j9 y8 = r10 at *
      refine ⟨fun σ' H' => ∃ r, σ' = [some (.ref c), some (.int size), some (.int st), some (.int bk), some (.ref e), some (.int ((0 : Int) + (i : Nat))), some (.ref rr)] ∧ LVec K H' c L rr r ∧ LMat K H' c L e B ∧ But c L H H' ∧ Cup H' c L (R + 2) ∧ r.length = size ∧ Sc 6 24 r, ?_, ?_⟩
      · refine ⟨.int ((0 : Int) + (i : Nat)), rfl, .inl ⟨_, rfl, _, _, rfl, rfl, (by show (2 : Int) ≠ 0; decide), rfl, _, rfl, ?_⟩⟩
        generalize decide (V.int (((0 : Int) + (i : Nat)).fmod 2) = V.int 0) = bb
        cases bb with
        | false => exact iteF ⟨_, rfl, lv10, lm10, bt10, u10.less (by omega), len10, sc10⟩
        | true =>
          refine iteT ⟨.ref c, rfl, c, L, 3, R + 7, rfl, u10, by decide, by decide, fun a3 H11 a30 a31 u11 b11 => ⟨_, _, rfl, rfl, by show 2 ≤ sizeLine; decide, fun p12 hp12 => ?_⟩⟩
          have sm12 : Same H11 (upd H11 p12 (.tup [.int (a3 - 1), .int 1])) := same_new hp12
          have i12 : Im K (upd H11 p12 (.tup [.int (a3 - 1), .int 1])) (.ref p12) (rD ((a3 - 1 : Int) : Rat)) := int_mk' (.inl upd_same)
          generalize upd H11 p12 (.tup [.int (a3 - 1), .int 1]) = G12 at *
          refine ⟨.ref rr, rfl, .int st, rfl, .int ((0 : Int) + (i : Nat)), rfl, _, _, rfl, rfl, .int size, rfl, .int ((0 : Int) + (i : Nat)), rfl, _, _, rfl, rfl, _, _, rfl, rfl, by show 2 ≤ sizeLine; decide, fun l13 hl13 => ?_⟩
          have sm13 : Same G12 (upd G12 l13 (.lst [.int ((0 : Int) + (i : Nat) + 1), .int ((size : Int) - ((0 : Int) + (i : Nat)) - 1)])) := same_new hl13
          have el13 : (upd G12 l13 (.lst [.int ((0 : Int) + (i : Nat) + 1), .int ((size : Int) - ((0 : Int) + (i : Nat)) - 1)])) l13 = some (.lst [.int ((0 : Int) + (i : Nat) + 1), .int ((size : Int) - ((0 : Int) + (i : Nat)) - 1)]) := upd_same
          generalize upd G12 l13 (.lst [.int ((0 : Int) + (i : Nat) + 1), .int ((size : Int) - ((0 : Int) + (i : Nat)) - 1)]) = G13 at *
          obtain ⟨o13, g13⟩ : ∃ o9 : Int, atI [V.int ((0 : Int) + (i : Nat) + 1), V.int ((size : Int) - ((0 : Int) + (i : Nat)) - 1)] bk = some (V.int o9) := by
            have : bk = 0 ∨ bk = 1 := by omega
            rcases this with rfl | rfl
            · exact ⟨_, rfl⟩
            · exact ⟨_, rfl⟩
          have fm2 := fmod_in (x := st + o13) (m := (size : Int)) (by omega)
          obtain ⟨j13, ej13⟩ : ∃ x : Nat, (st + o13).fmod (size : Int) = x := ⟨((st + o13).fmod (size : Int)).toNat, by omega⟩
          have s1213 := sm12.trans sm13
          obtain ⟨xs13, ex13, lx13, lv14, lm14, bt14, len14, sc14, cup14⟩ := write ((lv10.but b11 u10).same s1213) ((lm10.but b11 u10).same s1213) ((bt10.trans b11).trans (but_same s1213)) (Im.mono (tk_same sm13) _ i12) (sn_le (sn_int 6 (a3 - 1)) (by omega)) len10 sc10 (show j13 < size by omega)
          exact ⟨.int bk, rfl, l13, _, bk, _, rfl, rfl, .of el13, g13, _, _, rfl, rfl, .inl ⟨_, rfl, .int size, rfl, _, _, rfl, rfl, (by show (size : Int) ≠ 0; omega), rr, xs13, _, j13, rfl, rfl, ex13, by rw [ej13]; exact ixN_nat (by omega), _, rfl, lv14, lm14, bt14, (cup14 _ (u11.same s1213)).less (by omega), len14, sc14⟩⟩
      · rintro σ' H' ⟨r, rfl, lv', lm', bt', u', len', sc'⟩
        refine ⟨.ref c, rfl, c, L, 12, R + 1, rfl, u', by decide, by decide, fun a4 H15 a40 a41 u15 b15 => ⟨_, _, rfl, rfl, _, rfl, ?_⟩⟩
        have lv15 := lv'.but b15 u'
        have lm15 := lm'.but b15 u'
        have bt15 := bt'.trans b15
        by_cases h4 : a4 > 0
        · rw [decide_eq_true h4]
          obtain ⟨_, _, xs, ex, ix⟩ := lv15
          refine iteT ⟨.ref e, rfl, .inl ⟨rfl, _, .of lm15.2.2.choose_spec.1⟩, .ref rr, rfl, rr, xs, rfl, .inl ⟨.of ex, fun l16 hl16 => ?_⟩⟩
          have sm16 : Same H15 (upd H15 l16 (.tup xs)) := same_new hl16
          have i16 : Im K (upd H15 l16 (.tup xs)) (.ref l16) (vD r) := .tup (.inl upd_same) (ImAll.mono (tk_same sm16) _ ix)
          obtain ⟨nc, nL, ws, ew, iw⟩ := lm15.same sm16
          have u16 := u15.same sm16
          have lw : ws.length = B.length := all_len iw
          refine ⟨e, ws, .ref l16, rfl, rfl, ew, small1000 (by omega), _, _, B ++ [r], rfl, by rw [List.length_append]; show _ + 1 ≤ _; omega, fun y hy => ?_, ⟨nc, nL, _, upd_same, ?_⟩, fun b o k1 k2 eb => ?_, ?_⟩
          · rcases List.mem_append.mp hy with h | h
            · exact hB y h
            · rw [List.mem_singleton.mp h]; exact ⟨len', sc'⟩
          · rw [List.map_append]
            exact (ImAll.mono (tk_lst ew) _ iw).snoc (Im.mono (tk_lst ew) _ i16)
          · rw [upd_ne (ne_of_none eb hH)]
            exact sm16 _ _ (bt15 b o k1 k2 eb)
          · exact (u16.less (by omega)).upd nc nL
        · rw [decide_eq_false h4]
          exact iteF ⟨_, _, B, rfl, by omega, hB, lm15, bt15, u15.less (by omega)⟩
    · rintro σ H4 ⟨y5, y6, B, rfl, lB, hB, ⟨nc, nL, ws, ew, iw⟩, bt, u4⟩
      refine ⟨.ref e, rfl, e, ws, rfl, .inl ⟨.of ew, fun l hl => q B size l _ (by omega) s48 hB (.tup (.inl upd_same) (ImAll.mono (tk_new hl) _ iw)) ((u4.same (same_new hl)).less (by omega)) (bt.trans (but_same (same_new hl)))⟩⟩
end
end K39

set_option Elab.async false
set_option linter.all false
set_option maxRecDepth 100000
set_option exponentiation.threshold 20000
namespace K39
open PySem PySem.Spec PyProof.Rows L2 Ly Mt El
theorem task_mk {s : Int} {E m size : Nat} {rows : List (List Rat)} (s0 : s ≠ 0) (sE : s.natAbs ≤ E) (h : ∀ r ∈ rows, r.length = size ∧ Sc s E r) (few : rows.length ≤ m) (m1 : 1 ≤ m) (E1 : 1 ≤ E) (big : (m + 1) * (E * (m * E) ^ m) < 2 ^ 2900) (l48 : m ≤ 48) (n48 : size ≤ 48) : Task s E m size rows :=
  ⟨⟨s0, sE, fun r hr => (h r hr).1, fun r hr => (h r hr).2, few, m1, E1⟩, big, by omega, n48⟩
theorem last_at {ws : List V} {v : V} {k : Nat} (h : ws.length = k + 1) (hv : ws[k]? = some v) : atI ws (-1) = some v := by
  unfold atI ixN
  rw [if_neg (by decide), if_pos (by omega)]
  show ws[((-1 : Int) + (ws.length : Nat)).toNat]? = some v
  rw [show ((-1 : Int) + (ws.length : Nat)).toNat = k by omega]
  exact hv
theorem cut_last {ws : List V} {k : Nat} (h : ws.length = k + 1) : cutV ws none (some (-1)) = ws.take k := by
  unfold cutV
  rw [HT.sIx_none]
  have e : HT.sIx ws.length ws.length (some (-1)) = k := by
    show (if (-1 : Int) < 0 then ((-1 : Int) + (ws.length : Int)).toNat else min ((-1 : Int)).toNat ws.length) = k
    rw [if_pos (by decide)]; omega
  rw [e, List.drop_zero, Nat.sub_zero]
theorem all_take {K : PySem.W.Frag} {H : Hp} {α : Type} {f : α → PyData} : ∀ {xs : List V} {l : List α} {n : Nat}, ImAll K H xs (l.map f) → ImAll K H (xs.take n) ((l.take n).map f)
  | xs, l, 0, _ => .nil
  | [], [], n + 1, _ => .nil
  | x :: xs, [], n + 1, h => by cases h
  | [], a :: l, n + 1, h => by cases h
  | x :: xs, a :: l, n + 1, h => by
    cases h with | cons k r => exact .cons k (all_take (xs := xs) (l := l) (n := n) r)
/-- the last of them and those ahead of it -/
theorem split_last {K : PySem.W.Frag} {H : Hp} {ws : List V} {B : List (List Rat)} {tgt : List Rat} (h : ImAll K H ws ((B ++ [tgt]).map vD)) : ws.length = B.length + 1 ∧ (∃ v, ws[B.length]? = some v ∧ Im K H v (vD tgt)) ∧ ImAll K H (ws.take B.length) (B.map vD) := by
  refine ⟨by rw [all_len h, List.length_append]; rfl, all_at h (by rw [List.getElem?_append_right (Nat.le_refl _), Nat.sub_self]; rfl), ?_⟩
  have := all_take (n := B.length) h
  rw [List.take_append_of_le_length (Nat.le_refl _), List.take_of_length_le (Nat.le_refl _)] at this
  exact this
section
variable {P : Program} {w : World} {K : PySem.W.Frag} {mg : Str → Option Value} {base : Heap} {C : Addr}

abbrev s__law_dense_right : Stmt := topS 48
theorem sc__law_dense_right : FnScope ["cup", "size", "rows", "weights", "turned", "turn", "k", "row"] ["cup"] (defScope s__law_dense_right) := ⟨rfl, rfl, rfl, by decide +kernel, rfl, by decide +kernel, by decide +kernel⟩
def sp_dense (K : PySem.W.Frag) : Sp := fun vs H Q _ => ∃ (c L : Addr) (n : Nat), vs = [.ref c] ∧ Cup H c L (n + 1000) ∧ ∀ H', Cup H' c L n → But c L H H' → Q (.bl true) H'
set_option maxHeartbeats 1000000 in
theorem ok__law_dense_right {f : Addr} {fd : FuncData} {k : Nat} (F : Fun K "_law_dense_right" "_law_dense_right" s__law_dense_right f fd) (T : Tx K mg C){k1 : Nat} (D__law_sip : Def P w K mg base k1 "_law_sip" s__law_sip ["cup", "many"] sp_sip) {k2 : Nat} (D__law_asked : Def P w K mg base k2 "_law_asked" s__law_asked ["rows", "target", "due"] (sp_asked K)) {k3 : Nat} (D__law_combine : Def P w K mg base k3 "_law_combine" s__law_combine ["weights", "rows", "size"] (sp_combine K)) {k4 : Nat} (D__law_marked : Def P w K mg base k4 "_law_marked" s__law_marked ["cup", "rows", "size"] (sp_marked K)) (e1 : k1 ≤ k) (e2 : k2 ≤ k) (e3 : k3 ≤ k) (e4 : k4 ≤ k) : FnOk P w K mg base CX0 (k + 1) f fd ["cup"] (sp_dense K) := by
  have nd := sc__law_dense_right.nd
  refine F.ok sc__law_dense_right (fun vs H Q E h => ?_) (fun cdv A outer s H vs Q E hr h => ?_)
  · obtain ⟨_, _, _, rfl, _⟩ := h
    rfl
  · obtain ⟨c, L, n, rfl, u, q⟩ := h
    refine ⟨_, (pss_cons (ps_set (i := 1) nd rfl (.inr rfl) (pe_op op_add pe_int (pe_def D__law_sip (hr.mono (by omega)) rfl (pa_cons (pv 0) (pa_cons pe_int pa_nil)))))
      (pss_cons (ps_setLc (i := 2) (own := [("turn", 5)]) (g := gName 5) (tt := tYes) rfl nd rfl rfl (sw_true rfl rfl rfl (by decide +kernel)) (pi_range1 rfl T.m_range (pa_cons (pe_op op_add pe_int (pe_def D__law_sip (hr.mono (by omega)) rfl (pa_cons (pv 0) (pa_cons pe_int pa_nil)))) pa_nil)) (blkOk_by (by rfl)) (fun _ _ _ _ _ => (pg_name (i := 5) nd rfl (.inl rfl))) (fun _ _ _ _ _ => pts_nil) (fun _ _ _ _ _ => (pe_callTy (kcall_tuple K) (by rfl) T.m_tuple (by decide +kernel) (pa_cons (pe_lc (own := [("k", 6)]) (g := gName 6) (tt := tYes) rfl nd (pi_range1 rfl T.m_range (pa_cons (pv 1) pa_nil)) (blkOk_by (by rfl)) (fun _ _ _ _ _ => (pg_name (i := 6) nd rfl (.inl rfl))) (fun _ _ _ _ _ => pts_nil) (fun _ _ _ _ _ => (pe_tup (pa_cons (pe_op op_sub (pe_def D__law_sip (hr.mono (by omega)) rfl (pa_cons (pv 0) (pa_cons pe_int pa_nil))) pe_int) (pa_cons pe_int pa_nil))))) pa_nil))))
      (pss_cons (ps_setLc (i := 3) (own := [("row", 7)]) (g := gName 7) (tt := tYes) rfl nd rfl rfl (sw_true rfl rfl rfl (by decide +kernel)) (kpi_list K (pv 2)) (blkOk_by (by rfl)) (fun _ _ _ _ _ => (pg_name (i := 7) nd rfl (.inl rfl))) (fun _ _ _ _ _ => pts_nil) (fun _ _ _ _ _ => (pe_tup (pa_cons (pe_op op_sub (pe_def D__law_sip (hr.mono (by omega)) rfl (pa_cons (pv 0) (pa_cons pe_int pa_nil))) pe_int) (pa_cons pe_int pa_nil)))))
      (pss_cons (ps_if (pt_not (pt_val (pe_def D__law_asked (hr.mono (by omega)) rfl (pa_cons (pe_callTy (kcall_tuple K) (by rfl) T.m_tuple (by decide +kernel) (pa_cons (pv 2) pa_nil)) (pa_cons (pe_def D__law_combine (hr.mono (by omega)) rfl (pa_cons (pv 3) (pa_cons (pv 2) (pa_cons (pv 1) pa_nil)))) (pa_cons pe_str pa_nil))))))
        (pss_one (ps_ret pe_bl))
        pss_nil)
      (pss_cons (ps_set (i := 4) nd rfl (.inl rfl) (pe_def D__law_marked (hr.mono (by omega)) rfl (pa_cons (pv 0) (pa_cons (pv 2) (pa_cons (pv 1) pa_nil)))))
      (pss_one (ps_ret (pe_def D__law_asked (hr.mono (by omega)) rfl (pa_cons (pe_callTy (kcall_tuple K) (by rfl) T.m_tuple (by decide +kernel) (pa_cons (pe_slice sl_list (pv 4) po_none (po_some (pe_un un_neg pe_int))) pa_nil)) (pa_cons (pe_ix (kix_list K) (pv 4) (pe_un un_neg pe_int) (fun _ _ => rfl)) (pa_cons pe_str pa_nil))))))))))), ?_⟩
    refine ⟨.ref c, rfl, c, L, 8, n + 999, rfl, u, by decide, by decide, fun d0 H1 d00 d08 u1 b1 => ⟨_, _, rfl, rfl, ?_⟩⟩
    obtain ⟨size, es⟩ : ∃ x : Nat, (9 : Int) + d0 = x := ⟨((9 : Int) + d0).toNat, by omega⟩
    change gName 1 (.int ((9 : Int) + d0)) _ _ _
    rw [es]
    have sz0 : 0 < size := by omega
    have sz16 : size ≤ 16 := by omega
    refine ⟨.ref c, rfl, c, L, 10, n + 998, rfl, u1, by decide, by decide, fun d2 H2 d20 d210 u2 b2 => ?_⟩
    obtain ⟨dn, rfl⟩ : ∃ x : Nat, d2 = x := ⟨d2.toNat, by omega⟩
    refine ⟨_, _, rfl, rfl, ((7 + dn : Nat) : Int), rfl, by omega, by omega, fun D hD => ?_⟩
    generalize hm : 7 + dn = many
    have m16 : many ≤ 16 := by omega
    have ne := u2.ne hD
    have bt2 := b1.trans b2
    refine lc_all (walk_range (lo := 0) (n := many)) (fun i H => ∃ B acc, B.length = i ∧ (∀ r ∈ B, r.length = size ∧ Sc 42 168 r) ∧ But c L H2 H ∧ Cup H c L (n + 500 + 20 * (many - i)) ∧ H D = some (.lst acc) ∧ ImAll K H acc (B.map vD)) ⟨[], [], rfl, fun _ h => by simp at h, but_same (same_new hD), (u2.same (same_new hD)).less (by omega), upd_same, .nil⟩ (fun _ _ _ _ => trivial) (fun i x H3 H4 hi z y => ?_) (fun H3 z => ?_)
    · obtain ⟨B, acc, lB, hB, b3, u3, eD, iB⟩ := z
      obtain ⟨rfl, rfl⟩ := y
      have ef : 20 * (many - i) = 20 * (many - (i + 1)) + 20 := by omega
      rw [ef] at u3
      generalize hR : n + 500 + 20 * (many - (i + 1)) = R at *
      replace u3 : Cup H4 c L (R + 20) := by rw [← hR]; exact u3
      refine ⟨rfl, .int size, rfl, size, rfl, by omega, by omega, fun D2 hD2 => ?_⟩
      have ne2 := u3.ne hD2
      refine lc_all (walk_range (lo := 0) (n := size)) (DrawI K c L D2 size 1 (R + 20 - size) (Sn 1 2) H4) (draw_start (by rw [Nat.one_mul, show R + 20 - size + size = R + 20 by omega]; exact u3) hD2) (fun _ _ _ _ => trivial) (fun j x H5 H6 hj z y => ?_) (fun H5 z => ?_)
      · obtain ⟨rfl, rfl⟩ := y
        refine ⟨rfl, .ref c, rfl, c, L, 4, _, rfl, z.cup hj, by decide, by decide, fun a H7 a0 a4 u7 b7 => ⟨_, _, rfl, rfl, by show 2 ≤ sizeLine; decide, fun p hp => ?_⟩⟩
        exact draw_step z hj (by omega) hD2 ne2 (b7.trans (but_same (same_new hp))) (u7.same (same_new hp)) (int_mk' (.inl upd_same)) (sn_le (sn_int 1 (a - 1)) (by omega))
      · obtain ⟨r, acc2, lr, pr, b5, u5, eD2, ir⟩ := z.done
        refine ⟨D2, acc2, rfl, .inl ⟨.of eD2, fun l hl => ?_⟩⟩
        have sm6 : Same H5 (upd H5 l (.tup acc2)) := same_new hl
        have il : Im K (upd H5 l (.tup acc2)) (.ref l) (vD r) := .tup (.inl upd_same) (ImAll.mono (tk_same sm6) _ ir)
        have eD6 := sm6 _ _ (b5 _ _ ne.1 ne.2 eD)
        have lacc : acc.length = i := by rw [all_len iB]; exact lB
        refine ⟨acc, eD6, small1000 (by omega), B ++ [r], acc ++ [.ref l], by rw [List.length_append, lB]; rfl, fun y hy => ?_, fun b o k1 k2 eb => ?_, ((u5.same sm6).less (by omega)).upd ne.1 ne.2, upd_same, ?_⟩
        · rcases List.mem_append.mp hy with h | h
          · exact hB y h
          · rw [List.mem_singleton.mp h]
            exact ⟨lr, sc_up (u := 42) (sc_of pr) (by decide)⟩
        · rw [upd_ne (ne_of_none eb hD)]
          exact sm6 _ _ (b5 b o k1 k2 (b3 b o k1 k2 eb))
        · rw [List.map_append]
          exact (ImAll.mono ((b5.tk u3).trans ((tk_same sm6).trans (tk_lst eD6))) _ iB).snoc (Im.mono (tk_lst eD6) _ il)
    · obtain ⟨B, acc, lB, hB, b3, u3, eD, iB⟩ := z
      rw [Nat.sub_self, Nat.mul_zero, Nat.add_zero] at u3
      have lmD : LMat K H3 c L D B := ⟨ne.1, ne.2, acc, eD, iB⟩
      have bt3 := bt2.trans b3
      have lacc : acc.length = many := by rw [all_len iB]; exact lB
      refine ⟨.ref D, rfl, D, rfl, ⟨acc, .of eD⟩, fun W hW => ?_⟩
      have neW := u3.ne hW
      refine lc_all (walk_list (xs := acc)) (DrawI K c L W acc.length 1 (n + 500 - acc.length) (Sn 1 2) H3) (draw_start (by rw [Nat.one_mul, show n + 500 - acc.length + acc.length = n + 500 by omega]; exact u3) hW) (fun j H5 _ z => .of (z.but _ _ ne.1 ne.2 eD)) (fun j x H5 H6 hj z y => ?_) (fun H5 z => ?_)
      · obtain ⟨rfl, _⟩ := y
        refine ⟨rfl, .ref c, rfl, c, L, 5, _, rfl, z.cup hj, by decide, by decide, fun a H7 a0 a4 u7 b7 => ⟨_, _, rfl, rfl, by show 2 ≤ sizeLine; decide, fun p hp => ?_⟩⟩
        exact draw_step z hj (by omega) hW neW (b7.trans (but_same (same_new hp))) (u7.same (same_new hp)) (int_mk' (.inl upd_same)) (sn_le (sn_int 1 (a - 2)) (by omega))
      obtain ⟨wr, wacc, lwr, pwr, b5, u5, eW, iW⟩ := z.done
      have lm5 := lmD.but b5 u3
      have bt5 := bt3.trans b5
      obtain ⟨_, _, acc5, eD5, iB5⟩ := id lm5
      have rowsS : ∀ r ∈ B, r.length = size ∧ Sc 1764 (2 ^ 20) r := fun r hr => ⟨(hB r hr).1, sc_up (u := 42) (hB r hr).2 (by decide)⟩
      have T1 : Task 1764 (2 ^ 20) 16 size B := task_mk (by decide) (by decide) rowsS (by omega) (by decide) (by decide) (by decide) (by decide) (by omega)
      refine ⟨.ref D, rfl, D, acc5, rfl, .inl ⟨.of eD5, fun l hl => ?_⟩⟩
      have sm6 : Same H5 (upd H5 l (.tup acc5)) := same_new hl
      have il6 : Im K (upd H5 l (.tup acc5)) (.ref l) (mD B) := .tup (.inl upd_same) (ImAll.mono (tk_same sm6) _ iB5)
      generalize upd H5 l (.tup acc5) = G6 at *
      have hn := fun r hr => (hB r hr).1
      refine ⟨.ref W, rfl, .ref D, rfl, .int size, rfl, W, .ref D, wr, B, size, 21, rfl, LRow.same ⟨wacc, eW, iW⟩ sm6, (lm5.same sm6).mt, by omega, by omega, hn, by omega, by decide, by decide, fun y hy => sn_bd (pwr y hy) (by decide) (by decide) (by decide), fun r hr => sc_bd (hB r hr).2 (by decide) (by decide) (by decide), by rw [lB]; have : 2 * 21 * many ≤ 2 * 21 * 16 := Nat.mul_le_mul_left _ m16; omega, fun p7 H7 sm7 np7 i7 => ?_⟩
      have scT : Sc 1764 (2 ^ 20) (vm size wr B) := by
        have := sc_vm (B := 5376) hn pwr (fun r hr => (hB r hr).2) (by rw [lwr, lacc]; have : many * (2 * 168) ≤ 16 * (2 * 168) := Nat.mul_le_mul_right _ m16; omega)
        exact sc_up (u := 42) (s := 42) (E := 5376) this (by decide)
      refine ⟨.ref l, .ref p7, "made", B, vm size wr B, size, 1764, 2 ^ 20, 16, rfl, Im.mono (tk_same sm7) _ il6, i7, T1, vm_length hn, scT, .inr (word_made T1).symm, fun H8 sm8 => ⟨true, rfl, iteF ?_⟩⟩
      have sm58 := (sm6.trans sm7).trans sm8
      refine ⟨.ref c, rfl, .ref D, rfl, .int size, rfl, c, L, D, B, size, n + 100, 1, 168, rfl, lm5.same sm58, sz0, sz16, by omega, fun r hr => hB r hr, by decide, by decide, by decide, (u5.same sm58).less (by omega), fun Bs tgt M p9 H9 lBs hBs ltg stg kB kt lm9 u9 b9 => ?_⟩
      obtain ⟨nc, nL, ws, ew, iw⟩ := lm9
      obtain ⟨lws, ⟨vl, hvl, ivl⟩, itk⟩ := split_last iw
      have T2 : Task 1764 (2 ^ 20) 16 size Bs := task_mk (by decide) (by decide) (fun r hr => ⟨(hBs r hr).1, sc_mono (hBs r hr).2 (by decide)⟩) (by omega) (by decide) (by decide) (by decide) (by decide) (by omega)
      refine ⟨.ref p9, rfl, _, rfl, _, rfl, p9, ws, rfl, .of ew, fun s10 hs10 => ?_⟩
      have sm10 : Same H9 (upd H9 s10 (.lst (cutV ws none (some (-1))))) := same_new hs10
      have e10 : (upd H9 s10 (.lst (cutV ws none (some (-1))))) s10 = some (.lst (ws.take Bs.length)) := by rw [upd_same, cut_last lws]
      generalize upd H9 s10 (.lst (cutV ws none (some (-1)))) = G10 at *
      refine ⟨s10, _, rfl, .inl ⟨.of e10, fun l11 hl11 => ?_⟩⟩
      have sm11 : Same G10 (upd G10 l11 (.tup (ws.take Bs.length))) := same_new hl11
      have sm12 := sm10.trans sm11
      have i11 : Im K (upd G10 l11 (.tup (ws.take Bs.length))) (.ref l11) (mD Bs) := .tup (.inl upd_same) (ImAll.mono (tk_same sm12) _ itk)
      generalize upd G10 l11 (.tup (ws.take Bs.length)) = G11 at *
      refine ⟨.ref p9, rfl, _, rfl, p9, ws, _, vl, rfl, rfl, .of (sm12 _ _ ew), last_at lws hvl, ?_⟩
      refine ⟨.ref l11, vl, "apart", Bs, tgt, size, 1764, 2 ^ 20, 16, rfl, i11, Im.mono (tk_same sm12) _ ivl, T2, ltg, sc_mono stg (by decide), .inr (word_apart T2 ltg kB kt).symm, fun H13 sm13 => ?_⟩
      exact q H13 ((u9.same (sm12.trans sm13)).less (by omega)) (((bt5.trans (but_same sm58)).trans b9).trans (but_same (sm12.trans sm13)))
end
end K39

set_option Elab.async false
set_option linter.all false
set_option maxRecDepth 100000
set_option exponentiation.threshold 20000
namespace K39
open PySem PySem.Spec PyProof.Rows L2 Ly Mt El
/-- 42 ^ 9 -/
abbrev S9 : Int := 406671383849472
theorem s9_row {r : List Rat} {k : Nat} (h : Lv k r) (hk : k ≤ 7) : Sc S9 (2 ^ 358) r := by
  have h7 := lv_le h hk
  have := sc_up (u := 42) (F := 2 ^ 358) h7 (by decide)
  rw [show (42 : Int) * 42 ^ (7 + 1) = S9 from by decide] at this
  exact this
theorem s9_ent {g : Bool} {r : List Rat} (h : ∀ x ∈ r, Ent g x) : Sc S9 (2 ^ 358) r := s9_row (lv_ent h) (by decide)
theorem s9_zero {n : Nat} : Sc S9 (2 ^ 358) (List.replicate n 0) := s9_row (k := 0) lv_zero (by decide)
theorem s9_vm {g : Bool} {n k : Nat} {ws : List Rat} {A : List (List Rat)} (hw : ws.length ≤ 7) (hn : ∀ r ∈ A, r.length = n) (h : ∀ x ∈ ws, Ent g x) (l : ∀ r ∈ A, Lv k r) (hk : k ≤ 7) : Sc S9 (2 ^ 358) (vm n ws A) := by
  have h1 : ∀ x ∈ ws, Sn 42 (2 ^ 139) x := fun x hx => sn_le (ent_sn (h x hx)) (by cases g <;> decide)
  have h2 : ∀ r ∈ A, Sc (42 ^ (7 + 1)) (2 ^ (139 + 11 * 7)) r := fun r hr => lv_le (l r hr) hk
  have := sc_vm (B := 2 ^ 358) hn h1 h2 (by
    have h3 : ws.length * (2 ^ 139 * 2 ^ (139 + 11 * 7)) ≤ 7 * (2 ^ 139 * 2 ^ (139 + 11 * 7)) := Nat.mul_le_mul_right _ hw
    exact Nat.le_trans h3 (by decide))
  rw [show (42 : Int) * 42 ^ (7 + 1) = S9 from by decide] at this
  exact this
theorem task9 {size k : Nat} {A : List (List Rat)} (h : ∀ r ∈ A, r.length = size ∧ Lv k r) (hk : k ≤ 7) (hA : A.length ≤ 7) (hs : size ≤ 6) : Task S9 (2 ^ 358) 7 size A :=
  task_mk (by decide) (by decide) (fun r hr => ⟨(h r hr).1, s9_row (h r hr).2 hk⟩) hA (by decide) (by decide) (by decide) (by decide) (by omega)
theorem word_nil_made {tgt : List Rat} {size : Nat} (ht : tgt.length = size) (n48 : size ≤ 48) (h : ∀ q, q < size → fn tgt q = 0) : word [] size tgt = "made" := by
  have t : Task 1 1 1 size [] := task_mk (by decide) (by decide) (fun r hr => by simp at hr) (by decide) (by decide) (by decide) (by decide) (by decide) n48
  refine word_zero t ht fun y hy => ?_
  obtain ⟨q, hq⟩ := List.mem_iff_getElem?.mp hy
  have hq2 := (List.getElem?_eq_some_iff.mp hq).1
  rw [← fn_get hq]
  exact h q (by omega)
theorem word_nil_apart {tgt : List Rat} {size q : Nat} (ht : tgt.length = size) (hq : q < size) (h : fn tgt q ≠ 0) : word [] size tgt = "apart" := by
  unfold word
  cases hf : first (leftOf [] size tgt) size with
  | some _ => rfl
  | none =>
    have e : leftOf [] size tgt = tgt := by
      show clr (tgt ++ []) (solved [] size) = tgt
      rw [List.append_nil]; rfl
    rw [e] at hf
    exact absurd (first_none hf q hq) h
theorem eqv_mat_nil (A : List (List Rat)) : PyData.eqv (mD A) (.tuple []) = A.isEmpty := by
  cases A <;> simp [mD, PyData.eqv, PyData.eqvAll]
theorem shaped_mat (A : List (List Rat)) : SeqAt.shaped (mD A) = true := by
  have h := deep_vecs A
  have h2 : PyData.depth (mD A) ≤ 64 := by
    simp only [mD, PyData.depth]; omega
  show (PyData.canLay0 (mD A) && decide (PyData.depth (mD A) ≤ 64)) = true
  rw [Bool.and_eq_true]
  exact ⟨by simp only [mD, PyData.canLay0]; exact lay_vecs A, decide_eq_true h2⟩
theorem shaped_vecL (r : List Rat) : SeqAt.shaped (.list (r.map rD)) = true := by
  have h := deep_rats r
  have h2 : PyData.depth (.list (r.map rD)) ≤ 64 := by
    simp only [PyData.depth]; omega
  show (PyData.canLay0 (.list (r.map rD)) && decide (PyData.depth (.list (r.map rD)) ≤ 64)) = true
  rw [Bool.and_eq_true]
  exact ⟨by simp only [PyData.canLay0]; exact lay_rats r, decide_eq_true h2⟩
theorem eqv_vecL_nil (r : List Rat) : PyData.eqv (.list (r.map rD)) (.list []) = r.isEmpty := by
  cases r <;> simp [PyData.eqv, PyData.eqvAll]
section
variable {P : Program} {w : World} {K : PySem.W.Frag} {mg : Str → Option Value} {base : Heap} {C : Addr}

abbrev s_law : Stmt := topS 49
theorem sc_law : FnScope ["script", "cup", "turn", "many", "size", "great", "rows", "weights", "turned", "target", "some", "row", "k", "one"] ["script"] (defScope s_law) := ⟨rfl, rfl, rfl, by decide +kernel, rfl, by decide +kernel, by decide +kernel⟩
def sp_law (K : PySem.W.Frag) : Sp := fun vs H Q _ => ∃ (a : Addr) (ns : List Int), vs = [.ref a] ∧ SqL K H a (ns.map V.int) ∧ ns.length ≤ 63 ∧ ∀ H', Q (.bl true) H'
set_option maxHeartbeats 4000000 in
theorem ok_law {f : Addr} {fd : FuncData} {k : Nat} (F : Fun K "law" "law" s_law f fd) (T : Tx K mg C){k1 k2 k3 k4 k5 k6 k7 k8 k9 : Nat} (D__law_cup : Def P w K mg base k1 "_law_cup" s__law_cup ["script"] (sp_cup K)) (D__law_sip : Def P w K mg base k2 "_law_sip" s__law_sip ["cup", "many"] sp_sip) (D__law_rows : Def P w K mg base k3 "_law_rows" s__law_rows ["cup", "many", "size", "great"] (sp_rows K)) (D__law_entry : Def P w K mg base k4 "_law_entry" s__law_entry ["cup", "great"] (sp_entry K)) (D__law_asked : Def P w K mg base k5 "_law_asked" s__law_asked ["rows", "target", "due"] (sp_asked K)) (D__law_combine : Def P w K mg base k6 "_law_combine" s__law_combine ["weights", "rows", "size"] (sp_combine K)) (D__law_marked : Def P w K mg base k7 "_law_marked" s__law_marked ["cup", "rows", "size"] (sp_marked K)) (D__law_dense_right : Def P w K mg base k8 "_law_dense_right" s__law_dense_right ["cup"] (sp_dense K)) (D__law_wide : Def P w K mg base k9 "_law_wide" s__law_wide ["cup"] (sp_wide K)) (e1 : k1 ≤ k) (e2 : k2 ≤ k) (e3 : k3 ≤ k) (e4 : k4 ≤ k) (e5 : k5 ≤ k) (e6 : k6 ≤ k) (e7 : k7 ≤ k) (e8 : k8 ≤ k) (e9 : k9 ≤ k) : FnOk P w K mg base CX0 (k + 1) f fd ["script"] (sp_law K) := by
  have nd := sc_law.nd
  refine F.ok sc_law (fun vs H Q E h => ?_) (fun cdv A outer s H vs Q E hr h => ?_)
  · obtain ⟨_, _, rfl, _⟩ := h
    rfl
  · obtain ⟨a, ns, rfl, hS, hl, q⟩ := h
    refine ⟨_, (pss_cons (ps_set (i := 1) nd rfl (.inr rfl) (pe_def D__law_cup (hr.mono (by omega)) rfl (pa_cons (pv 0) pa_nil)))
      (pss_cons (ps_for PassesOwn.never rfl (pi_range1 rfl T.m_range (pa_cons pe_int pa_nil)) (pg_name (i := 2) nd rfl (.inl rfl))
        (pss_cons (ps_par (i := 3) (j := 4) (by rfl) nd rfl rfl (by decide) rfl rfl (pa_cons (pe_def D__law_sip (hr.mono (by omega)) rfl (pa_cons (pv 1) (pa_cons pe_int pa_nil))) (pa_cons (pe_def D__law_sip (hr.mono (by omega)) rfl (pa_cons (pv 1) (pa_cons pe_int pa_nil))) pa_nil)) (by rfl))
        (pss_cons (ps_set (i := 5) nd rfl (.inr rfl) (pe_cmpR op_eq (pe_def D__law_sip (hr.mono (by omega)) rfl (pa_cons (pv 1) (pa_cons pe_int pa_nil))) pe_int (nomark _)))
        (pss_cons (ps_set (i := 6) nd rfl (.inl rfl) (pe_def D__law_rows (hr.mono (by omega)) rfl (pa_cons (pv 1) (pa_cons (pv 3) (pa_cons (pv 4) (pa_cons (pv 5) pa_nil))))))
        (pss_cons (ps_setLc (i := 7) (own := [("row", 11)]) (g := gName 11) (tt := tYes) rfl nd rfl rfl (sw_true rfl rfl rfl (by decide +kernel)) (kpi_any K (pv 6)) (blkOk_by (by rfl)) (fun _ _ _ _ _ => (pg_name (i := 11) nd rfl (.inl rfl))) (fun _ _ _ _ _ => pts_nil) (fun _ _ _ _ _ => (pe_def D__law_entry (hr.mono (by omega)) rfl (pa_cons (pv 1) (pa_cons (pv 5) pa_nil)))))
        (pss_cons (ps_if (pt_not (pt_val (pe_def D__law_asked (hr.mono (by omega)) rfl (pa_cons (pe_callTy (kcall_tuple K) (by rfl) T.m_tuple (by decide +kernel) (pa_cons (pv 6) pa_nil)) (pa_cons (pe_def D__law_combine (hr.mono (by omega)) rfl (pa_cons (pv 7) (pa_cons (pv 6) (pa_cons (pv 4) pa_nil)))) (pa_cons pe_str pa_nil))))))
          (pss_one (ps_ret pe_bl))
          pss_nil)
        (pss_cons (ps_if (pt_not (pt_val (pe_def D__law_asked (hr.mono (by omega)) rfl (pa_cons (pe_callTy (kcall_tuple K) (by rfl) T.m_tuple (by decide +kernel) (pa_cons (pv 6) pa_nil)) (pa_cons (pe_callTy (kcall_tuple K) (by rfl) T.m_tuple (by decide +kernel) (pa_cons (pe_lc (own := [("k", 12)]) (g := gName 12) (tt := tYes) rfl nd (pi_range1 rfl T.m_range (pa_cons (pv 4) pa_nil)) (blkOk_by (by rfl)) (fun _ _ _ _ _ => (pg_name (i := 12) nd rfl (.inl rfl))) (fun _ _ _ _ _ => pts_nil) (fun _ _ _ _ _ => (pe_def D__law_entry (hr.mono (by omega)) rfl (pa_cons (pv 1) (pa_cons (pv 5) pa_nil))))) pa_nil)) (pa_cons pe_str pa_nil))))))
          (pss_one (ps_ret pe_bl))
          pss_nil)
        (pss_cons (ps_if (pt_not (pt_val (pe_def D__law_asked (hr.mono (by omega)) rfl (pa_cons (pe_callTy (kcall_tuple K) (by rfl) T.m_tuple (by decide +kernel) (pa_cons (pv 6) pa_nil)) (pa_cons (pe_op (kop_repTA K) (pe_tup (pa_cons (pe_tup (pa_cons pe_int (pa_cons pe_int pa_nil))) pa_nil)) (pv 4)) (pa_cons pe_str pa_nil))))))
          (pss_one (ps_ret pe_bl))
          pss_nil)
        (pss_one (ps_if (pt_cmpR op_gt (pv 4) pe_int (nomark _))
          (pss_cons (ps_set (i := 8) nd rfl (.inl rfl) (pe_def D__law_marked (hr.mono (by omega)) rfl (pa_cons (pv 1) (pa_cons (pv 6) (pa_cons (pv 4) pa_nil)))))
          (pss_one (ps_if (pt_not (pt_val (pe_def D__law_asked (hr.mono (by omega)) rfl (pa_cons (pe_callTy (kcall_tuple K) (by rfl) T.m_tuple (by decide +kernel) (pa_cons (pe_slice sl_list (pv 8) po_none (po_some (pe_un un_neg pe_int))) pa_nil)) (pa_cons (pe_ix (kix_list K) (pv 8) (pe_un un_neg pe_int) (fun _ _ => rfl)) (pa_cons pe_str pa_nil))))))
            (pss_one (ps_ret pe_bl))
            pss_nil)))
          pss_nil))))))))))
      (C8.pss_cut (ps_if (PW.pt (pw_and (pt_cmpR op_eq (pe_def D__law_sip (hr.mono (by omega)) rfl (pa_cons (pv 1) (pa_cons pe_int pa_nil))) pe_int (nomark _)) (pw_and1 (pt_not (pt_val (pe_def D__law_dense_right (hr.mono (by omega)) rfl (pa_cons (pv 1) pa_nil)))))))
        (pss_one (ps_ret pe_bl))
        pss_nil)
      (pss_cons (ps_set (i := 9) nd rfl (.inl rfl) (pe_callTy (kcall_tuple K) (by rfl) T.m_tuple (by decide +kernel) (pa_cons (pe_lc (own := [("k", 12)]) (g := gName 12) (tt := tYes) rfl nd (pi_range1 rfl T.m_range (pa_cons (pe_def D__law_sip (hr.mono (by omega)) rfl (pa_cons (pv 1) (pa_cons pe_int pa_nil))) pa_nil)) (blkOk_by (by rfl)) (fun _ _ _ _ _ => (pg_name (i := 12) nd rfl (.inl rfl))) (fun _ _ _ _ _ => pts_nil) (fun _ _ _ _ _ => (pe_def D__law_entry (hr.mono (by omega)) rfl (pa_cons (pv 1) (pa_cons pe_bl pa_nil))))) pa_nil)))
      (C8.pss_cut (ps_if (pt_not (pt_val (pe_def D__law_asked (hr.mono (by omega)) rfl (pa_cons (pe_tup pa_nil) (pa_cons (pv 9) (pa_cons (pe_ix (kix_list K) (pe_lst (pa_cons pe_str (pa_cons pe_str pa_nil))) (pe_callTy call_int1 (by rfl) T.m_int (by decide +kernel) (pa_cons (pe_cmpR (kop_eqD K hr.units) (pe_lc (own := [("one", 13)]) (g := gName 13) rfl nd (kpi_tup K (pv 9)) (blkOk_by (by rfl)) (fun _ _ _ _ _ => (pg_name (i := 13) nd rfl (.inl rfl))) (fun _ _ _ _ _ => (pts_one (pt_cmpR op_ne (pe_ix (kix_tup K) (pv 13) pe_int (fun _ _ => rfl)) pe_int (nomark _)))) (fun _ _ _ _ _ => (pv 13))) (pe_lst pa_nil) (nomark _)) pa_nil)) (fun _ _ => rfl)) pa_nil))))))
        (pss_one (ps_ret pe_bl))
        pss_nil)
      (pss_cons (ps_if (pt_cmpR op_eq (pe_def D__law_sip (hr.mono (by omega)) rfl (pa_cons (pv 1) (pa_cons pe_int pa_nil))) pe_int (nomark _))
        (pss_cons (ps_set (i := 6) nd rfl (.inl rfl) (pe_def D__law_wide (hr.mono (by omega)) rfl (pa_cons (pv 1) pa_nil)))
        (pss_cons (ps_setLc (i := 10) (own := [("row", 11)]) (g := gName 11) (tt := tYes) rfl nd rfl rfl (sw_true rfl rfl rfl (by decide +kernel)) (kpi_any K (pv 6)) (blkOk_by (by rfl)) (fun _ _ _ _ _ => (pg_name (i := 11) nd rfl (.inl rfl))) (fun _ _ _ _ _ => pts_nil) (fun _ _ _ _ _ => (pe_ix (kix_list K) (pe_lst (pa_cons (pe_tup (pa_cons pe_int (pa_cons pe_int pa_nil))) (pa_cons (pe_tup (pa_cons pe_int (pa_cons pe_int pa_nil))) (pa_cons (pe_tup (pa_cons pe_int (pa_cons pe_int pa_nil))) (pa_cons (pe_tup (pa_cons pe_int (pa_cons pe_int pa_nil))) (pa_cons (pe_tup (pa_cons (pe_un un_neg pe_int) (pa_cons pe_int pa_nil))) pa_nil)))))) (pe_def D__law_sip (hr.mono (by omega)) rfl (pa_cons (pv 1) (pa_cons pe_int pa_nil))) (fun _ _ => rfl))))
        (C8.pss_cut (ps_if (PW.pt (pw_and (pt_cmpR (kop_neD K hr.units) (pv 6) (pe_tup pa_nil) (nomark _)) (pw_and1 (pt_not (pt_val (pe_def D__law_asked (hr.mono (by omega)) rfl (pa_cons (pv 6) (pa_cons (pe_def D__law_combine (hr.mono (by omega)) rfl (pa_cons (pv 10) (pa_cons (pv 6) (pa_cons (pe_callB (kcall_len K) (by rfl) T.m_len PySem.boot_len (pa_cons (pe_ix (kix_any K) (pv 6) pe_int (fun _ _ => rfl)) pa_nil)) pa_nil)))) (pa_cons pe_str pa_nil)))))))))
          (pss_one (ps_ret pe_bl))
          pss_nil)
        (pss_one (ps_if (PW.pt (pw_and (pt_cmpR (kop_neD K hr.units) (pv 6) (pe_tup pa_nil) (nomark _)) (pw_and1 (pt_not (pt_val (pe_def D__law_asked (hr.mono (by omega)) rfl (pa_cons (pv 6) (pa_cons (pe_callTy (kcall_tuple K) (by rfl) T.m_tuple (by decide +kernel) (pa_cons (pe_lc (own := [("k", 12)]) (g := gName 12) (tt := tYes) rfl nd (kpi_tup K (pe_ix (kix_any K) (pv 6) pe_int (fun _ _ => rfl))) (blkOk_by (by rfl)) (fun _ _ _ _ _ => (pg_name (i := 12) nd rfl (.inl rfl))) (fun _ _ _ _ _ => pts_nil) (fun _ _ _ _ _ => (pe_tup (pa_cons (pe_def D__law_sip (hr.mono (by omega)) rfl (pa_cons (pv 1) (pa_cons pe_int pa_nil))) (pa_cons pe_int pa_nil))))) pa_nil)) (pa_cons pe_str pa_nil)))))))))
          (pss_one (ps_ret pe_bl))
          pss_nil)))))
        pss_nil)
      (pss_one (ps_ret pe_bl)))))))), ?_⟩
    refine ⟨.ref a, rfl, a, ns, rfl, hS, hl, fun c L H1 sm hc0 hL0 u => ?_⟩
    refine ⟨2, rfl, by decide, by decide, ?_⟩
    refine for_it (walk_range (lo := 0) (n := 2)) (fun i σ H2 => ∃ y2 y3 y4 y5 y6 y7 y8 y9 y10 y11 y12 y13, σ = [some (.ref a), some (.ref c), y2, y3, y4, y5, y6, y7, y8, y9, y10, y11, y12, y13] ∧ Cup H2 c L (100000 * (10 - i))) ⟨none, none, none, none, none, none, none, none, none, none, none, none, rfl, u.less (by decide)⟩ (fun _ _ _ _ _ => trivial) ?_ ?_
    · rintro i x σ H2 H3 hi ⟨y2, y3, y4, y5, y6, y7, y8, y9, y10, y11, y12, y13, rfl, u2⟩ ⟨rfl, rfl⟩
      have ef : 100000 * (10 - i) = 100000 * (10 - (i + 1)) + 100000 := by omega
      rw [ef] at u2
      generalize 100000 * (10 - (i + 1)) = R at *
      refine ⟨.ref c, rfl, c, L, 8, R + 99999, rfl, u2, by decide, by decide, fun d3 H4 d30 d31 u4 b4 => ⟨.ref c, rfl, c, L, 7, R + 99998, rfl, u4, by decide, by decide, fun d4 H5 d40 d41 u5 b5 => ⟨_, _, rfl, ?_⟩⟩⟩
      obtain ⟨many, rfl⟩ : ∃ x : Nat, d3 = x := ⟨d3.toNat, by omega⟩
      obtain ⟨size, rfl⟩ : ∃ x : Nat, d4 = x := ⟨d4.toNat, by omega⟩
      refine ⟨.ref c, rfl, c, L, 4, R + 99997, rfl, u5, by decide, by decide, fun d5 H6 d50 d51 u6 b6 => ⟨rfl, ?_⟩⟩
      generalize decide (V.int d5 = V.int 0) = g
      refine ⟨.ref c, rfl, .int many, rfl, .int size, rfl, .bl g, rfl, c, L, g, many, size, R + 99000, rfl, by omega, by omega, u6.less (by omega), fun B p H7 lB hB lm7 u7 b7 => ?_⟩
      obtain ⟨nc, nL, ws, ew, iw⟩ := id lm7
      have lw : ws.length = many := by rw [all_len iw]; exact lB
      have hn := fun r hr => (hB r hr).1
      have T9 : Task S9 (2 ^ 358) 7 size B := task9 hB (by omega) (by omega) (by omega)
      refine ⟨.ref p, rfl, p, rfl, .inl ⟨⟨ws, .of ew⟩, fun W hW => ?_⟩⟩
      have neW := u7.ne hW
      refine lc_all (walk_list (xs := ws)) (DrawI K c L W ws.length 5 (R + 98000) (Ent g) H7) (draw_start (u7.less (by omega)) hW) (fun j H8 _ z => .of (z.but _ _ nc nL ew)) (fun j x H8 H9 hj z y => ?_) (fun H8 z => ?_)
      · obtain ⟨rfl, _⟩ := y
        exact ⟨rfl, .ref c, rfl, .bl g, rfl, c, L, g, _, rfl, z.cup hj, fun qq p H9 ip pq u9 b9 np => draw_step z hj (by omega) hW neW b9 u9 ip pq⟩
      obtain ⟨wr, wacc, lwr, pwr, b8, u8, eW, iW⟩ := z.done
      have lm8 := lm7.but b8 u7
      obtain ⟨_, _, ws8, ew8, iw8⟩ := id lm8
      -- the first: made
      refine ⟨.ref p, rfl, p, ws8, rfl, .inl ⟨.of ew8, fun l hl => ?_⟩⟩
      have sm9 : Same H8 (upd H8 l (.tup ws8)) := same_new hl
      have il9 : Im K (upd H8 l (.tup ws8)) (.ref l) (mD B) := .tup (.inl upd_same) (ImAll.mono (tk_same sm9) _ iw8)
      generalize upd H8 l (.tup ws8) = G9 at *
      refine ⟨.ref W, rfl, .ref p, rfl, .int size, rfl, W, .ref p, wr, B, size, 217, rfl, LRow.same ⟨wacc, eW, iW⟩ sm9, (lm8.same sm9).mt, by omega, by omega, hn, by omega, by decide, by decide, fun y hy => ent_bd (pwr y hy), fun r hr => lv_bd (hB r hr).2 (by omega), by rw [lB]; have : 2 * 217 * many ≤ 2 * 217 * 7 := Nat.mul_le_mul_left _ (by omega); omega, fun p10 H10 sm10 np10 i10 => ?_⟩
      refine ⟨.ref l, .ref p10, "made", B, vm size wr B, size, S9, 2 ^ 358, 7, rfl, Im.mono (tk_same sm10) _ il9, i10, T9, vm_length hn, s9_vm (by omega) hn pwr (fun r hr => (hB r hr).2) (by omega), .inr (word_made T9).symm, fun H11 sm11 => ⟨true, rfl, iteF ?_⟩⟩
      have s811 := (sm9.trans sm10).trans sm11
      have lm11 := lm8.same s811
      have u11 := u8.same s811
      obtain ⟨_, _, ws11, ew11, iw11⟩ := id lm11
      -- the second: as it comes
      refine ⟨.ref p, rfl, p, ws11, rfl, .inl ⟨.of ew11, fun l2 hl2 => ?_⟩⟩
      have sm12 : Same H11 (upd H11 l2 (.tup ws11)) := same_new hl2
      have il12 : Im K (upd H11 l2 (.tup ws11)) (.ref l2) (mD B) := .tup (.inl upd_same) (ImAll.mono (tk_same sm12) _ iw11)
      have lm12 := lm11.same sm12
      have u12 := u11.same sm12
      generalize upd H11 l2 (.tup ws11) = G12 at *
      refine ⟨.int size, rfl, size, rfl, by omega, by omega, fun D2 hD2 => ?_⟩
      have ne2 := u12.ne hD2
      refine lc_all (walk_range (lo := 0) (n := size)) (DrawI K c L D2 size 5 (R + 97000) (Ent g) G12) (draw_start (u12.less (by omega)) hD2) (fun _ _ _ _ => trivial) (fun j x H13 H14 hj z y => ?_) (fun H13 z => ?_)
      · obtain ⟨rfl, rfl⟩ := y
        exact ⟨rfl, .ref c, rfl, .bl g, rfl, c, L, g, _, rfl, z.cup hj, fun qq p H7 ip pq u7 b7 np => draw_step z hj (by omega) hD2 ne2 b7 u7 ip pq⟩
      obtain ⟨tr, tacc, ltr, ptr, b13, u13, eT, iT⟩ := z.done
      refine ⟨D2, tacc, rfl, .inl ⟨.of eT, fun l3 hl3 => ?_⟩⟩
      have sm14 : Same H13 (upd H13 l3 (.tup tacc)) := same_new hl3
      have il14 : Im K (upd H13 l3 (.tup tacc)) (.ref l3) (vD tr) := .tup (.inl upd_same) (ImAll.mono (tk_same sm14) _ iT)
      have ir14 := Im.mono ((b13.tk u12).trans (tk_same sm14)) _ il12
      have lm14 := (lm12.but b13 u12).same sm14
      have u14 := u13.same sm14
      generalize upd H13 l3 (.tup tacc) = G14 at *
      refine ⟨.ref l2, .ref l3, "", B, tr, size, S9, 2 ^ 358, 7, rfl, ir14, il14, T9, ltr, s9_ent ptr, .inl rfl, fun H15 sm15 => ⟨true, rfl, iteF ?_⟩⟩
      have lm15 := lm14.same sm15
      have u15 := u14.same sm15
      obtain ⟨_, _, ws15, ew15, iw15⟩ := id lm15
      -- the third: nothing
      refine ⟨.ref p, rfl, p, ws15, rfl, .inl ⟨.of ew15, fun l4 hl4 => ?_⟩⟩
      have sm16 : Same H15 (upd H15 l4 (.tup ws15)) := same_new hl4
      have il16 : Im K (upd H15 l4 (.tup ws15)) (.ref l4) (mD B) := .tup (.inl upd_same) (ImAll.mono (tk_same sm16) _ iw15)
      generalize upd H15 l4 (.tup ws15) = G16 at *
      refine ⟨by show 2 ≤ sizeLine; decide, fun z0 hz0 => ⟨by show 1 ≤ sizeLine; decide, fun z1 hz1 => ⟨.int size, rfl, ?_⟩⟩⟩
      have sm17 : Same G16 (upd G16 z0 (.tup [.int 0, .int 1])) := same_new hz0
      have iz17 : Im K (upd G16 z0 (.tup [.int 0, .int 1])) (.ref z0) (rD 0) := rat_mk (q := 0) (.inl upd_same)
      generalize upd G16 z0 (.tup [.int 0, .int 1]) = G17 at *
      have sm18 : Same G17 (upd G17 z1 (.tup [.ref z0])) := same_new hz1
      refine rep_any (x := .ref z0) (.inl upd_same) (by omega) fun p19 H19 sm19 i19 => ?_
      have s1719 := sm18.trans sm19
      have s1619 := sm17.trans s1719
      refine ⟨.ref l4, .ref p19, "made", B, List.replicate size 0, size, S9, 2 ^ 358, 7, rfl, Im.mono (tk_same s1619) _ il16, .tup i19 (all_rep (f := rD) (a := 0) (Im.mono (tk_same s1719) _ iz17) size), T9, by rw [List.length_replicate], s9_zero, .inr (word_zero T9 (by rw [List.length_replicate]) fun y hy => (List.mem_replicate.mp hy).2).symm, fun H20 sm20 => ⟨true, rfl, iteF ?_⟩⟩
      have s1520 := (sm16.trans s1619).trans sm20
      have lm20 := lm15.same s1520
      have u20 := u15.same s1520
      refine ⟨.int size, rfl, _, _, rfl, rfl, _, rfl, ?_⟩
      by_cases hs0 : (size : Int) > 0
      · rw [decide_eq_true hs0]
        have rowsU : ∀ r ∈ B, r.length = size ∧ Sc (230539333248 * 42) (2 ^ 216) r := fun r hr => ⟨(hB r hr).1, by
          have := lv_le (hB r hr).2 (show many ≤ 7 by omega)
          unfold Lv at this
          rw [show (42 : Int) ^ (7 + 1) = 230539333248 * 42 from by decide] at this
          exact this⟩
        refine iteT ⟨.ref c, rfl, .ref p, rfl, .int size, rfl, c, L, p, B, size, R + 90000, 230539333248, 2 ^ 216, rfl, lm20, by omega, by omega, by omega, rowsU, by decide, by decide, by decide, u20.less (by omega), fun Bs tgt M p21 H21 lBs hBs ltg stg kB kt lm21 u21 b21 => ?_⟩
        obtain ⟨nc1, nL1, ws21, ew21, iw21⟩ := lm21
        obtain ⟨lws, ⟨vl, hvl, ivl⟩, itk⟩ := split_last iw21
        have up9 : ∀ {r : List Rat}, Sc (42 * (230539333248 * 42)) (4096 * 2 ^ 216) r → Sc S9 (2 ^ 358) r := fun h => by
          rw [show (42 : Int) * (230539333248 * 42) = S9 from by decide] at h
          exact sc_mono h (by decide)
        have T2 : Task S9 (2 ^ 358) 7 size Bs := task_mk (by decide) (by decide) (fun r hr => ⟨(hBs r hr).1, up9 (hBs r hr).2⟩) (by omega) (by decide) (by decide) (by decide) (by decide) (by omega)
        refine ⟨.ref p21, rfl, _, rfl, _, rfl, p21, ws21, rfl, .of ew21, fun s22 hs22 => ?_⟩
        have sm22 : Same H21 (upd H21 s22 (.lst (cutV ws21 none (some (-1))))) := same_new hs22
        have e22 : (upd H21 s22 (.lst (cutV ws21 none (some (-1))))) s22 = some (.lst (ws21.take Bs.length)) := by rw [upd_same, cut_last lws]
        generalize upd H21 s22 (.lst (cutV ws21 none (some (-1)))) = G22 at *
        refine ⟨s22, _, rfl, .inl ⟨.of e22, fun l23 hl23 => ?_⟩⟩
        have sm23 : Same G22 (upd G22 l23 (.tup (ws21.take Bs.length))) := same_new hl23
        have s2223 := sm22.trans sm23
        have i23 : Im K (upd G22 l23 (.tup (ws21.take Bs.length))) (.ref l23) (mD Bs) := .tup (.inl upd_same) (ImAll.mono (tk_same s2223) _ itk)
        generalize upd G22 l23 (.tup (ws21.take Bs.length)) = G23 at *
        refine ⟨.ref p21, rfl, _, rfl, p21, ws21, _, vl, rfl, rfl, .of (s2223 _ _ ew21), last_at lws hvl, ?_⟩
        refine ⟨.ref l23, vl, "apart", Bs, tgt, size, S9, 2 ^ 358, 7, rfl, i23, Im.mono (tk_same s2223) _ ivl, T2, ltg, up9 stg, .inr (word_apart T2 ltg kB kt).symm, fun H24 sm24 => ⟨true, rfl, iteF ?_⟩⟩
        exact ⟨_, _, _, _, _, _, _, _, _, _, _, _, rfl, (u21.same (s2223.trans sm24)).less (by omega)⟩
      · rw [decide_eq_false hs0]
        exact iteF ⟨_, _, _, _, _, _, _, _, _, _, _, _, rfl, u20.less (by omega)⟩
    · rintro σ H2 ⟨y2, y3, y4, y5, y6, y7, y8, y9, y10, y11, y12, y13, rfl, u2⟩
      refine ⟨fun σ' H' => σ' = [some (.ref a), some (.ref c), y2, y3, y4, y5, y6, y7, y8, y9, y10, y11, y12, y13] ∧ Cup H' c L 90000, ?_, ?_⟩
      · refine ⟨.ref c, rfl, c, L, 6, 700000, rfl, u2.less (by decide), by decide, by decide, fun d H3 d0 d6 u3 b3 => ⟨rfl, _, rfl, ?_⟩⟩
        by_cases hd : d = 0
        · rw [decide_eq_true (show V.int d = V.int 0 by rw [hd])]
          exact iteT ⟨.ref c, rfl, c, L, 90000, rfl, u3.less (by decide), fun H4 u4 b4 => ⟨true, rfl, iteF ⟨rfl, u4⟩⟩⟩
        · rw [decide_eq_false (show ¬ V.int d = V.int 0 from fun z => hd (V.int.inj z))]
          exact iteF ⟨rfl, u3.less (by decide)⟩
      · rintro σ' H3 ⟨rfl, u3⟩
        refine ⟨.ref c, rfl, c, L, 9, 80000, rfl, u3.less (by decide), by decide, by decide, fun d9 H4 d90 d91 u4 b4 => ?_⟩
        obtain ⟨tn, rfl⟩ : ∃ x : Nat, d9 = x := ⟨d9.toNat, by omega⟩
        refine ⟨((tn : Nat) : Int), rfl, by omega, by omega, fun D hD => ?_⟩
        have neD := u4.ne hD
        refine lc_all (walk_range (lo := 0) (n := tn)) (DrawI K c L D tn 5 70000 (Ent true) H4) (draw_start (u4.less (by omega)) hD) (fun _ _ _ _ => trivial) (fun j x H5 H6 hj z y => ?_) (fun H5 z => ?_)
        · obtain ⟨rfl, rfl⟩ := y
          exact ⟨rfl, .ref c, rfl, c, L, true, _, rfl, z.cup hj, fun qq p H7 ip pq u7 b7 np => draw_step z hj (by omega) hD neD b7 u7 ip pq⟩
        obtain ⟨tr, tacc, ltr, ptr, b5, u5, eT, iT⟩ := z.done
        refine ⟨D, tacc, rfl, .inl ⟨.of eT, fun l hl => ?_⟩⟩
        have sm6 : Same H5 (upd H5 l (.tup tacc)) := same_new hl
        have it6 : ITup K (upd H5 l (.tup tacc)) l tacc := .inl upd_same
        have iT6 := ImAll.mono (tk_same sm6) _ iT
        have u6 := u5.same sm6
        generalize upd H5 l (.tup tacc) = G6 at *
        have lta : tacc.length = tn := by rw [all_len iT]; exact ltr
        -- nothing to make it of
        refine ⟨fun σ' H' => ∃ z6 z8 z9 z11 z12 z13, σ' = [some (.ref a), some (.ref c), y2, y3, y4, y5, z6, y7, z8, z9, y10, z11, z12, z13] ∧ Cup H' c L 60000, ?_, ?_⟩
        · refine ⟨by show 0 ≤ sizeLine; decide, fun e0 he0 => ⟨.ref l, rfl, by show 2 ≤ sizeLine; decide, fun ls hls => ?_⟩⟩
          have sm7 : Same G6 (upd G6 e0 (.tup [])) := same_new he0
          have ie7 : Im K (upd G6 e0 (.tup [])) (.ref e0) (mD []) := .tup (.inl upd_same) .nil
          generalize upd G6 e0 (.tup []) = G7 at *
          have sm8 : Same G7 (upd G7 ls (.lst [.str "apart", .str "made"])) := same_new hls
          have els : (upd G7 ls (.lst [.str "apart", .str "made"])) ls = some (.lst [.str "apart", .str "made"]) := upd_same
          generalize upd G7 ls (.lst [.str "apart", .str "made"]) = G8 at *
          have s68 := sm7.trans sm8
          have it8 := it6.mono (tk_same s68)
          refine ⟨.ref l, rfl, l, rfl, ⟨tacc, it8.sq⟩, fun D2 hD2 => ?_⟩
          refine lc_it (walk_tup (xs := tacc)) (fun i H => Same G8 H ∧ ∃ (acc : List V) (r' : List Rat), H D2 = some (.lst acc) ∧ ImAll K H acc (r'.map rD) ∧ acc.length ≤ i ∧ (r' = [] → ∀ q, q < i → fn tr q = 0) ∧ (r' ≠ [] → ∃ q, q < i ∧ fn tr q ≠ 0)) ⟨same_new hD2, [], [], upd_same, .nil, Nat.le_refl _, fun _ q h => by omega, fun h => absurd rfl h⟩ (fun i H _ z => (it8.mono (tk_same z.1)).sq) (fun i x H9 H10 hi z y => ?_) (fun H9 z => ?_)
          · obtain ⟨sm9, acc, r', eD2, ia, la, hz, hnz⟩ := z
            obtain ⟨rfl, hx⟩ := y
            obtain ⟨o, ho, io⟩ := all_get iT6 hx
            obtain ⟨oa, rfl, hoa⟩ := rat_inv (Im.mono (tk_same (s68.trans sm9)) _ io)
            have fo : fn tr i = o := fn_get ho
            refine ⟨rfl, .ref oa, rfl, oa, _, 0, _, rfl, rfl, hoa.sq, atI_nat (j := 0) rfl, rfl, _, rfl, ?_⟩
            by_cases o0 : o.num = 0
            · rw [decide_eq_true (show V.int o.num = V.int 0 by rw [o0])]
              refine iteF ⟨sm9, acc, r', eD2, ia, by omega, fun h q hq => ?_, fun h => ?_⟩
              · by_cases e : q = i
                · rw [e, fo]; exact num_zero o0
                · exact hz h q (by omega)
              · obtain ⟨q, hq, h1⟩ := hnz h
                exact ⟨q, by omega, h1⟩
            · rw [decide_eq_false (show ¬ V.int o.num = V.int 0 from fun z => o0 (V.int.inj z))]
              refine iteT ⟨.ref oa, rfl, acc, eD2, small1000 (by omega), fun b oo eb => ?_, acc ++ [.ref oa], r' ++ [o], upd_same, ?_, by rw [List.length_append]; show _ + 1 ≤ _; omega, fun h => by simp at h, fun _ => ⟨i, by omega, by rw [fo]; exact fun e => o0 (by rw [e]; rfl)⟩⟩
              · rw [upd_ne (ne_of_none eb hD2)]; exact sm9 _ _ eb
              · rw [List.map_append]
                exact (ImAll.mono (tk_lst eD2) _ ia).snoc (Im.mono (tk_lst eD2) _ (rat_mk hoa))
          · obtain ⟨sm9, acc, r', eD2, ia, la, hz, hnz⟩ := z
            refine ⟨by show 0 ≤ sizeLine; decide, fun e2 he2 => ?_⟩
            have sm10 : Same H9 (upd H9 e2 (.lst [])) := same_new he2
            refine ⟨_, _, .lst (.of (sm10 _ _ eD2)) (ImAll.dp _ (ImAll.mono (tk_same sm10) _ ia)), .lst (.of upd_same) .nil, shaped_vecL r', shaped_nil, ?_⟩
            rw [eqv_vecL_nil]
            generalize upd H9 e2 (.lst []) = G10 at *
            have s810 := sm9.trans sm10
            have T0 : Task 42 (2 ^ 139) 1 tn [] := task_mk (by decide) (by decide) (fun r hr => by simp at hr) (by decide) (by decide) (by decide) (by decide) (by decide) (by omega)
            have scT : Sc 42 (2 ^ 139) tr := sc_mono (sc_of (s := 42) (E := 42 * 10 ^ 40) fun x hx => ent_sn (ptr x hx)) (by decide)
            have iv10 : Im K G10 (.ref l) (vD tr) := .tup (it8.mono (tk_same s810)) (ImAll.mono (tk_same (s68.trans s810)) _ iT6)
            have ie10 := Im.mono (tk_same (sm8.trans s810)) _ ie7
            have els10 := s810 _ _ els
            have u10 := (u6.same s68).same s810
            rw [lta] at hz hnz
            cases hr' : r' with
            | nil =>
              refine .inr ⟨_, rfl, ls, _, 1, .str "made", rfl, rfl, .of els10, rfl, ?_⟩
              refine ⟨.ref e0, .ref l, "made", [], tr, tn, 42, 2 ^ 139, 1, rfl, ie10, iv10, T0, ltr, scT, .inr (word_nil_made ltr (by omega) (hz hr')).symm, fun H11 sm11 => ⟨true, rfl, iteF ⟨_, _, _, _, _, _, rfl, (u10.same sm11).less (by decide)⟩⟩⟩
            | cons o os =>
              obtain ⟨qq, hq, hq0⟩ := hnz (by rw [hr']; simp)
              refine .inr ⟨_, rfl, ls, _, 0, .str "apart", rfl, rfl, .of els10, rfl, ?_⟩
              refine ⟨.ref e0, .ref l, "apart", [], tr, tn, 42, 2 ^ 139, 1, rfl, ie10, iv10, T0, ltr, scT, .inr (word_nil_apart ltr hq hq0).symm, fun H11 sm11 => ⟨true, rfl, iteF ⟨_, _, _, _, _, _, rfl, (u10.same sm11).less (by decide)⟩⟩⟩
        · rintro σ' H11 ⟨z6, z8, z9, z11, z12, z13, rfl, u11⟩
          refine ⟨.ref c, rfl, c, L, 4, 50000, rfl, u11.less (by decide), by decide, by decide, fun d H12 d0 d4 u12 b12 => ⟨rfl, _, rfl, ?_⟩⟩
          by_cases hd : d = 0
          · rw [decide_eq_true (show V.int d = V.int 0 by rw [hd])]
            refine iteT ⟨.ref c, rfl, c, L, 40000, rfl, u12.less (by decide), fun B size p H13 lB hs hB iB u13 b13 => ?_⟩
            obtain ⟨p', xs, ep, hp, hxs⟩ := mat_inv iB
            obtain rfl := V.ref.inj ep
            have lx : xs.length = B.length := all_len hxs
            have hn := fun r hr => (hB r hr).1
            refine ⟨.ref p, rfl, p, rfl, .inr ⟨⟨xs, hp.sq⟩, fun W hW => ?_⟩⟩
            have neW := u13.ne hW
            refine lc_all (walk_tup (xs := xs)) (DrawI K c L W xs.length 1 30000 (Sn 3 3) H13) (draw_start (u13.less (by omega)) hW) (fun j H _ z => (hp.mono (z.but.tk u13)).sq) (fun j x H14 H15 hj z y => ?_) (fun H14 z => ?_)
            · obtain ⟨rfl, _⟩ := y
              have zc := z.cup hj
              refine ⟨rfl, by show 2 ≤ sizeLine; decide, fun t1 h1 => ⟨by show 2 ≤ sizeLine; decide, fun t2 h2 => ⟨by show 2 ≤ sizeLine; decide, fun t3 h3 => ⟨by show 2 ≤ sizeLine; decide, fun t4 h4 => ⟨_, rfl, by show 2 ≤ sizeLine; decide, fun t5 h5 => ⟨by show 5 ≤ sizeLine; decide, fun tl htl => ?_⟩⟩⟩⟩⟩⟩
              have s1 : Same H15 (upd H15 t1 (.tup [.int 0, .int 1])) := same_new h1
              have i1 : Im K (upd H15 t1 (.tup [.int 0, .int 1])) (.ref t1) (rD 0) := rat_mk (q := 0) (.inl upd_same)
              generalize upd H15 t1 (.tup [.int 0, .int 1]) = G1 at *
              have s2 : Same G1 (upd G1 t2 (.tup [.int 0, .int 1])) := same_new h2
              have i2 : Im K (upd G1 t2 (.tup [.int 0, .int 1])) (.ref t2) (rD 0) := rat_mk (q := 0) (.inl upd_same)
              generalize upd G1 t2 (.tup [.int 0, .int 1]) = G2 at *
              have s3 : Same G2 (upd G2 t3 (.tup [.int 0, .int 1])) := same_new h3
              have i3 : Im K (upd G2 t3 (.tup [.int 0, .int 1])) (.ref t3) (rD 0) := rat_mk (q := 0) (.inl upd_same)
              generalize upd G2 t3 (.tup [.int 0, .int 1]) = G3 at *
              have s4 : Same G3 (upd G3 t4 (.tup [.int 1, .int 1])) := same_new h4
              have i4 : Im K (upd G3 t4 (.tup [.int 1, .int 1])) (.ref t4) (rD 1) := rat_mk (q := 1) (.inl upd_same)
              generalize upd G3 t4 (.tup [.int 1, .int 1]) = G4 at *
              have s5 : Same G4 (upd G4 t5 (.tup [.int (-2), .int 3])) := same_new h5
              have i5 : Im K (upd G4 t5 (.tup [.int (-2), .int 3])) (.ref t5) (rD (Rat.divInt (-2) 3)) := by
                refine rat_mk (q := Rat.divInt (-2) 3) (.inl ?_)
                rw [show (Rat.divInt (-2) 3).num = -2 from by decide +kernel, show (Rat.divInt (-2) 3).den = 3 from by decide +kernel]
                exact upd_same
              generalize upd G4 t5 (.tup [.int (-2), .int 3]) = G5 at *
              have s6 : Same G5 (upd G5 tl (.lst [.ref t1, .ref t2, .ref t3, .ref t4, .ref t5])) := same_new htl
              have e6 : (upd G5 tl (.lst [.ref t1, .ref t2, .ref t3, .ref t4, .ref t5])) tl = some (.lst [.ref t1, .ref t2, .ref t3, .ref t4, .ref t5]) := upd_same
              have s15 := (((s1.trans s2).trans s3).trans s4).trans s5
              have u5' := zc.same s15
              have netl := u5'.ne htl
              generalize upd G5 tl (.lst [.ref t1, .ref t2, .ref t3, .ref t4, .ref t5]) = G6 at *
              have s16 := s15.trans s6
              refine ⟨.ref c, rfl, c, L, 5, _, rfl, u5'.same s6, by decide, by decide, fun dd H7 dd0 dd5 u7 b7 => ?_⟩
              have t26 := tk_same ((((s2.trans s3).trans s4).trans s5).trans s6)
              have t36 := tk_same (((s3.trans s4).trans s5).trans s6)
              have t46 := tk_same ((s4.trans s5).trans s6)
              have t56 := tk_same (s5.trans s6)
              have t66 := tk_same s6
              obtain ⟨v, y, gs, iv, sn⟩ : ∃ v y, atI [V.ref t1, .ref t2, .ref t3, .ref t4, .ref t5] dd = some v ∧ Im K G6 v (rD y) ∧ Sn 3 3 y := by
                have : dd = 0 ∨ dd = 1 ∨ dd = 2 ∨ dd = 3 ∨ dd = 4 := by omega
                rcases this with rfl | rfl | rfl | rfl | rfl
                · exact ⟨_, 0, rfl, Im.mono t26 _ i1, sn_zero _ _⟩
                · exact ⟨_, 0, rfl, Im.mono t36 _ i2, sn_zero _ _⟩
                · exact ⟨_, 0, rfl, Im.mono t46 _ i3, sn_zero _ _⟩
                · exact ⟨_, 1, rfl, Im.mono t56 _ i4, ⟨3, by decide +kernel, by decide⟩⟩
                · exact ⟨_, _, rfl, Im.mono t66 _ i5, sn_le (sn_mk (c := 1) (by decide) (by decide)) (by decide)⟩
              exact ⟨tl, _, dd, v, rfl, rfl, .of (b7 _ _ netl.1 netl.2 e6), gs, draw_step z hj (by omega) hW neW ((but_same s16).trans b7) u7 (Im.mono (b7.tk (u5'.same s6)) _ iv) sn⟩
            · obtain ⟨wr, wacc, lwr, pwr, b14, u14, eW, iW⟩ := z.done
              have iB14 := Im.mono (b14.tk u13) _ iB
              have rows18 : ∀ r ∈ B, r.length = size ∧ Sc 18 3456 r := fun r hr => ⟨hn r hr, by
                have := sc_up (u := 3) (F := 3456) (hB r hr).2 (by decide)
                rw [show (3 : Int) * 6 = 18 from by decide] at this
                exact this⟩
              have T18 : Task 18 3456 48 size B := task_mk (by decide) (by decide) rows18 lB (by decide) (by decide) (by decide) (by decide) hs
              have ne_nil : ∀ {H : Hp}, Im K H (.ref p) (mD B) → B ≠ [] → ∃ ys v0 b0 zs, ITup K H p ys ∧ ys[0]? = some v0 ∧ v0 = .ref b0 ∧ ITup K H b0 zs ∧ zs.length = size := by
                intro H i hB0
                obtain ⟨p', ys, ep, hp, hys⟩ := mat_inv i
                obtain rfl := V.ref.inj ep
                cases hBe : B with
                | nil => exact absurd hBe hB0
                | cons r rs =>
                  have h0 : B[0]? = some r := by rw [hBe]; rfl
                  obtain ⟨v0, hv0, iv0⟩ := all_at hys h0
                  obtain ⟨b0, zs, rfl, hb0, hzs⟩ := vec_inv iv0
                  exact ⟨ys, _, b0, zs, hp, hv0, rfl, hb0, by rw [all_len hzs]; exact hn r (List.mem_of_getElem? h0)⟩
              refine ⟨fun σ' H' => σ' = [some (.ref a), some (.ref c), y2, y3, y4, y5, some (.ref p), y7, z8, z9, some (.ref W), z11, z12, z13] ∧ Cup H' c L 20000 ∧ Im K H' (.ref p) (mD B), ?_, ?_⟩
              · refine ⟨.ref p, rfl, by show 0 ≤ sizeLine; decide, fun e he => ⟨_, _, Im.dp _ (Im.mono (tk_new he) _ iB14), Im.dp (.tuple []) (.tup (.inl upd_same) .nil), shaped_mat B, shaped_mat [], ?_⟩⟩
                rw [eqv_mat_nil]
                have sm15 : Same H14 (upd H14 e (.tup [])) := same_new he
                have iB15 := Im.mono (tk_same sm15) _ iB14
                have u15 := u14.same sm15
                have LW15 := LRow.same (K := K) (r := wr) ⟨wacc, eW, iW⟩ sm15
                generalize upd H14 e (.tup []) = G15 at *
                by_cases hB0 : B = []
                · rw [hB0] at iB15 ⊢
                  exact ⟨false, rfl, iteF ⟨rfl, u15.less (by decide), iB15⟩⟩
                · have eB : (!B.isEmpty) = true := by
                    cases B with
                    | nil => exact absurd rfl hB0
                    | cons _ _ => rfl
                  rw [eB]
                  obtain ⟨ys, v0, b0, zs, hp0, hv0, rfl, hb0, ez⟩ := ne_nil iB15 hB0
                  refine ⟨true, rfl, iteT ⟨.ref p, rfl, .ref W, rfl, .ref p, rfl, .ref p, rfl, p, ys, 0, _, rfl, rfl, .inr hp0.sq, atI_nat (j := 0) hv0, b0, zs, rfl, .inr hb0.sq, ?_⟩⟩
                  rw [ez]
                  refine ⟨W, .ref p, wr, B, size, 5, rfl, LW15, mt_tup iB15, by omega, by omega, hn, hs, by decide, by decide, fun y hy => sn_bd (pwr y hy) (by decide) (by decide) (by decide), fun r hr => sc_bd (hB r hr).2 (by decide) (by decide) (by decide), by have : 2 * 5 * B.length ≤ 2 * 5 * 48 := Nat.mul_le_mul_left _ lB; omega, fun p16 H16 sm16 np16 i16 => ?_⟩
                  have scT : Sc 18 3456 (vm size wr B) := by
                    have := sc_vm (B := 3456) hn pwr (fun r hr => (hB r hr).2) (by have : wr.length * (3 * 24) ≤ 48 * (3 * 24) := Nat.mul_le_mul_right _ (by omega); omega)
                    rw [show (3 : Int) * 6 = 18 from by decide] at this
                    exact this
                  exact ⟨.ref p, .ref p16, "made", B, vm size wr B, size, 18, 3456, 48, rfl, Im.mono (tk_same sm16) _ iB15, i16, T18, vm_length hn, scT, .inr (word_made T18).symm, fun H17 sm17 => ⟨true, rfl, iteF ⟨rfl, (u15.same (sm16.trans sm17)).less (by decide), Im.mono (tk_same (sm16.trans sm17)) _ iB15⟩⟩⟩
              · rintro σ' H18 ⟨rfl, u18, iB18⟩
                refine ⟨.ref p, rfl, by show 0 ≤ sizeLine; decide, fun e he => ⟨_, _, Im.dp _ (Im.mono (tk_new he) _ iB18), Im.dp (.tuple []) (.tup (.inl upd_same) .nil), shaped_mat B, shaped_mat [], ?_⟩⟩
                rw [eqv_mat_nil]
                have sm19 : Same H18 (upd H18 e (.tup [])) := same_new he
                have iB19 := Im.mono (tk_same sm19) _ iB18
                have u19 := u18.same sm19
                generalize upd H18 e (.tup []) = G19 at *
                by_cases hB0 : B = []
                · rw [hB0]
                  exact ⟨false, rfl, iteF (q _)⟩
                · have eB : (!B.isEmpty) = true := by
                    cases B with
                    | nil => exact absurd rfl hB0
                    | cons _ _ => rfl
                  rw [eB]
                  obtain ⟨ys, v0, b0, zs, hp0, hv0, rfl, hb0, ez⟩ := ne_nil iB19 hB0
                  refine ⟨true, rfl, iteT ⟨.ref p, rfl, .ref p, rfl, p, ys, 0, _, rfl, rfl, .inr hp0.sq, atI_nat (j := 0) hv0, b0, rfl, ⟨zs, hb0.sq⟩, fun D hD => ?_⟩⟩
                  have neD := u19.ne hD
                  refine lc_all (walk_tup (xs := zs)) (DrawI K c L D zs.length 1 10000 (Sn 1 1) G19) (draw_start (u19.less (by omega)) hD) (fun j H _ z => (hb0.mono (z.but.tk u19)).sq) (fun j x H20 H21 hj z y => ?_) (fun H20 z => ?_)
                  · obtain ⟨rfl, _⟩ := y
                    refine ⟨rfl, .ref c, rfl, c, L, 2, _, rfl, z.cup hj, by decide, by decide, fun a7 H7 a0 a2 u7 b7 => ⟨by show 2 ≤ sizeLine; decide, fun p hp => ?_⟩⟩
                    exact draw_step z hj (by omega) hD neD (b7.trans (but_same (same_new hp))) (u7.same (same_new hp)) (int_mk' (.inl upd_same)) (sn_le (sn_int 1 a7) (by omega))
                  · obtain ⟨tr, tacc, ltr, ptr, b20, u20, eT, iT⟩ := z.done
                    refine ⟨D, tacc, rfl, .inl ⟨.of eT, fun l22 hl22 => ?_⟩⟩
                    have sm22 : Same H20 (upd H20 l22 (.tup tacc)) := same_new hl22
                    have scT : Sc 18 3456 tr := by
                      have := sc_up (u := 18) (F := 3456) (sc_of ptr) (by decide)
                      rw [show (18 : Int) * 1 = 18 from by decide] at this
                      exact this
                    exact ⟨.ref p, .ref l22, "", B, tr, size, 18, 3456, 48, rfl, Im.mono ((b20.tk u19).trans (tk_same sm22)) _ iB19, .tup (.inl upd_same) (ImAll.mono (tk_same sm22) _ iT), T18, by rw [ltr, ez], scT, .inl rfl, fun H23 sm23 => ⟨true, rfl, iteF (q _)⟩⟩
          · rw [decide_eq_false (show ¬ V.int d = V.int 0 from fun z => hd (V.int.inj z))]
            exact iteF (q _)
end
end K39

set_option Elab.async false
set_option linter.all false
set_option maxRecDepth 100000
namespace K39
open PySem PySem.Spec PyProof.Rows L2 Ly Mt El
/-- the class C's def m -/
def HereM (K : PySem.W.Frag) (C : Addr) (m qual : Str) (st : Stmt) : Prop := ∃ f fd, Meth K C m f ∧ Fun K m qual st f fd
theorem hereM {K : PySem.W.Frag} {C f : Addr} {m qual : Str} {st : Stmt} {oc : Value} {od an : Option Addr} {osl : Array (Option Value)} {kV doc pm cdv ct : Value}
    (a : PySem.W.findIn K (.ref C) m = some (some (.ref f))) (i : PySem.W.isFn K (.ref f) = true)
    (l : K.lookup f = some ⟨oc, od, .func (PySem.W.fnOf m qual (defArgs st) (defBody st) (defScope st) .none kV doc pm an cdv ct), osl⟩)
    (c : PySem.W.codeIn K cdv qual = true) (k : PySem.W.keepIn K (.ref f) = true) : HereM K C m qual st := ⟨f, _, ⟨a, i, k⟩, fun_mk l c k⟩
theorem int_mk {K : PySem.W.Frag} {h : Heap} {mg : Str → Option Value} (X : K.In h) (G : h.Ns mainGlobals mg) {x : Str} {i : Int} {t : Tok} (a : PySem.W.nsIn K mainGlobals x = some (some (.int i t))) : ∃ u, mg x = some u ∧ L2.RelV (.int i) u := ⟨_, PySem.W.mg_of X G a, ⟨_, rfl⟩⟩
theorem noat {K : PySem.W.Frag} {C : Addr} {f : Str} (a : PySem.W.findIn K (.ref C) f = some none) : NoAttr K C f := a
set_option maxHeartbeats 0 in
theorem all_mk {l : PySem.W.OpenLaw} {w : World} {K : PySem.W.Frag} {mg : Str → Option Value} {fa C : Addr} (hfa : mg "law" = some (.ref fa)) (T : Tx K mg C) (mk : PySem.W.makesIn K C = true) (kc : PySem.W.keepIn K (.ref C) = true)
    (h_is_int : Here K mg "is_int" s_is_int) (h_is_pair : Here K mg "is_pair" s_is_pair) (h_is_ratio : Here K mg "is_ratio" s_is_ratio) (h_made : Here K mg "made" s_made) (h_minus : Here K mg "minus" s_minus) (h_times : Here K mg "times" s_times) (h_over : Here K mg "over" s_over) (h_opposite : Here K mg "opposite" s_opposite) (h_is_vector : Here K mg "is_vector" s_is_vector) (h_is_matrix : Here K mg "is_matrix" s_is_matrix) (h_need_vector : Here K mg "need_vector" s_need_vector) (h_need_matrix : Here K mg "need_matrix" s_need_matrix) (h_unit : Here K mg "unit" s_unit) (h_first_place : Here K mg "first_place" s_first_place) (h_less_row : Here K mg "less_row" s_less_row) (h_cleared : Here K mg "cleared" s_cleared) (h_taken_in : Here K mg "taken_in" s_taken_in) (h_made_of : Here K mg "made_of" s_made_of) (h__law_cup : Here K mg "_law_cup" s__law_cup) (h__law_sip : Here K mg "_law_sip" s__law_sip) (h__law_is_whole : Here K mg "_law_is_whole" s__law_is_whole) (h__law_ratio : Here K mg "_law_ratio" s__law_ratio) (h__law_is_ratio : Here K mg "_law_is_ratio" s__law_is_ratio) (h__law_is_vector : Here K mg "_law_is_vector" s__law_is_vector) (h__law_total : Here K mg "_law_total" s__law_total) (h__law_equals : Here K mg "_law_equals" s__law_equals) (h__law_entry : Here K mg "_law_entry" s__law_entry) (h__law_combine : Here K mg "_law_combine" s__law_combine) (h__law_wide : Here K mg "_law_wide" s__law_wide) (h__law_same : Here K mg "_law_same" s__law_same) (h__law_rows : Here K mg "_law_rows" s__law_rows) (h__law_marked : Here K mg "_law_marked" s__law_marked) (h__law_right : Here K mg "_law_right" s__law_right) (h__law_asked : Here K mg "_law_asked" s__law_asked) (h__law_dense_right : Here K mg "_law_dense_right" s__law_dense_right) (h_law : Here K mg "law" s_law)
    (m___init__ : HereM K C "__init__" "Solver.__init__" s_Solver_init) (m_left_of : HereM K C "left_of" "Solver.left_of" s_Solver_left_of) (m_weights : HereM K C "weights" "Solver.weights" s_Solver_weights) (m_marks : HereM K C "marks" "Solver.marks" s_Solver_marks) :
    ∃ fd : FuncData, (∀ (s : Shared) (v : Value), BindsTo s fd ⟨[v], []⟩ [("script", v)]) ∧ ∀ base : Heap, K.In base → base.Ns mainGlobals mg → FnOk l.prog w K mg base CX0 20 fa fd ["script"] (sp_law K) := by
  obtain ⟨f, fd, hm, F⟩ := h_law
  have e : f = fa := by
    have := hm.symm.trans hfa
    injection this with e1
    injection e1
  subst e
  refine ⟨fd, fun s v => ?_, fun base _ _ => ?_⟩
  · obtain ⟨oc, od, kV, doc, pm, an, cdv, ct, osl, rfl, lk, hcd⟩ := F.ex
    exact .of_eq rfl
  have D_is_int : Def l.prog w K mg base 1 "is_int" s_is_int ["thing"] sp_is_int := h_is_int.toDef (fun F => ok_is_int F T) fun _ _ _ _ _ _ us hl => match us, hl with | [_], _ => rfl
  have D_is_pair : Def l.prog w K mg base 1 "is_pair" s_is_pair ["thing"] (sp_is_pair K) := h_is_pair.toDef (fun F => ok_is_pair F T) fun _ _ _ _ _ _ us hl => match us, hl with | [_], _ => rfl
  have D_is_ratio : Def l.prog w K mg base 2 "is_ratio" s_is_ratio ["thing"] (sp_is_ratio K) := h_is_ratio.toDef (fun F => ok_is_ratio F T D_is_pair D_is_int (Nat.le_refl _)) fun _ _ _ _ _ _ us hl => match us, hl with | [_], _ => rfl
  have D_made : Def l.prog w K mg base 1 "made" s_made ["top", "bottom"] sp_made := h_made.toDef (fun F => ok_made F T) fun _ _ _ _ _ _ us hl => match us, hl with | [_, _], _ => rfl
  have D_minus : Def l.prog w K mg base 2 "minus" s_minus ["one", "other"] (sp_minus K) := h_minus.toDef (fun F => ok_minus F T D_made (Nat.le_refl _)) fun _ _ _ _ _ _ us hl => match us, hl with | [_, _], _ => rfl
  have D_times : Def l.prog w K mg base 2 "times" s_times ["one", "other"] (sp_times K) := h_times.toDef (fun F => ok_times F T D_made (Nat.le_refl _)) fun _ _ _ _ _ _ us hl => match us, hl with | [_, _], _ => rfl
  have D_over : Def l.prog w K mg base 2 "over" s_over ["one", "other"] (sp_over K) := h_over.toDef (fun F => ok_over F T D_made (Nat.le_refl _)) fun _ _ _ _ _ _ us hl => match us, hl with | [_, _], _ => rfl
  have D_opposite : Def l.prog w K mg base 1 "opposite" s_opposite ["one"] (sp_opposite K) := h_opposite.toDef (fun F => ok_opposite F T) fun _ _ _ _ _ _ us hl => match us, hl with | [_], _ => rfl
  have D_is_vector : Def l.prog w K mg base 3 "is_vector" s_is_vector ["thing"] (sp_is_vector K) := h_is_vector.toDef (fun F => ok_is_vector F T D_is_ratio (Nat.le_refl _)) fun _ _ _ _ _ _ us hl => match us, hl with | [_], _ => rfl
  have D_is_matrix : Def l.prog w K mg base 4 "is_matrix" s_is_matrix ["thing"] (sp_is_matrix K) := h_is_matrix.toDef (fun F => ok_is_matrix F T D_is_vector (Nat.le_refl _)) fun _ _ _ _ _ _ us hl => match us, hl with | [_], _ => rfl
  have D_need_vector : Def l.prog w K mg base 4 "need_vector" s_need_vector ["thing"] (sp_need_vector K) := h_need_vector.toDef (fun F => ok_need_vector F T D_is_vector (Nat.le_refl _)) fun _ _ _ _ _ _ us hl => match us, hl with | [_], _ => rfl
  have D_need_matrix : Def l.prog w K mg base 5 "need_matrix" s_need_matrix ["thing"] (sp_need_matrix K) := h_need_matrix.toDef (fun F => ok_need_matrix F T D_is_matrix (Nat.le_refl _)) fun _ _ _ _ _ _ us hl => match us, hl with | [_], _ => rfl
  have D_unit : Def l.prog w K mg base 1 "unit" s_unit ["index", "size"] (sp_unit K) := h_unit.toDef (fun F => ok_unit F T) fun _ _ _ _ _ _ us hl => match us, hl with | [_, _], _ => rfl
  have D_first_place : Def l.prog w K mg base 1 "first_place" s_first_place ["entries", "size"] (sp_first_place K) := h_first_place.toDef (fun F => ok_first_place F T) fun _ _ _ _ _ _ us hl => match us, hl with | [_, _], _ => rfl
  have D_less_row : Def l.prog w K mg base 3 "less_row" s_less_row ["entries", "factor", "row"] (sp_less_row K) := h_less_row.toDef (fun F => ok_less_row F T D_minus D_times (Nat.le_refl _)) fun _ _ _ _ _ _ us hl => match us, hl with | [_, _, _], _ => rfl
  have D_cleared : Def l.prog w K mg base 4 "cleared" s_cleared ["entries", "held"] (sp_cleared K) := h_cleared.toDef (fun F => ok_cleared F T D_less_row (Nat.le_refl _)) fun _ _ _ _ _ _ us hl => match us, hl with | [_, _], _ => rfl
  have D_taken_in : Def l.prog w K mg base 5 "taken_in" s_taken_in ["held", "entries", "size"] (sp_taken_in K) := h_taken_in.toDef (fun F => ok_taken_in F T D_cleared D_first_place D_over D_less_row (by decide) (by decide) (by decide) (by decide)) fun _ _ _ _ _ _ us hl => match us, hl with | [_, _, _], _ => rfl
  have I_Solver : Ini l.prog w K mg base 6 C ["self", "rows", "size"] (sp_init K C) := by
    obtain ⟨f, fd, M, F⟩ := m___init__
    exact ⟨⟨f, fd, ok_Solver_init F T D_taken_in D_unit (by decide) (by decide), ⟨mk, M.at_, M.fn, kc⟩, F.binds (ps := ["self", "rows", "size"]) fun _ _ _ _ _ _ us hl => match us, hl with | [_, _, _], _ => rfl⟩⟩
  have M_left_of : Met l.prog w K mg base 5 C "left_of" ["self", "target"] (sp_left_of K C) := by
    obtain ⟨f, fd, M, F⟩ := m_left_of
    exact ⟨⟨f, fd, ok_Solver_left_of F T D_cleared (by decide), M, F.binds (ps := ["self", "target"]) fun _ _ _ _ _ _ us hl => match us, hl with | [_, _], _ => rfl⟩⟩
  have M_weights : Met l.prog w K mg base 6 C "weights" ["self", "target"] (sp_weights K C) := by
    obtain ⟨f, fd, M, F⟩ := m_weights
    exact ⟨⟨f, fd, ok_Solver_weights F T M_left_of D_first_place D_opposite (by decide) (by decide) (by decide), M, F.binds (ps := ["self", "target"]) fun _ _ _ _ _ _ us hl => match us, hl with | [_, _], _ => rfl⟩⟩
  have M_marks : Met l.prog w K mg base 6 C "marks" ["self", "target"] (sp_marks K C) := by
    obtain ⟨f, fd, M, F⟩ := m_marks
    exact ⟨⟨f, fd, ok_Solver_marks F T M_left_of D_first_place D_over D_opposite (by decide) (by decide) (by decide) (by decide), M, F.binds (ps := ["self", "target"]) fun _ _ _ _ _ _ us hl => match us, hl with | [_, _], _ => rfl⟩⟩
  have D_made_of : Def l.prog w K mg base 8 "made_of" s_made_of ["rows", "target"] (sp_made_of K) := h_made_of.toDef (fun F => ok_made_of F T D_need_matrix D_need_vector I_Solver M_weights M_marks (by decide) (by decide) (by decide) (by decide) (by decide)) fun _ _ _ _ _ _ us hl => match us, hl with | [_, _], _ => rfl
  have D__law_cup : Def l.prog w K mg base 1 "_law_cup" s__law_cup ["script"] (sp_cup K) := h__law_cup.toDef (fun F => ok__law_cup F T) fun _ _ _ _ _ _ us hl => match us, hl with | [_], _ => rfl
  have D__law_sip : Def l.prog w K mg base 1 "_law_sip" s__law_sip ["cup", "many"] sp_sip := h__law_sip.toDef (fun F => ok__law_sip F T) fun _ _ _ _ _ _ us hl => match us, hl with | [_, _], _ => rfl
  have D__law_is_whole : Def l.prog w K mg base 1 "_law_is_whole" s__law_is_whole ["found"] sp_is_whole := h__law_is_whole.toDef (fun F => ok__law_is_whole F T) fun _ _ _ _ _ _ us hl => match us, hl with | [_], _ => rfl
  have D__law_ratio : Def l.prog w K mg base 1 "_law_ratio" s__law_ratio ["top", "bottom"] (sp_ratio K) := h__law_ratio.toDef (fun F => ok__law_ratio F T) fun _ _ _ _ _ _ us hl => match us, hl with | [_, _], _ => rfl
  have D__law_is_ratio : Def l.prog w K mg base 2 "_law_is_ratio" s__law_is_ratio ["found"] (sp_lis_ratio K) := h__law_is_ratio.toDef (fun F => ok__law_is_ratio F T D__law_is_whole D__law_ratio (by decide) (by decide)) fun _ _ _ _ _ _ us hl => match us, hl with | [_], _ => rfl
  have D__law_is_vector : Def l.prog w K mg base 3 "_law_is_vector" s__law_is_vector ["found", "size"] (sp_lis_vector K) := h__law_is_vector.toDef (fun F => ok__law_is_vector F T D__law_is_ratio (by decide)) fun _ _ _ _ _ _ us hl => match us, hl with | [_, _], _ => rfl
  have D__law_total : Def l.prog w K mg base 1 "_law_total" s__law_total ["ones", "others"] (sp_total K) := h__law_total.toDef (fun F => ok__law_total F T) fun _ _ _ _ _ _ us hl => match us, hl with | [_, _], _ => rfl
  have D__law_equals : Def l.prog w K mg base 1 "_law_equals" s__law_equals ["total", "ratio"] (sp_equals K) := h__law_equals.toDef (fun F => ok__law_equals F T) fun _ _ _ _ _ _ us hl => match us, hl with | [_, _], _ => rfl
  have D__law_entry : Def l.prog w K mg base 2 "_law_entry" s__law_entry ["cup", "great"] (sp_entry K) := h__law_entry.toDef (fun F => ok__law_entry F T D__law_sip D__law_ratio (Nat.le_refl _)) fun _ _ _ _ _ _ us hl => match us, hl with | [_, _], _ => rfl
  have bS : ∀ (kV doc pm : Value) (an : Option Addr) (cdv ct : Value) (us : List Value), us.length = (["found", "due"] : List Str).length → bindArgs (PySem.W.fnOf "_law_same" "_law_same" (defArgs s__law_same) (defBody s__law_same) (defScope s__law_same) .none kV doc pm an cdv ct) ⟨us, []⟩ = pure ((["found", "due"] : List Str).zip us) := fun _ _ _ _ _ _ us hl => match us, hl with | [_, _], _ => rfl
  have S0 : Def l.prog w K mg base 1 "_law_same" s__law_same ["found", "due"] (sp_same K 0) := h__law_same.toDef (fun F => ok_same0 F) bS
  have S1 : Def l.prog w K mg base 2 "_law_same" s__law_same ["found", "due"] (sp_same K 1) := h__law_same.toDef (fun F => ok__law_same F T S0 (Nat.le_refl _)) bS
  have S2 : Def l.prog w K mg base 3 "_law_same" s__law_same ["found", "due"] (sp_same K 2) := h__law_same.toDef (fun F => ok__law_same F T S1 (Nat.le_refl _)) bS
  have S3 : Def l.prog w K mg base 4 "_law_same" s__law_same ["found", "due"] (sp_same K 3) := h__law_same.toDef (fun F => ok__law_same F T S2 (Nat.le_refl _)) bS
  have S4 : Def l.prog w K mg base 5 "_law_same" s__law_same ["found", "due"] (sp_same K 4) := h__law_same.toDef (fun F => ok__law_same F T S3 (Nat.le_refl _)) bS
  have D__law_combine : Def l.prog w K mg base 2 "_law_combine" s__law_combine ["weights", "rows", "size"] (sp_combine K) := h__law_combine.toDef (fun F => ok__law_combine F T D__law_total D__law_ratio (by decide) (by decide)) fun _ _ _ _ _ _ us hl => match us, hl with | [_, _, _], _ => rfl
  have D__law_wide : Def l.prog w K mg base 2 "_law_wide" s__law_wide ["cup"] (sp_wide K) := h__law_wide.toDef (fun F => ok__law_wide F T D__law_sip D__law_ratio (by decide) (by decide)) fun _ _ _ _ _ _ us hl => match us, hl with | [_], _ => rfl
  have D__law_rows : Def l.prog w K mg base 3 "_law_rows" s__law_rows ["cup", "many", "size", "great"] (sp_rows K) := h__law_rows.toDef (fun F => ok__law_rows F T D__law_sip D__law_entry D__law_combine (by decide) (by decide) (by decide)) fun _ _ _ _ _ _ us hl => match us, hl with | [_, _, _, _], _ => rfl
  have D__law_marked : Def l.prog w K mg base 3 "_law_marked" s__law_marked ["cup", "rows", "size"] (sp_marked K) := h__law_marked.toDef (fun F => ok__law_marked F T D__law_sip D__law_entry D__law_total D__law_ratio (by decide) (by decide) (by decide) (by decide)) fun _ _ _ _ _ _ us hl => match us, hl with | [_, _, _], _ => rfl
  have D__law_right : Def l.prog w K mg base 4 "_law_right" s__law_right ["found", "rows", "target"] (sp_right K) := h__law_right.toDef (fun F => ok__law_right F T D__law_is_vector D__law_total D__law_equals (by decide) (by decide) (by decide)) fun _ _ _ _ _ _ us hl => match us, hl with | [_, _, _], _ => rfl
  have D__law_asked : Def l.prog w K mg base 9 "_law_asked" s__law_asked ["rows", "target", "due"] (sp_asked K) := h__law_asked.toDef (fun F => ok__law_asked F T D_made_of D__law_right S4 (by decide) (by decide) (by decide)) fun _ _ _ _ _ _ us hl => match us, hl with | [_, _, _], _ => rfl
  have D__law_dense_right : Def l.prog w K mg base 10 "_law_dense_right" s__law_dense_right ["cup"] (sp_dense K) := h__law_dense_right.toDef (fun F => ok__law_dense_right F T D__law_sip D__law_asked D__law_combine D__law_marked (by decide) (by decide) (by decide) (by decide)) fun _ _ _ _ _ _ us hl => match us, hl with | [_], _ => rfl
  exact ok_law F T D__law_cup D__law_sip D__law_rows D__law_entry D__law_asked D__law_combine D__law_marked D__law_dense_right D__law_wide (by decide) (by decide) (by decide) (by decide) (by decide) (by decide) (by decide) (by decide) (by decide)
end K39

set_option Elab.async false
set_option linter.all false
set_option maxRecDepth 100000
open PySem PySem.W PyProof.Rows
set_option maxHeartbeats 0 in
theorem PySem.Challenge.cw_sameontrees_k39_whole_made_or_apart_holds : PySem.Challenge.rw_sameontrees_k39_whole_made_or_apart.Holds := by
  w_on; o_law; k_head; (case hw => w_witness2)
  k_fill
  refine L2.walk_of (l := PySem.Challenge.rw_sameontrees_k39_whole_made_or_apart) (n := 63) (k := 20) (x := "script") (CX := fun _ => L2.CX0) (sp := fun w => K39.sp_law _) rfl (by decide) rfl ⟨rfl, by decide, by decide⟩ (fun w h Y => PySem.W.kIn_of Y) ?F (fun _ _ a ns hl _ hS => ⟨a, ns, rfl, hS, hl, fun _ => rfl⟩) (fun _ _ _ _ _ h => h)
  case F =>
    intro w mg fa h KX G hmg
    refine' K39.all_mk hmg ⟨PySem.W.mg_none_of KX G ?z0, PySem.W.mg_none_of KX G ?z1, PySem.W.mg_none_of KX G ?z2, PySem.W.mg_none_of KX G ?z3, PySem.W.mg_none_of KX G ?z4, PySem.W.mg_none_of KX G ?z5, PySem.W.mg_none_of KX G ?z6, PySem.W.mg_none_of KX G ?z7, PySem.W.mg_none_of KX G ?z8, PySem.W.mg_none_of KX G ?z9, PySem.W.mg_none_of KX G ?z10, PySem.W.mg_none_of KX G ?z11, PySem.W.mg_of KX G ?g1, K39.int_mk KX G ?g2, Ly.pair_mk KX G ?g3 ?g4, Ly.pair_mk KX G ?g5 ?g6, PySem.W.mg_of KX G ?aC, ⟨?pg, ?hd, ?po, ?sa⟩, K39.noat ?n1, K39.noat ?n2, K39.noat ?n3⟩ ?mk ?kc (Ly.here KX G ?a0 ?l0 ?c0 ?k0) (Ly.here KX G ?a1 ?l1 ?c1 ?k1) (Ly.here KX G ?a2 ?l2 ?c2 ?k2) (Ly.here KX G ?a3 ?l3 ?c3 ?k3) (Ly.here KX G ?a4 ?l4 ?c4 ?k4) (Ly.here KX G ?a5 ?l5 ?c5 ?k5) (Ly.here KX G ?a6 ?l6 ?c6 ?k6) (Ly.here KX G ?a7 ?l7 ?c7 ?k7) (Ly.here KX G ?a8 ?l8 ?c8 ?k8) (Ly.here KX G ?a9 ?l9 ?c9 ?k9) (Ly.here KX G ?a10 ?l10 ?c10 ?k10) (Ly.here KX G ?a11 ?l11 ?c11 ?k11) (Ly.here KX G ?a12 ?l12 ?c12 ?k12) (Ly.here KX G ?a13 ?l13 ?c13 ?k13) (Ly.here KX G ?a14 ?l14 ?c14 ?k14) (Ly.here KX G ?a15 ?l15 ?c15 ?k15) (Ly.here KX G ?a16 ?l16 ?c16 ?k16) (Ly.here KX G ?a17 ?l17 ?c17 ?k17) (Ly.here KX G ?a18 ?l18 ?c18 ?k18) (Ly.here KX G ?a19 ?l19 ?c19 ?k19) (Ly.here KX G ?a20 ?l20 ?c20 ?k20) (Ly.here KX G ?a21 ?l21 ?c21 ?k21) (Ly.here KX G ?a22 ?l22 ?c22 ?k22) (Ly.here KX G ?a23 ?l23 ?c23 ?k23) (Ly.here KX G ?a24 ?l24 ?c24 ?k24) (Ly.here KX G ?a25 ?l25 ?c25 ?k25) (Ly.here KX G ?a26 ?l26 ?c26 ?k26) (Ly.here KX G ?a27 ?l27 ?c27 ?k27) (Ly.here KX G ?a28 ?l28 ?c28 ?k28) (Ly.here KX G ?a29 ?l29 ?c29 ?k29) (Ly.here KX G ?a30 ?l30 ?c30 ?k30) (Ly.here KX G ?a31 ?l31 ?c31 ?k31) (Ly.here KX G ?a32 ?l32 ?c32 ?k32) (Ly.here KX G ?a33 ?l33 ?c33 ?k33) (Ly.here KX G ?a34 ?l34 ?c34 ?k34) (Ly.here KX G ?a35 ?l35 ?c35 ?k35) (K39.hereM ?ma0 ?mi0 ?ml0 ?mc0 ?mk0) (K39.hereM ?ma1 ?mi1 ?ml1 ?mc1 ?mk1) (K39.hereM ?ma2 ?mi2 ?ml2 ?mc2 ?mk2) (K39.hereM ?ma3 ?mi3 ?ml3 ?mc3 ?mk3)
    (case aC => k_is)
    (case a0 => k_is)
    (case l0 => k_is)
    (case c0 => k_is)
    (case k0 => k_is)
    (case a1 => k_is)
    (case l1 => k_is)
    (case c1 => k_is)
    (case k1 => k_is)
    (case a2 => k_is)
    (case l2 => k_is)
    (case c2 => k_is)
    (case k2 => k_is)
    (case a3 => k_is)
    (case l3 => k_is)
    (case c3 => k_is)
    (case k3 => k_is)
    (case a4 => k_is)
    (case l4 => k_is)
    (case c4 => k_is)
    (case k4 => k_is)
    (case a5 => k_is)
    (case l5 => k_is)
    (case c5 => k_is)
    (case k5 => k_is)
    (case a6 => k_is)
    (case l6 => k_is)
    (case c6 => k_is)
    (case k6 => k_is)
    (case a7 => k_is)
    (case l7 => k_is)
    (case c7 => k_is)
    (case k7 => k_is)
    (case a8 => k_is)
    (case l8 => k_is)
    (case c8 => k_is)
    (case k8 => k_is)
    (case a9 => k_is)
    (case l9 => k_is)
    (case c9 => k_is)
    (case k9 => k_is)
    (case a10 => k_is)
    (case l10 => k_is)
    (case c10 => k_is)
    (case k10 => k_is)
    (case a11 => k_is)
    (case l11 => k_is)
    (case c11 => k_is)
    (case k11 => k_is)
    (case a12 => k_is)
    (case l12 => k_is)
    (case c12 => k_is)
    (case k12 => k_is)
    (case a13 => k_is)
    (case l13 => k_is)
    (case c13 => k_is)
    (case k13 => k_is)
    (case a14 => k_is)
    (case l14 => k_is)
    (case c14 => k_is)
    (case k14 => k_is)
    (case a15 => k_is)
    (case l15 => k_is)
    (case c15 => k_is)
    (case k15 => k_is)
    (case a16 => k_is)
    (case l16 => k_is)
    (case c16 => k_is)
    (case k16 => k_is)
    (case a17 => k_is)
    (case l17 => k_is)
    (case c17 => k_is)
    (case k17 => k_is)
    (case a18 => k_is)
    (case l18 => k_is)
    (case c18 => k_is)
    (case k18 => k_is)
    (case a19 => k_is)
    (case l19 => k_is)
    (case c19 => k_is)
    (case k19 => k_is)
    (case a20 => k_is)
    (case l20 => k_is)
    (case c20 => k_is)
    (case k20 => k_is)
    (case a21 => k_is)
    (case l21 => k_is)
    (case c21 => k_is)
    (case k21 => k_is)
    (case a22 => k_is)
    (case l22 => k_is)
    (case c22 => k_is)
    (case k22 => k_is)
    (case a23 => k_is)
    (case l23 => k_is)
    (case c23 => k_is)
    (case k23 => k_is)
    (case a24 => k_is)
    (case l24 => k_is)
    (case c24 => k_is)
    (case k24 => k_is)
    (case a25 => k_is)
    (case l25 => k_is)
    (case c25 => k_is)
    (case k25 => k_is)
    (case a26 => k_is)
    (case l26 => k_is)
    (case c26 => k_is)
    (case k26 => k_is)
    (case a27 => k_is)
    (case l27 => k_is)
    (case c27 => k_is)
    (case k27 => k_is)
    (case a28 => k_is)
    (case l28 => k_is)
    (case c28 => k_is)
    (case k28 => k_is)
    (case a29 => k_is)
    (case l29 => k_is)
    (case c29 => k_is)
    (case k29 => k_is)
    (case a30 => k_is)
    (case l30 => k_is)
    (case c30 => k_is)
    (case k30 => k_is)
    (case a31 => k_is)
    (case l31 => k_is)
    (case c31 => k_is)
    (case k31 => k_is)
    (case a32 => k_is)
    (case l32 => k_is)
    (case c32 => k_is)
    (case k32 => k_is)
    (case a33 => k_is)
    (case l33 => k_is)
    (case c33 => k_is)
    (case k33 => k_is)
    (case a34 => k_is)
    (case l34 => k_is)
    (case c34 => k_is)
    (case k34 => k_is)
    (case a35 => k_is)
    (case l35 => k_is)
    (case c35 => k_is)
    (case k35 => k_is)
    (case ma0 => k_is)
    (case mi0 => k_is)
    (case ml0 => k_is)
    (case mc0 => k_is)
    (case mk0 => k_is)
    (case ma1 => k_is)
    (case mi1 => k_is)
    (case ml1 => k_is)
    (case mc1 => k_is)
    (case mk1 => k_is)
    (case ma2 => k_is)
    (case mi2 => k_is)
    (case ml2 => k_is)
    (case mc2 => k_is)
    (case mk2 => k_is)
    (case ma3 => k_is)
    (case mi3 => k_is)
    (case ml3 => k_is)
    (case mc3 => k_is)
    (case mk3 => k_is)
    (case z0 => k_is)
    (case z1 => k_is)
    (case z2 => k_is)
    (case z3 => k_is)
    (case z4 => k_is)
    (case z5 => k_is)
    (case z6 => k_is)
    (case z7 => k_is)
    (case z8 => k_is)
    (case z9 => k_is)
    (case z10 => k_is)
    (case z11 => k_is)
    (case g1 => k_is)
    (case g2 => k_is)
    (case g3 => k_is)
    (case g4 => k_is)
    (case g5 => k_is)
    (case g6 => k_is)
    (case pg => k_is)
    (case hd => k_is)
    (case po => k_is)
    (case sa => k_is)
    (case n1 => k_is)
    (case n2 => k_is)
    (case n3 => k_is)
    (case mk => k_is)
    (case kc => k_is)
