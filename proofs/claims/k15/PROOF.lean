import PyProof.Rows.All
import Wide.All
import OpenK.AllK
import Wide.FinOn
import PyProof.EqAt
import PyProof.EqKinds
import PyProof.TupleCall
import KE.KStateDown
import KE.GoesEnum
import KE.KDictPairs
import KE.IntTextLaws
import HandS.ForMost
import HandS.ForExc
import HandS.IsInst
import HandS.TupAny
import HandS.TupMul
import HandS.Deep
import HandS.Wide
import HandS.More
import HandS.Walk
import HandS.Zip
import HandS.Style
import HandS.Flow
import HandS.Defaults
import HandS.Conv
import HandS.EndBits
import HandS.Head0
import HandS.Head1
import HandS.Head2
import HandS.HeadEnd
import HandS.HeadHook1
import HandS.HeadHook2
import Lean
import PySem.Challenge.RW_lightcues_k15_written_and_read
set_option Elab.async false
set_option linter.all false
set_option maxRecDepth 100000
set_option maxHeartbeats 4000000
/-! Lc0: heaps that grow, data in the heap, operators for values of any kind. -/
namespace Lc
open PySem PySem.Spec PyProof.Rows L2

/-! ### heaps -/
/-- a tuple that is known to the object: it has no dict of its own -/
def IsT (H : Hp) (a : Addr) (xs : List V) : Prop := ∃ o : Obj, o.dict = none ∧ H a = some (.frz o (.tup xs))
theorem IsT.sq {K : PySem.W.Frag} {H : Hp} {a : Addr} {xs : List V} (h : IsT H a xs) : SqT K H a xs := let ⟨o, _, e⟩ := h; .inl (.inr ⟨o, e⟩)
theorem IsT.inj {H : Hp} {a : Addr} {xs ys : List V} (h : IsT H a xs) (h' : IsT H a ys) : xs = ys := by
  obtain ⟨o, _, e⟩ := h
  obtain ⟨o', _, e'⟩ := h'
  rw [e] at e'
  cases e'
  rfl
theorem IsT.some {H : Hp} {a : Addr} {xs : List V} (h : IsT H a xs) : ∃ o, H a = some o := let ⟨_, _, e⟩ := h; ⟨_, e⟩
/-- all but the cells of W stay; tuples stay; nothing goes -/
structure Ex (W : List Addr) (H H' : Hp) : Prop where
  fr : ∀ b u, b ∉ W → H b = some u → H' b = some u
  fz : ∀ b o u, H b = some (.frz o u) → H' b = some (.frz o u)
  tg : ∀ b xs, H b = some (.tup xs) → H' b = some (.tup xs)
  al : ∀ b, H' b = none → H b = none
theorem Ex.refl {W : List Addr} {H : Hp} : Ex W H H := ⟨fun _ _ _ h => h, fun _ _ _ h => h, fun _ _ h => h, fun _ h => h⟩
theorem Ex.trans {W : List Addr} {H H1 H2 : Hp} (a : Ex W H H1) (b : Ex W H1 H2) : Ex W H H2 :=
  ⟨fun c u n h => b.fr c u n (a.fr c u n h), fun c o u h => b.fz c o u (a.fz c o u h), fun c xs h => b.tg c xs (a.tg c xs h), fun c h => a.al c (b.al c h)⟩
theorem Ex.mono {W W' : List Addr} {H H' : Hp} (a : Ex W H H') (h : ∀ b, b ∈ W → b ∈ W') : Ex W' H H' := ⟨fun c u n q => a.fr c u (fun z => n (h c z)) q, a.fz, a.tg, a.al⟩
theorem Ex.any {W : List Addr} {H H' : Hp} (a : Ex [] H H') : Ex W H H' := a.mono fun _ h => nomatch h
theorem Ex.new {W : List Addr} {H : Hp} {p : Addr} {o : HO} (h : H p = none) : Ex W H (upd H p o) :=
  ⟨fun b u _ q => by rw [upd_ne (ne_of_none q h)]; exact q, fun b o u q => by rw [upd_ne (ne_of_none q h)]; exact q, fun b xs q => by rw [upd_ne (ne_of_none q h)]; exact q, fun b q => by
    by_cases e : b = p
    · subst e; exact h
    · rw [upd_ne e] at q; exact q⟩
/-- what may be written over -/
def Soft : HO → Prop
  | .frz _ _ => False
  | .tup _ => False
  | _ => True
/-- a cell that is no tuple is written -/
theorem Ex.put {W : List Addr} {H : Hp} {l : Addr} {o u : HO} (h : H l = some u) (hu : Soft u) (hl : l ∈ W) : Ex W H (upd H l o) :=
  ⟨fun b w n q => by rw [upd_ne (fun e : b = l => n (by rw [e]; exact hl))]; exact q,
   fun b o' w q => by rw [upd_ne (fun e => by subst e; rw [h] at q; cases q; exact hu)]; exact q,
   fun b xs q => by rw [upd_ne (fun e => by subst e; rw [h] at q; cases q; exact hu)]; exact q, fun b q => by
    by_cases e : b = l
    · subst e; rw [upd_same] at q; cases q
    · rw [upd_ne e] at q; exact q⟩
theorem Ex.puts {H : Hp} {l : Addr} {o : HO} {xs : List V} (h : H l = some (.lst xs)) : Ex [l] H (upd H l o) := Ex.put h trivial (List.mem_singleton.mpr rfl)
theorem Ex.putd {H : Hp} {l : Addr} {o : HO} {xs : List (Key × V)} (h : H l = some (.dK xs)) : Ex [l] H (upd H l o) := Ex.put h trivial (List.mem_singleton.mpr rfl)
/-- a cell that was not there at the start may change -/
theorem Ex.loc {W W' : List Addr} {H H1 H2 : Hp} (a : Ex W H H1) (b : Ex W' H1 H2) (h : ∀ l, l ∈ W' → l ∈ W ∨ H l = none) : Ex W H H2 :=
  ⟨fun c u n q => b.fr c u (fun z => (h c z).elim n fun e => by rw [e] at q; cases q) (a.fr c u n q), fun c o u q => b.fz c o u (a.fz c o u q), fun c xs q => b.tg c xs (a.tg c xs q), fun c q => a.al c (b.al c q)⟩
theorem Ex.loc1 {W : List Addr} {H H1 H2 : Hp} {l : Addr} (a : Ex W H H1) (b : Ex [l] H1 H2) (h : H l = none) : Ex W H H2 := a.loc b fun c hc => by
  have e : c = l := List.mem_singleton.mp hc
  subst e; exact .inr h
theorem Ex.get {W : List Addr} {H H' : Hp} {a : Addr} {o : HO} (e : Ex W H H') (n : a ∉ W) (h : H a = some o) : H' a = some o := e.fr a o n h
theorem Ex.get0 {H H' : Hp} {a : Addr} {o : HO} (e : Ex [] H H') (h : H a = some o) : H' a = some o := e.fr a o (fun z => nomatch z) h
theorem Ex.get1 {H H' : Hp} {a l : Addr} {o : HO} (e : Ex [l] H H') (n : a ≠ l) (h : H a = some o) : H' a = some o := e.fr a o (fun z => n (List.mem_singleton.mp z)) h
theorem Ex.isT {W : List Addr} {H H' : Hp} {a : Addr} {xs : List V} (e : Ex W H H') (h : IsT H a xs) : IsT H' a xs := let ⟨o, d, q⟩ := h; ⟨o, d, e.fz _ _ _ q⟩
theorem Ex.sqL {K : PySem.W.Frag} {W : List Addr} {H H' : Hp} {a : Addr} {xs : List V} (e : Ex W H H') (n : a ∉ W) (h : SqL K H a xs) : SqL K H' a xs := by
  rcases h with (h | ⟨o, h⟩) | h
  · exact .inl (.inl (e.get n h))
  · exact .inl (.inr ⟨o, e.get n h⟩)
  · exact .inr h
theorem ne_kind {H : Hp} {a b : Addr} {xs : List V} {u : HO} (h : IsT H a xs) (h' : H b = some u) (hu : Soft u) : a ≠ b := fun e => by
  subst e
  obtain ⟨o, _, q⟩ := h
  rw [q] at h'
  cases h'
  exact hu
/-- a new cell was not there -/
theorem ne_new {H : Hp} {a p : Addr} {o : HO} (h : H a = some o) (hp : H p = none) : a ≠ p := fun e => by subst e; rw [h] at hp; cases hp

/-! ### data: none, bools, ints, texts and tuples of such, as tracked tuples -/
mutual
def Rp (H : Hp) : PyData → V → Prop
  | .none, v => v = .non
  | .bool b, v => v = .bl b
  | .int i, v => v = .int i
  | .str s, v => v = .str s
  | .tuple ds, v => ∃ a xs, v = .ref a ∧ IsT H a xs ∧ RpAll H ds xs
  | .list _, _ => False
  | .dict _, _ => False
def RpAll (H : Hp) : List PyData → List V → Prop
  | [], xs => xs = []
  | d :: ds, xs => ∃ x r, xs = x :: r ∧ Rp H d x ∧ RpAll H ds r
end
mutual
theorem Rp.ex {W : List Addr} {H H' : Hp} (e : Ex W H H') : ∀ {d : PyData} {v : V}, Rp H d v → Rp H' d v
  | .none, _, h => by simpa only [Rp] using h
  | .bool _, _, h => by simpa only [Rp] using h
  | .int _, _, h => by simpa only [Rp] using h
  | .str _, _, h => by simpa only [Rp] using h
  | .tuple ds, _, h => by
    simp only [Rp] at h ⊢
    obtain ⟨a, xs, rfl, h1, h2⟩ := h
    exact ⟨a, xs, rfl, e.isT h1, RpAll.ex e h2⟩
  | .list _, _, h => by simp only [Rp] at h
  | .dict _, _, h => by simp only [Rp] at h
theorem RpAll.ex {W : List Addr} {H H' : Hp} (e : Ex W H H') : ∀ {ds : List PyData} {xs : List V}, RpAll H ds xs → RpAll H' ds xs
  | [], _, h => by simpa only [RpAll] using h
  | d :: ds, _, h => by
    simp only [RpAll] at h ⊢
    obtain ⟨x, r, rfl, h1, h2⟩ := h
    exact ⟨x, r, rfl, Rp.ex e h1, RpAll.ex e h2⟩
end
theorem RpAll.length {H : Hp} : ∀ {ds : List PyData} {xs : List V}, RpAll H ds xs → xs.length = ds.length
  | [], _, h => by simp only [RpAll] at h; subst h; rfl
  | d :: ds, _, h => by
    simp only [RpAll] at h
    obtain ⟨x, r, rfl, _, h2⟩ := h
    simp [RpAll.length h2]
theorem RpAll.get {H : Hp} : ∀ {ds : List PyData} {xs : List V} {i : Nat} {x : V}, RpAll H ds xs → xs[i]? = some x → ∃ d, ds[i]? = some d ∧ Rp H d x
  | [], _, i, x, h, e => by simp only [RpAll] at h; subst h; simp at e
  | d :: ds, _, i, x, h, e => by
    simp only [RpAll] at h
    obtain ⟨y, r, rfl, h1, h2⟩ := h
    cases i with
    | zero => simp at e; subst e; exact ⟨d, rfl, h1⟩
    | succ j => simp at e; obtain ⟨d', e', q⟩ := RpAll.get h2 e; exact ⟨d', by simpa using e', q⟩
theorem RpAll.get' {H : Hp} : ∀ {ds : List PyData} {xs : List V} {i : Nat} {d : PyData}, RpAll H ds xs → ds[i]? = some d → ∃ x, xs[i]? = some x ∧ Rp H d x
  | [], _, i, x, h, e => by simp at e
  | d :: ds, _, i, x, h, e => by
    simp only [RpAll] at h
    obtain ⟨y, r, rfl, h1, h2⟩ := h
    cases i with
    | zero => simp at e; subst e; exact ⟨y, rfl, h1⟩
    | succ j => simp at e; obtain ⟨d', e', q⟩ := RpAll.get' h2 e; exact ⟨d', by simpa using e', q⟩
theorem RpAll.append {H : Hp} : ∀ {ds es : List PyData} {xs ys : List V}, RpAll H ds xs → RpAll H es ys → RpAll H (ds ++ es) (xs ++ ys)
  | [], _, _, _, h, h' => by simp only [RpAll] at h; subst h; exact h'
  | d :: ds, _, _, _, h, h' => by
    simp only [RpAll] at h
    obtain ⟨y, r, rfl, h1, h2⟩ := h
    simp only [List.cons_append, RpAll]
    exact ⟨y, _, rfl, h1, RpAll.append h2 h'⟩
theorem RpAll.one {H : Hp} {d : PyData} {x : V} (h : Rp H d x) : RpAll H [d] [x] := by simp only [RpAll]; exact ⟨x, [], rfl, h, rfl⟩
theorem RpAll.take {H : Hp} : ∀ {ds : List PyData} {xs : List V} (n : Nat), RpAll H ds xs → RpAll H (ds.take n) (xs.take n)
  | [], _, n, h => by simp only [RpAll] at h; subst h; simp [RpAll]
  | d :: ds, _, 0, h => by simp [RpAll]
  | d :: ds, _, n + 1, h => by
    simp only [RpAll] at h
    obtain ⟨y, r, rfl, h1, h2⟩ := h
    simp only [List.take_succ_cons, RpAll]
    exact ⟨y, _, rfl, h1, RpAll.take n h2⟩
theorem RpAll.drop {H : Hp} : ∀ {ds : List PyData} {xs : List V} (n : Nat), RpAll H ds xs → RpAll H (ds.drop n) (xs.drop n)
  | [], _, n, h => by simp only [RpAll] at h; subst h; simp [RpAll]
  | d :: ds, _, 0, h => h
  | d :: ds, _, n + 1, h => by
    simp only [RpAll] at h
    obtain ⟨y, r, rfl, h1, h2⟩ := h
    simpa using RpAll.drop n h2
/-- the value of data is one -/
theorem Rp.int {H : Hp} {i : Int} : Rp H (.int i) (.int i) := by simp only [Rp]
theorem Rp.str {H : Hp} {s : Str} : Rp H (.str s) (.str s) := by simp only [Rp]
theorem Rp.non {H : Hp} : Rp H .none .non := by simp only [Rp]
theorem Rp.bl {H : Hp} {b : Bool} : Rp H (.bool b) (.bl b) := by simp only [Rp]
theorem Rp.tup {H : Hp} {a : Addr} {xs : List V} {ds : List PyData} (h : IsT H a xs) (hs : RpAll H ds xs) : Rp H (.tuple ds) (.ref a) := by simp only [Rp]; exact ⟨a, xs, rfl, h, hs⟩
theorem Rp.tup_inv {H : Hp} {v : V} {ds : List PyData} (h : Rp H (.tuple ds) v) : ∃ a xs, v = .ref a ∧ IsT H a xs ∧ RpAll H ds xs := by simpa only [Rp] using h
theorem RpAll.nil {H : Hp} : RpAll H [] [] := by simp only [RpAll]
theorem RpAll.cons {H : Hp} {d : PyData} {x : V} {ds : List PyData} {xs : List V} (h : Rp H d x) (hs : RpAll H ds xs) : RpAll H (d :: ds) (x :: xs) := by simp only [RpAll]; exact ⟨x, xs, rfl, h, hs⟩
theorem RpAll.cons_inv {H : Hp} {d : PyData} {ds : List PyData} {xs : List V} (h : RpAll H (d :: ds) xs) : ∃ x r, xs = x :: r ∧ Rp H d x ∧ RpAll H ds r := by simpa only [RpAll] using h
theorem RpAll.nil_inv {H : Hp} {xs : List V} (h : RpAll H [] xs) : xs = [] := by simpa only [RpAll] using h
mutual
theorem Rp.dp {K : PySem.W.Frag} {H : Hp} : ∀ {d : PyData} {v : V}, Rp H d v → Dp K H v d
  | .none, _, h => by simp only [Rp] at h; subst h; exact .non
  | .bool _, _, h => by simp only [Rp] at h; subst h; exact .bl _
  | .int _, _, h => by simp only [Rp] at h; subst h; exact .int _
  | .str _, _, h => by simp only [Rp] at h; subst h; exact .str _
  | .tuple ds, _, h => by
    simp only [Rp] at h
    obtain ⟨a, xs, rfl, h1, h2⟩ := h
    exact .tup h1.sq (RpAll.dp h2)
  | .list _, _, h => by simp only [Rp] at h
  | .dict _, _, h => by simp only [Rp] at h
theorem RpAll.dp {K : PySem.W.Frag} {H : Hp} : ∀ {ds : List PyData} {xs : List V}, RpAll H ds xs → DpAll K H xs ds
  | [], _, h => by simp only [RpAll] at h; subst h; exact .nil
  | d :: ds, _, h => by
    simp only [RpAll] at h
    obtain ⟨x, r, rfl, h1, h2⟩ := h
    exact .cons (Rp.dp h1) (RpAll.dp h2)
end

/-! ### what is made: a new object at p -/
def New (H : Hp) (o : HO) (Q : VK) : Prop := ∀ p H', H p = none → Ex [] H H' → H' p = some o → Q (.ref p) H'
theorem New.of {H : Hp} {o : HO} {Q : VK} (h : New H o Q) : ∀ p, H p = none → Q (.ref p) (upd H p o) := fun p hp => h p _ hp (.new hp) upd_same
/-- a tuple, maybe an old one -/
def Tup (H : Hp) (xs : List V) (Q : VK) : Prop := ∀ p H', Ex [] H H' → IsT H' p xs → Q (.ref p) H'
/-- a tuple just laid at the heap's end -/
theorem laid_tup {X : Cx} {pins : List (Addr × Obj)} {σ : L2.St} {H : Hp} {s : Shared} {Q : VK} {us : List Value} {xs : List V} {tk : Nat} (I : Inv X pins σ H s) (r : Vals xs us) (z : xs.length ≤ sizeLine) (q : Tup H xs Q) :
    EP X pins σ Q (.ref s.heap.objs.size) { s with heap := s.heap.push { cls := .type "tuple", data := .seq us.toArray }, toks := tk } := by
  have hf : H s.heap.objs.size = none := I.hok.fresh (Nat.le_refl _)
  have e : (s.heap.push ({ cls := .type "tuple", data := .seq us.toArray } : Obj)).get? s.heap.objs.size = some { cls := .type "tuple", data := .seq us.toArray } := Heap.get?_push_size _ rfl
  exact ⟨.ref s.heap.objs.size, upd H s.heap.objs.size (.frz { cls := .type "tuple", data := .seq us.toArray } (.tup xs)), I.laid (t' := tk) (fun b u e => Heap.get?_push_of_some _ e) (Nat.le_refl _) ⟨e, z, us, r, ⟨_, e, rfl, _, rfl⟩⟩, rfl,
    q _ _ (.new hf) ⟨_, rfl, upd_same⟩⟩
/-- (a, b, ..) -/
def tTupF (t : TA) : TE := fun σ H Q => t σ H fun xs H1 => xs.length ≤ sizeLine ∧ Tup H1 xs Q
theorem pe_tupF {X : Cx} {es : List Expr} {t : TA} {pos : Pos} {x1 : Nat} (h : PA X es t) : PE X (.Tuple es x1 pos) (tTupF t) := by
  refine ⟨fun pins s σ H Q I hq => ?_⟩
  refine wpAny_Tuple_spliced (thn (h.run pos pins s σ H _ I hq) fun us s1 ⟨xs, H1, I1, r, z, q⟩ => ⟨by rw [← r.length]; exact z, ?_⟩)
  exact laid_tup (tk := s1.toks) I1 r z q
/-- [a, b, ..] -/
def tLstF (t : TA) : TE := fun σ H Q => t σ H fun xs H1 => xs.length ≤ sizeLine ∧ New H1 (.lst xs) Q
theorem pe_lstF {X : Cx} {es : List Expr} {t : TA} {pos : Pos} (h : PA X es t) : PE X (.List es pos) (tLstF t) :=
  ⟨fun pins s σ H Q I hq => by
    refine wpAny_List_spliced (thn (h.run pos pins s σ H _ I hq) fun us s1 ⟨xs, H1, I1, r, z, q⟩ => ⟨by rw [← r.length]; exact z, ?_⟩)
    exact ⟨.ref s1.heap.objs.size, upd H1 s1.heap.objs.size (.lst xs), I1.laid (t' := s1.toks) (fun b u e => Heap.get?_push_of_some _ e) (Nat.le_refl _) ⟨z, us, 0, r, Heap.get?_push_size _ rfl⟩, rfl, q.of _ (I1.hok.fresh (Nat.le_refl _))⟩⟩

/-! ### + -/
def oAdd : R2 := fun x y H Q =>
  (∃ i j, x = .int i ∧ y = .int j ∧ Q (.int (i + j)) H) ∨
  (∃ i j, x = .str i ∧ y = .str j ∧ i.length + j.length ≤ sizeLine ∧ Q (.str (i ++ j)) H) ∨
  (∃ a b xs ys, x = .ref a ∧ y = .ref b ∧ IsT H a xs ∧ IsT H b ys ∧ xs.length + ys.length ≤ sizeLine ∧ Tup H (xs ++ ys) Q) ∨
  (∃ a b xs ys, x = .ref a ∧ y = .ref b ∧ H a = some (.lst xs) ∧ H b = some (.lst ys) ∧ xs.length + ys.length ≤ sizeLine ∧ New H (.lst (xs ++ ys)) Q)
theorem ox_add {X : Cx} : OpR X (binaryOp .Add) oAdd := by
  intro pins s σ H x y v u Q I rx ry h
  rcases h with h | h | ⟨a, b, xs, ys, rfl, rfl, h1, h2, h3, h⟩ | ⟨a, b, xs, ys, e1, e2, h1, h2, h3, h⟩
  · exact op_add pins s σ H x y v u Q I rx ry h
  · exact op_add_str pins s σ H x y v u Q I rx ry h
  · cases (show v = Value.ref a from rx)
    cases (show u = Value.ref b from ry)
    obtain ⟨its, r1, p1, _⟩ := I.tuple (h1.sq (K := X.K))
    obtain ⟨its2, r2, p2, _⟩ := I.tuple (h2.sq (K := X.K))
    by_cases hx : xs = []
    · subst hx
      cases r1
      exact cat_tup0 p1 p2 ⟨.ref b, H, I, rfl, h b H .refl h2⟩
    · refine HT.cat_tup p1 p2 (fun z => hx (r1.nil_iff.mp z)) (fun z => ⟨.ref a, H, I, rfl, h a H .refl ?_⟩) (fun z => ?_) (by rw [← r1.length, ← r2.length]; exact h3)
      · rw [r2.nil_iff.mp z, List.append_nil]
        exact h1
      · exact laid_tup (tk := s.toks) I (r1.append r2) (by rw [List.length_append]; exact h3) h
  · exact op_cat pins s σ H x y v u Q I rx ry ⟨a, b, xs, ys, e1, e2, h1, h2, h3, fun p hp => h.of p hp⟩
/-! ### * -/
def oMul : R2 := fun x y H Q =>
  (∃ i j, x = .int i ∧ y = .int j ∧ CMulW i j ∧ Q (.int (i * j)) H) ∨
  (∃ a k xs, x = .ref a ∧ y = .int k ∧ H a = some (.lst xs) ∧ 0 ≤ k ∧ k ≤ 1000 ∧ xs.length ≤ 1000 ∧ New H (.lst (List.replicate k.toNat xs).flatten) Q)
theorem ox_mul {X : Cx} : OpR X (binaryOp .Mult) oMul := by
  intro pins s σ H x y v u Q I rx ry h
  rcases h with h | ⟨a, k, xs, e1, e2, h1, h2, h3, h4, h⟩
  · exact op_mulW pins s σ H x y v u Q I rx ry h
  · refine op_rep pins s σ H x y v u Q I rx ry ⟨a, k, xs, e1, e2, h1, by omega, by omega, ?_, fun p hp => h.of p hp⟩
    have h6 : k.toNat ≤ 1000 := by omega
    have h7 := Nat.mul_le_mul h4 h6
    rw [sizeLine_eq]
    omega
def oSub : R2 := rI0 fun i j => .int (i - j)
theorem ox_sub {X : Cx} : OpR X (binaryOp .Sub) oSub := op_sub
def oDiv : R2 := rI CDivW fun i j => .int (i / j)
theorem ox_div {X : Cx} : OpR X (binaryOp .FloorDiv) oDiv := op_fdivW
def oMod : R2 := rI (fun _ j => 0 < j) fun i j => .int (i % j)
theorem ox_mod {X : Cx} : OpR X (binaryOp .Mod) oMod := op_mod
def oPow : R2 := rI CPow fun i j => .int (i ^ j.toNat)
theorem ox_pow {X : Cx} : OpR X (binaryOp .Pow) oPow := op_pow

/-! ### comparisons -/
def oEq (K : PySem.W.Frag) : R2 := fun x y H Q => rEq x y H Q ∨ rEqD K x y H Q
theorem ox_eq {X : Cx} (hu : X.A.units + 64 < cLine) : OpR X (compareOp .Eq) (oEq X.K) := OpR.or op_eq (op_eqD hu)
def oNe (K : PySem.W.Frag) : R2 := fun x y H Q => rNe x y H Q ∨ rNeD K x y H Q
theorem ox_ne {X : Cx} (hu : X.A.units + 64 < cLine) : OpR X (compareOp .NotEq) (oNe X.K) := OpR.or op_ne (op_neD hu)
def oLt : R2 := rI0 fun i j => .bl (decide (i < j))
def oLe : R2 := rI0 fun i j => .bl (decide (i ≤ j))
def oGt : R2 := rI0 fun i j => .bl (decide (j < i))
def oGe : R2 := rI0 fun i j => .bl (decide (j ≤ i))
theorem ox_lt {X : Cx} : OpR X (compareOp .Lt) oLt := op_lt
theorem ox_le {X : Cx} : OpR X (compareOp .LtE) oLe := op_le
theorem ox_gt {X : Cx} : OpR X (compareOp .Gt) oGt := op_gt
theorem ox_ge {X : Cx} : OpR X (compareOp .GtE) oGe := op_ge
def oIsN : R2 := fun x y H Q => y = .non ∧ Q (.bl (decide (x = .non))) H
def oNotN : R2 := fun x y H Q => y = .non ∧ Q (.bl (!decide (x = .non))) H
theorem ox_isN {X : Cx} : OpR X (compareOp .Is) oIsN := op_isN
theorem ox_notN {X : Cx} : OpR X (compareOp .IsNot) oNotN := op_notN
/-- in: among flat things; among data in a list; a dict's key; a sign of a text -/
def oIn (K : PySem.W.Frag) : R2 := fun x y H Q => rIn K false x y H Q ∨ rInD K x y H Q ∨ (∃ (c : Nat) (z : Str), x = .str ⟨#[c]⟩ ∧ y = .str z ∧ Q (.bl (decide (c ∈ z.cps.toList))) H) ∨ (∃ a o, y = .ref a ∧ DGet H a x o ∧ Q (.bl o.isSome) H)
def oNotIn (K : PySem.W.Frag) : R2 := fun x y H Q => rIn K true x y H Q ∨ rNotInD K x y H Q ∨ (∃ (c : Nat) (z : Str), x = .str ⟨#[c]⟩ ∧ y = .str z ∧ Q (.bl (!decide (c ∈ z.cps.toList))) H) ∨ (∃ a o, y = .ref a ∧ DGet H a x o ∧ Q (.bl (!o.isSome)) H)
theorem ox_din {X : Cx} (hu : X.A.units + 1 < cLine) : OpR X (compareOp .In) (fun x y H Q => ∃ a o, y = .ref a ∧ DGet H a x o ∧ Q (.bl o.isSome) H) := by
  intro pins s σ H x y v u Q I rx ry h
  obtain ⟨a, o, rfl, g, q⟩ := h
  cases ry
  exact d_in hu I g rx fun s' I' => ⟨.bl _, H, I', rfl, q⟩
theorem ox_dnotin {X : Cx} (hu : X.A.units + 1 < cLine) : OpR X (compareOp .NotIn) (fun x y H Q => ∃ a o, y = .ref a ∧ DGet H a x o ∧ Q (.bl (!o.isSome)) H) := by
  intro pins s σ H x y v u Q I rx ry h
  obtain ⟨a, o, rfl, g, q⟩ := h
  cases ry
  exact d_notIn hu I g rx fun s' I' => ⟨.bl _, H, I', rfl, q⟩
theorem ox_in {X : Cx} (hu : X.A.units + 65 < cLine) : OpR X (compareOp .In) (oIn X.K) := OpR.or op_in_seq (OpR.or (op_inD hu) (OpR.or op_in_sign (ox_din (by omega))))
theorem ox_notIn {X : Cx} (hu : X.A.units + 65 < cLine) : OpR X (compareOp .NotIn) (oNotIn X.K) := OpR.or op_notIn_seq (OpR.or (op_notInD hu) (OpR.or op_notIn_sign (ox_dnotin (by omega))))
theorem hu65 {A : Around} {k : Nat} (hr : Room k A) : A.units + 65 < cLine := by have := hr.un; omega

/-! ### o[i] -/
def oIx (K : PySem.W.Frag) : R2 := fun x y H Q => rIxL K x y H Q ∨ rIxT K x y H Q ∨ rIxS x y H Q ∨ (∃ a v, x = .ref a ∧ DGet H a y (some v) ∧ Q v H)
theorem ix_dict {X : Cx} (hu : X.A.units + 1 < cLine) : IxR X (fun x y H Q => ∃ a v, x = .ref a ∧ DGet H a y (some v) ∧ Q v H) := by
  intro value slice pins s σ H x y v u Q I rx ry h hs
  obtain ⟨a, w, rfl, g, q⟩ := h
  cases (show v = Value.ref a from rx)
  have hT := dict_typeIs I g
  have h2 := d_getItem (A := X.A) (E := X.xe) (Q := EP X pins σ Q) hu I g ry fun w' s' I' r => ⟨w, H, I', r, q⟩
  unfold subscriptTail
  refine wpAny_bind ?_
  rw [getitemInPython_of_ne hT.not_modules]
  refine wpAny_bind (wpAny_specialOf hT PySem.F.slot_dict_getitem.lookup ?_)
  have fin : wpAny (model X.prog X.w) X.A (subscripted slice false (.ref a) u) (fun r s₃ => wpAny (model X.prog X.w) X.A (letTemporaryGo value (.ref a) r >>= fun _ => pure r) (EP X pins σ Q) X.xe s₃) X.xe s := by
    rw [hs]
    exact wpAny_operating (wpAny_mono h2 (fun r s₃ h₃ => wpAny_bind (wpAny_letTemporaryGo (wpAny_pure h₃))) fun _ _ x => x)
  first
    | exact wpAny_pure (wpAny_bind fin)
    | exact wpAny_bind (wpAny_pure (wpAny_bind fin))
    | exact wpAny_bind fin
theorem ix_all {X : Cx} (hu : X.A.units + 65 < cLine) : IxR X (oIx X.K) := ix_list.or (ix_tup.or (ix_str.or (ix_dict (by omega))))
/-! ### o[i:j] -/
def oSl (K : PySem.W.Frag) : V → Option Int → Option Int → Hp → VK → Prop := fun x lo hi H Q =>
  (∃ a xs, x = .ref a ∧ SqL K H a xs ∧ New H (.lst (cutV xs lo hi)) Q) ∨ (∃ a xs, x = .ref a ∧ IsT H a xs ∧ Tup H (cutV xs lo hi) Q) ∨ rSlS x lo hi H Q
theorem cutV_whole {xs : List V} {lo hi : Option Int} (h : HT.sIx xs.length 0 lo = 0 ∧ HT.sIx xs.length xs.length hi = xs.length) : cutV xs lo hi = xs := by
  unfold cutV
  rw [h.1, h.2]
  simp
theorem sl_all {X : Cx} : SlR X (oSl X.K) := by
  refine SlR.or (r := fun x lo hi H Q => ∃ a xs, x = .ref a ∧ SqL X.K H a xs ∧ New H (.lst (cutV xs lo hi)) Q) ?_ (SlR.or (r := fun x lo hi H Q => ∃ a xs, x = .ref a ∧ IsT H a xs ∧ Tup H (cutV xs lo hi) Q) ?_ sl_str)
  · intro pins s σ H x v vl vu lo hi sl Q I r h1 h2 h3 h
    obtain ⟨a, xs, e, hs, h⟩ := h
    exact sl_list pins s σ H x v vl vu lo hi sl Q I r h1 h2 h3 ⟨a, xs, e, hs, fun p hp => h.of p hp⟩
  · intro pins s σ H x v vl vu lo hi sl Q I rx hs pl pu h
    obtain ⟨a, xs, rfl, hx, q⟩ := h
    cases (show v = Value.ref a from rx)
    obtain ⟨its, r, ht, hz⟩ := I.tuple (hx.sq (K := X.K))
    have hlen : its.toArray.size = xs.length := by rw [List.size_toArray]; exact r.length.symm
    refine ⟨"tuple", _, PyProof.Rows.slot_tuple_getitem.lookup, ht.typeIs, ?_⟩
    by_cases hw : HT.sIx xs.length 0 lo = 0 ∧ HT.sIx xs.length xs.length hi = xs.length
    · exact getItem_tuple_whole ht hs pl pu (by rw [hlen]; exact hw) ⟨.ref a, H, I, rfl, q a H .refl (by rw [cutV_whole hw]; exact hx)⟩
    · refine HT.getItem_tuple_cut ht hs pl pu (by rw [hlen]; exact hw) ?_ (by rw [hlen]; exact hz)
      rw [hlen]
      exact laid_tup (tk := s.toks) I ((r.drop (HT.sIx xs.length 0 lo)).take (HT.sIx xs.length xs.length hi - HT.sIx xs.length 0 lo)) (Nat.le_trans (cutV_length xs lo hi) hz) q
end Lc
/-! Lc1: calls of built-ins with one reading each; enumerate over a tuple; dict of a tuple of pairs; stores. -/
namespace Lc
open PySem PySem.Spec PyProof.Rows L2

/-! ### tuple(x), list(x) -/
def oTuple (K : PySem.W.Frag) : List V → Hp → VK → Prop := fun vs H Q => ∃ p ys, vs = [.ref p] ∧ ((SqL K H p ys ∧ Tup H ys Q) ∨ (IsT H p ys ∧ Q (.ref p) H))
theorem cl_tuple {X : Cx} : CallR X (.type "tuple") (oTuple X.K) := by
  intro pins s σ H xs us Q I r h
  obtain ⟨p, ys, rfl, h⟩ := h
  obtain ⟨u, rfl, rx⟩ := vals1 r
  cases (show u = Value.ref p from rx)
  rcases h with ⟨hq, q⟩ | ⟨hq, q⟩
  · obtain ⟨its, r', pl, hz⟩ := I.list hq
    have hlen := r'.length
    refine call_tuple_list pl.isList (fun h' kp => ?_) (by simp only [List.size_toArray] <;> omega)
    have I1 : Inv X pins σ H { s with heap := h' } := I.kept (t' := s.toks) kp
    exact laid_tup (s := { s with heap := h' }) (tk := s.toks) I1 r' hz q
  · obtain ⟨its, r', pl, hz⟩ := I.tuple (hq.sq (K := X.K))
    exact call_tuple_same pl ⟨.ref p, H, I, rfl, q⟩
def oList (K : PySem.W.Frag) : List V → Hp → VK → Prop := fun vs H Q => ∃ p ys, vs = [.ref p] ∧ (SqL K H p ys ∨ SqT K H p ys) ∧ New H (.lst ys) Q
theorem cl_list {X : Cx} : CallR X (.type "list") (oList X.K) := fun pins s σ H xs us Q I r ⟨p, ys, e, hq, h⟩ =>
  call_list_of pins s σ H xs us Q I r ⟨p, ys, e, hq, fun l hl => h.of l hl⟩
/-! ### dict(x) -/
def oDict (K : PySem.W.Frag) : List V → Hp → VK → Prop := fun vs H Q => ∃ (a : Addr) (ps : List Addr) (kvs : List (Key × V)), vs = [.ref a] ∧ (IsT H a (ps.map V.ref) ∨ SqL K H a (ps.map V.ref)) ∧
  Paired (fun p kv => IsT H p [kV kv.1, kv.2]) ps kvs ∧ New H (.dK (mergeK [] kvs)) Q
theorem paired_sq {K : PySem.W.Frag} {H : Hp} : ∀ {ps : List Addr} {kvs : List (Key × V)}, Paired (fun p kv => IsT H p [kV kv.1, kv.2]) ps kvs → Paired (fun p kv => SqT K H p [kV kv.1, kv.2]) ps kvs
  | _, _, .nil => .nil
  | _, _, .cons h t => .cons h.sq (paired_sq t)
theorem cl_dict {X : Cx} (hcalm : X.calm = true) : CallR X (.type "dict") (oDict X.K) := by
  intro pins s σ H xs us Q I r q
  obtain ⟨a, ps, kvs, ex, hq, hp, q⟩ := q
  rcases hq with hq | hq
  · subst ex
    obtain ⟨u, eu, rx⟩ := vals1 r
    subst eu
    cases (show u = Value.ref a from rx)
    obtain ⟨o, hod, hH⟩ := hq
    obtain ⟨hg, hz, its, rv, ob, hob, hcl, n, hdat⟩ := I.hok a _ hH
    rw [hg] at hob
    cases hob
    have ei := refs_at rv
    subst ei
    rw [List.length_map] at hz
    obtain ⟨prs, rel, hl, hpr⟩ := pairs_of I (paired_sq hp)
    -- the pairs' keys as they stand
    have hkeys : ∃ ws : List (Value × Value), ws.length = prs.length ∧ ∀ (j : Nat) (q' : Key × Value), prs[j]? = some q' → ∃ u, ws[j]? = some (u, q'.2) ∧ keyIs q'.1 u = true ∧ ∃ b, ps[j]? = some b ∧ IsTup s.heap b #[u, q'.2] := by
      have key : ∀ l : List (Key × Value), (∀ (j : Nat) (q' : Key × Value), l[j]? = some q' → ∃ u, keyIs q'.1 u = true ∧ ∃ b, ps[j + (prs.length - l.length)]? = some b ∧ IsTup s.heap b #[u, q'.2]) → l.length ≤ prs.length →
          ∃ ws : List (Value × Value), ws.length = l.length ∧ ∀ (j : Nat) (q' : Key × Value), l[j]? = some q' → ∃ u, ws[j]? = some (u, q'.2) ∧ keyIs q'.1 u = true ∧ ∃ b, ps[j + (prs.length - l.length)]? = some b ∧ IsTup s.heap b #[u, q'.2] := by
        intro l
        induction l with
        | nil => exact fun _ _ => ⟨[], rfl, fun j q' e => by simp at e⟩
        | cons z l ih =>
          intro h hle
          obtain ⟨u, hu, b, hb, ht⟩ := h 0 z rfl
          have hle' : l.length + 1 ≤ prs.length := by simpa using hle
          obtain ⟨ws, hw, hws⟩ := ih (fun j q' e => by
            obtain ⟨u', h1, b', h2, h3⟩ := h (j + 1) q' (by simpa using e)
            refine ⟨u', h1, b', ?_, h3⟩
            rw [← h2]
            congr 1
            simp only [List.length_cons]
            omega) (by omega)
          refine ⟨(u, z.2) :: ws, by simp [hw], fun j q' e => ?_⟩
          cases j with
          | zero =>
            have e' : z = q' := Option.some.inj e
            subst e'
            exact ⟨u, rfl, hu, b, hb, ht⟩
          | succ j =>
            obtain ⟨u', h1, h2, b', h3, h4⟩ := hws j q' (by simpa using e)
            refine ⟨u', by simpa using h1, h2, b', ?_, h4⟩
            rw [← h3]
            congr 1
            simp only [List.length_cons]
            omega
      obtain ⟨ws, h1, h2⟩ := key prs (fun j q' e => by
        obtain ⟨b, u, e1, e2, e3⟩ := hpr j q' e
        exact ⟨u, e3, b, by simpa using e1, e2⟩) (Nat.le_refl _)
      exact ⟨ws, h1, fun j q' e => by
        obtain ⟨u, a1, a2, b, a3, a4⟩ := h2 j q' e
        exact ⟨u, a1, a2, b, by simpa using a3, a4⟩⟩
    obtain ⟨ws, hwl, hws⟩ := hkeys
    have hpi : PairItems s.heap (ps.map Value.ref).toArray (fun j => ps.getD j 0) ws := by
      refine ⟨by simp [hwl, hl], fun j k v e => ?_⟩
      have hj : j < prs.length := by rw [← hwl]; exact (List.getElem?_eq_some_iff.mp e).1
      obtain ⟨u, a1, a2, b, a3, a4⟩ := hws j prs[j] (by simp [hj])
      rw [e] at a1
      have a1' := Option.some.inj a1
      injection a1' with b1 b2
      subst b1 b2
      exact ⟨by simp [a3], .inl (by simp only [List.getD_eq_getElem?_getD, a3, Option.getD_some]; exact a4)⟩
    refine PySem.call_dict_pairs (knd := mixKind X.prog X.w) (kvs := prs) (PairArg.tuple (prog := X.prog) (w := X.w) a (ps.map Value.ref).toArray (fun j => ps.getD j 0) ws) (I.ok.hd hcalm) ⟨⟨o, n, hg, hcl, hod, hdat⟩, hpi⟩ ⟨hwl.symm, fun i key v e => ?_⟩ (by rw [hwl, hl]; exact hz) fun h' tk hd' k => ?_
    · have hj : i < prs.length := by rw [← hwl]; exact (List.getElem?_eq_some_iff.mp e).1
      obtain ⟨u, a1, a2, _⟩ := hws i prs[i] (by simp [hj])
      rw [e] at a1
      have a1' := Option.some.inj a1
      injection a1' with b1 b2
      subst b1 b2
      exact ⟨prs[i].1, by simp [hj], a2⟩
    · have hm : (s.heap.objs.size == sysModules) = false := beq_eq_false_iff_ne.mpr (Nat.ne_of_gt I.big)
      have hlen : (mergeK [] kvs).length ≤ sizeLine := by
        refine Nat.le_trans (length_mergeK kvs []) ?_
        rw [List.length_nil, Nat.zero_add, rel.length, hl]
        exact hz
      exact ⟨.ref s.heap.objs.size, upd H s.heap.objs.size (.dK (mergeK [] kvs)), I.laid (t' := tk) (fun b o e => k b o (by simp) e) (Nat.le_refl _) (show ObjOk X.prog X.w _ _ _ (.dK (mergeK [] kvs)) from ⟨hlen, hm, merged [] prs, KV.merge rel .nil, hd'⟩), rfl, q.of _ (I.hok.fresh (Nat.le_refl _))⟩
  · exact call_dictP hcalm pins s σ H xs us Q I r ⟨a, ps, kvs, ex, hq, paired_sq hp, fun p hp => q.of p hp⟩
/-! ### sorted(d) -/
def oSorted : List V → Hp → VK → Prop := fun vs H Q => ∃ (a : Addr) (kvs : List (Key × V)) (ks : List Int), vs = [.ref a] ∧ H a = some (.dK kvs) ∧ kvs.map (·.1) = ks.map Sum.inl ∧ ks.length < 64 ∧
  ∀ ys : List Int, ys.Perm ks → ys.Pairwise (· ≤ ·) → New H (.lst (ys.map V.int)) Q
theorem cl_sorted {X : Cx} (hcalm : X.calm = true) : CallR X (.builtin "sorted") oSorted := fun pins s σ H xs us Q I r ⟨a, kvs, ks, e, h1, h2, h3, h⟩ =>
  call_sortedDI hcalm pins s σ H xs us Q I r ⟨a, kvs, ks, e, .inl h1, h2, h3, fun ys p hp hs hn => (h ys hp hs).of p hn⟩
/-! ### len, str, int, abs, min, max -/
def oLen (K : PySem.W.Frag) : List V → Hp → VK → Prop := fun vs H Q => ∃ x n, vs = [x] ∧ LenV K x H n ∧ Q (.int n) H
theorem cl_len {X : Cx} : CallR X (.builtin "len") (oLen X.K) := call_len
def oStr : List V → Hp → VK → Prop := fun vs H Q => ∃ i, vs = [.int i] ∧ i.natAbs.log2 < 1920 ∧ Q (.str (toString i)) H
theorem cl_str {X : Cx} : CallR X (.type "str") oStr := call_str_int
def oInt : List V → Hp → VK → Prop := fun vs H Q => (∃ k, vs = [.bl k] ∧ Q (.int (if k then 1 else 0)) H) ∨ (∃ a n, vs = [.str a] ∧ PySem.intText? a = some n ∧ a.length ≤ 640 ∧ Q (.int n) H)
theorem cl_int {X : Cx} : CallR X (.type "int") oInt := fun pins s σ H xs us Q I r h => by
  rcases h with h | h
  · exact call_int1 pins s σ H xs us Q I r (.inr h)
  · exact call_int_str pins s σ H xs us Q I r h
def oAbs : List V → Hp → VK → Prop := fun vs H Q => ∃ i, vs = [.int i] ∧ Q (.int (if i < 0 then -i else i)) H
theorem cl_abs {X : Cx} : CallR X (.builtin "abs") oAbs := call_abs
def oMax : List V → Hp → VK → Prop := fun vs H Q => ∃ i j, vs = [.int i, .int j] ∧ Q (.int (if j > i then j else i)) H
theorem cl_max {X : Cx} (hc : X.calm = true) : CallR X (.builtin "max") oMax := call_max2 hc
def oMin : List V → Hp → VK → Prop := fun vs H Q => ∃ i j, vs = [.int i, .int j] ∧ Q (.int (if j < i then j else i)) H
theorem cl_min {X : Cx} (hc : X.calm = true) : CallR X (.builtin "min") oMin := call_min2 hc
/-! ### isinstance -/
/-- a value's kind by its name -/
inductive Ki (K : PySem.W.Frag) (H : Hp) : V → String → Prop
  | non : Ki K H .non "NoneType"
  | bl (b : Bool) : Ki K H (.bl b) "bool"
  | int (i : Int) : Ki K H (.int i) "int"
  | str (s : Str) : Ki K H (.str s) "str"
  | tup {a : Addr} {xs : List V} (h : IsT H a xs) : Ki K H (.ref a) "tuple"
  | lst {a : Addr} {xs : List V} (h : H a = some (.lst xs)) : Ki K H (.ref a) "list"
  | dic {a : Addr} {xs : List (Key × V)} (h : H a = some (.dK xs)) : Ki K H (.ref a) "dict"
theorem Ki.ty {K : PySem.W.Frag} {H : Hp} {v : V} {T : String} (h : Ki K H v T) : TyX K H v (.type T) := by
  cases h with
  | non => exact .base .non
  | bl b => exact .base (.bl b)
  | int i => exact .base (.int i)
  | str s => exact .base (.str s)
  | tup h => obtain ⟨o, _, e⟩ := h; exact .fTuple e
  | lst h => exact .base (.lst h)
  | dic h => exact .base (.dK h)
/-- isinstance(x, T) -/
def oIsi (K : PySem.W.Frag) : List V → Hp → VK → Prop := fun vs H Q => ∃ (x : V) (T S : String) (b : Bool), vs = [x, .ty S] ∧ Ki K H x T ∧ kitB T S = some b ∧ Q (.bl b) H
theorem cl_isi {X : Cx} : CallR X (.builtin "isinstance") (oIsi X.K) := fun pins s σ H xs us Q I r ⟨x, T, S, b, e, hk, hb, h⟩ =>
  call_isi pins s σ H xs us Q I r ⟨x, .ty S, .type T, .type S, b, e, .ty S, hk.ty, kit_ty hb, h⟩
/-- isinstance(x, (T1, T2)) -/
def oIsi2 (K : PySem.W.Frag) : List V → Hp → VK → Prop := fun vs H Q => ∃ (x : V) (T S1 S2 : String) (b1 b2 : Bool) (tp : Addr), vs = [x, .ref tp] ∧ H tp = some (.tup [.ty S1, .ty S2]) ∧ Ki K H x T ∧ kitB T S1 = some b1 ∧ kitB T S2 = some b2 ∧ Q (.bl (b1 || b2)) H
theorem cl_isi2 {X : Cx} : CallR X (.builtin "isinstance") (oIsi2 X.K) := fun pins s σ H xs us Q I r ⟨x, T, S1, S2, b1, b2, tp, e, ht, hk, hb1, hb2, h⟩ => by
  refine call_isiT pins s σ H xs us Q I r ⟨x, tp, [.ty S1, .ty S2], .type T, [.type S1, .type S2], b1 || b2, e, ht, .cons (.ty S1) (.cons (.ty S2) .nil), hk.ty, kitAny_cons (kit_ty hb1) (fun e1 => ?_) (fun e1 => by rw [e1, Bool.true_or]), h⟩
  rw [e1, Bool.false_or]
  exact kitAny_cons (kit_ty hb2) (fun e2 => by rw [e2]; exact kitAny_nil) (fun e2 => e2)
theorem kb_nn_int : kitB "NoneType" "int" = some false := by decide +kernel
theorem kb_nn_bool : kitB "NoneType" "bool" = some false := by decide +kernel
theorem kb_nn_str : kitB "NoneType" "str" = some false := by decide +kernel
theorem kb_nn_tuple : kitB "NoneType" "tuple" = some false := by decide +kernel
theorem kb_nn_list : kitB "NoneType" "list" = some false := by decide +kernel
theorem kb_bl_int : kitB "bool" "int" = some true := by decide +kernel
theorem kb_bl_bool : kitB "bool" "bool" = some true := by decide +kernel
theorem kb_bl_str : kitB "bool" "str" = some false := by decide +kernel
theorem kb_bl_tuple : kitB "bool" "tuple" = some false := by decide +kernel
theorem kb_bl_list : kitB "bool" "list" = some false := by decide +kernel
theorem kb_int_int : kitB "int" "int" = some true := by decide +kernel
theorem kb_int_bool : kitB "int" "bool" = some false := by decide +kernel
theorem kb_int_str : kitB "int" "str" = some false := by decide +kernel
theorem kb_int_tuple : kitB "int" "tuple" = some false := by decide +kernel
theorem kb_int_list : kitB "int" "list" = some false := by decide +kernel
theorem kb_str_int : kitB "str" "int" = some false := by decide +kernel
theorem kb_str_bool : kitB "str" "bool" = some false := by decide +kernel
theorem kb_str_str : kitB "str" "str" = some true := by decide +kernel
theorem kb_str_tuple : kitB "str" "tuple" = some false := by decide +kernel
theorem kb_str_list : kitB "str" "list" = some false := by decide +kernel
theorem kb_tup_int : kitB "tuple" "int" = some false := by decide +kernel
theorem kb_tup_bool : kitB "tuple" "bool" = some false := by decide +kernel
theorem kb_tup_str : kitB "tuple" "str" = some false := by decide +kernel
theorem kb_tup_tuple : kitB "tuple" "tuple" = some true := by decide +kernel
theorem kb_tup_list : kitB "tuple" "list" = some false := by decide +kernel
theorem kb_lst_int : kitB "list" "int" = some false := by decide +kernel
theorem kb_lst_bool : kitB "list" "bool" = some false := by decide +kernel
theorem kb_lst_str : kitB "list" "str" = some false := by decide +kernel
theorem kb_lst_tuple : kitB "list" "tuple" = some false := by decide +kernel
theorem kb_lst_list : kitB "list" "list" = some true := by decide +kernel

/-! ### o[i] = v: a list's place, a dict's key -/
def oSet : TSet := fun o i v H Q => (∃ p xs k j, o = .ref p ∧ i = .int k ∧ H p = some (.lst xs) ∧ ixN xs.length k = some j ∧ ∀ H', Ex [p] H H' → H' p = some (.lst (xs.set j v)) → Q H') ∨
  (∃ p kvs k, o = .ref p ∧ i = kV k ∧ H p = some (.dK kvs) ∧ kvs.length < sizeLine ∧ ∀ H', Ex [p] H H' → H' p = some (.dK (putK kvs k v)) → Q H')
theorem st_all {X : Cx} (hu : X.A.units + 1 < cLine) : PSet X oSet := by
  intro pins s σ H o i v ov iv u Q I ro ri rv h
  rcases h with ⟨p, xs, k, j, e1, e2, h1, h2, h⟩ | ⟨p, kvs, k, rfl, rfl, h1, h2, h⟩
  · exact set_list pins s σ H o i v ov iv u Q I ro ri rv ⟨p, xs, k, j, e1, e2, h1, h2, h _ (.puts h1) upd_same⟩
  · cases (show ov = Value.ref p from ro)
    exact d_setItem hu I (DPut.k h1 h2) ri rv fun s' I' => ⟨_, I', h _ (.putd h1) upd_same⟩

/-! ### methods -/
def oAppend : V → List V → Hp → VK → Prop := fun x vs H Q => ∃ l xs y, x = .ref l ∧ vs = [y] ∧ H l = some (.lst xs) ∧ xs.length < sizeLine ∧ ∀ H', Ex [l] H H' → H' l = some (.lst (xs ++ [y])) → Q .non H'
theorem mx_append {X : Cx} : MtM X "list.append" oAppend := fun pins s σ H x xs v us Q I rx r ⟨l, ys, y, e1, e2, h1, h2, h⟩ =>
  mt_append pins s σ H x xs v us Q I rx r ⟨l, ys, y, e1, e2, h1, h2, h _ (.puts h1) upd_same⟩
/-- e.append(y) -/
def tApp (K : PySem.W.Frag) (to : TE) (t : TA) : TE := tBM K "list" oAppend to t

/-! ### enumerate(a tuple | a list) -/
/-- the tuple at a, each item in a new pair -/
def IteT (K : PySem.W.Frag) (a : Addr) : It :=
  ⟨fun i H => ∃ (xs : List V) (x : V), SqT K H a xs ∧ xs[i]? = some x, fun i H v H' => ∃ T x, v = .ref T ∧ H T = none ∧ H' = upd H T (.tup [.int (i : Nat), x]) ∧ ∀ xs, SqT K H a xs → xs[i]? = some x, fun i H => ∃ xs : List V, SqT K H a xs ∧ xs.length ≤ i⟩
theorem turn_enumT {P : Program} {w : World} {K : PySem.W.Frag} {elts : List Expr} {kk : Nat} {tpos : Pos} (a e it : Addr) :
    Turn P w K (.Tuple elts kk tpos) (IteT K a) [e, it] e (fun i h => (∃ old, IsEnum h e it ((i : Nat) : Int) old) ∧ h.IsTupleIter it a i ∧ e ≠ it) where
  mem := by simp
  obj := fun i h st b hb => by
    obtain ⟨⟨old, he⟩, ⟨o, ho, hc, hd⟩, _⟩ := st
    rcases (show b = e ∨ b = it by simpa using hb) with z | z
    · rw [z]; exact ⟨_, he, fun v q => nomatch q⟩
    · rw [z]; exact ⟨o, ho, fun v q => by rw [hd] at q; cases q⟩
  keep := fun i h h' st k => let ⟨⟨old, he⟩, hi, hne⟩ := st; ⟨⟨old, k e (by simp) _ he⟩, hi.at fun o q => k it (by simp) o q, hne⟩
  item := by
    intro X hP hw hK hc i pins s σ H E I hf st hg
    subst hP hw hK
    obtain ⟨⟨old, he⟩, hit, hne⟩ := st
    obtain ⟨xs, x, hq, hx⟩ := hg
    obtain ⟨its, rv, p, hz⟩ := I.tuple hq
    obtain ⟨u, hu, ru⟩ := rv.get hx
    have hel : e < s.heap.objs.size := Heap.lt_size he
    have hil : it < s.heap.objs.size := by obtain ⟨_, q, _⟩ := hit; exact Heap.lt_size q
    have hia : a ≠ it := fun z => by
      obtain ⟨o, ho, hcl, _⟩ := hit
      obtain ⟨o', ho', hcl', _⟩ := p
      rw [z, ho] at ho'
      cases ho'
      rw [hcl] at hcl'
      exact absurd hcl' (by decide +kernel)
    have hea : e ≠ a := fun z => by
      obtain ⟨o', ho', hcl', _⟩ := p
      have he' : s.heap.get? e = some _ := he
      rw [z, ho'] at he'
      cases he'
      exact absurd (show Value.type "enumerate" = Value.type "tuple" from hcl') (by decide +kernel)
    have hilen : i < its.toArray.size := by
      have := (List.getElem?_eq_some_iff.mp hu).1
      simpa using this
    refine wpAny_pyNext_enum_itemD (Draws.tuple (prog := X.prog) (w := X.w) (A := X.A.in1) (I.ok.hd hc) it a hia its.toArray) he ⟨hit, p⟩ hilen hne (by simp [hne, hea]) fun y h' tk hy ho hit' hT hsz hk => ?_
    have ey : y = u := by
      have h1 : its[i]? = some y := by simpa using hy
      rw [hu] at h1
      exact (Option.some.inj h1).symm
    subst ey
    refine ⟨_, rfl, wpAny_letOwnedTupleGo_enum (s := { s with heap := h', toks := tk + 1 }) ho fun h'' he' sb => ?_⟩
    have hT2 : h''.get? s.heap.objs.size = some { cls := .type "tuple", data := .seq #[.int i tk, y] } := (sb.2 _ (Nat.ne_of_gt hel)).trans hT
    have I1 : Inv X pins σ (upd H s.heap.objs.size (.tup [.int (i : Nat), x])) { s with heap := h'', toks := tk + 1 } :=
      I.turnedNew (ch := [e, it]) (fun b ob hb q => (sb.2 b (fun z => hb (by simp [z]))).trans (hk b ob (fun z => hb (by simp [z])) (fun z => hb (by simp [z])) q)) hf (Nat.le_refl _)
        ⟨by show 2 ≤ sizeLine; decide, [.int i tk, y], .cons ⟨_, rfl⟩ (.cons ru .nil), ⟨_, hT2, rfl, _, rfl⟩⟩
    refine ⟨.ref s.heap.objs.size, _, I1, rfl, ⟨_, x, rfl, I.hok.fresh (Nat.le_refl _), rfl, fun ys hy => by rw [I.tuple_inj hy hq]; exact hx⟩, ⟨⟨y, ?_⟩, hit'.1.at fun o q => (sb.2 it (Ne.symm hne)).trans q, hne⟩, fun b hb => ?_⟩
    · rw [show ((i + 1 : Nat) : Int) = (i : Int) + 1 by omega]; exact he'
    · have hb' : b < s.heap.objs.size := by
        rcases (show b = e ∨ b = it by simpa using hb) with z | z
        · rw [z]; exact hel
        · rw [z]; exact hil
      rw [upd_ne (Nat.ne_of_lt hb')]
      exact (hf b hb).1
  done := by
    intro X hP hw hK hc i pins s σ H E I hf st hg
    subst hP hw hK
    obtain ⟨⟨old, he⟩, hit, hne⟩ := st
    obtain ⟨xs, hq, hx⟩ := hg
    obtain ⟨its, rv, p, hz⟩ := I.tuple hq
    obtain ⟨f0, f1, f2, f3, f4, f5⟩ := hf it (by simp)
    have hl := rv.length
    have hia : a ≠ it := fun z => by
      obtain ⟨o, ho, hcl, _⟩ := hit
      obtain ⟨o', ho', hcl', _⟩ := p
      rw [z, ho] at ho'
      cases ho'
      rw [hcl] at hcl'
      exact absurd hcl' (by decide +kernel)
    -- the end, by the drawing's own rule at the place i
    have D : Draws X.prog X.w X.A.in1 it [it, a] its.toArray.size (fun i v => its.toArray[i]? = some v) (fun j h => (j = its.toArray.size → ∃ i, its.toArray.size ≤ i ∧ h.IsTupleIter it a i) ∧ (j < its.toArray.size → h.IsTupleIter it a j) ∧ h.IsTuple a its.toArray ∧ ∃ i, h.IsTupleIter it a i) := {
      live := fun _ _ st => let ⟨_, _, _, i, o, ho, _⟩ := st; ⟨o, ho⟩
      frame := fun j h h' st hk => ⟨fun z => let ⟨i, hi, q⟩ := st.1 z; ⟨i, hi, q.at fun o e => hk it (by simp) o e⟩, fun z => (st.2.1 z).at fun o e => hk it (by simp) o e, st.2.2.1.at fun o e => hk a (by simp) o e, let ⟨i, q⟩ := st.2.2.2; ⟨i, q.at fun o e => hk it (by simp) o e⟩⟩
      item := fun j s Q E hj st hQ => by
        refine wpAny_nextOf_tuple_item (st.2.1 hj) st.2.2.1 (x := its.toArray[j]) (by simp [hj]) fun h' hit' hs' => ?_
        exact hQ _ h' s.toks (by simp [hj]) ⟨fun z => ⟨j + 1, by omega, hit'⟩, fun _ => hit', st.2.2.1.extBut hs'.extBut hia, _, hit'⟩ hs'
      done := fun s Q E st hE => by
        obtain ⟨i, hi, q⟩ := st.1 rfl
        exact wpAny_nextOf_tuple_end (I.ok.hd hc) q st.2.2.1 (by simp; simpa using hi) hE }
    exact wpAny_pyNext_enum_endD D he ⟨fun _ => ⟨i, by simp; omega, hit⟩, fun z => absurd z (Nat.lt_irrefl _), p, i, hit⟩ fun h' eb => ⟨rfl, I.turned (t' := s.toks) (fun b o hb q => eb b o hb q) f0 f1 f3 f4 f5⟩
  self := fun A i s Q E st h => let ⟨⟨_, he⟩, _⟩ := st; wpAny_pyIter_enum he h
end Lc
/-! Lc2: enumerate of a tuple or a list, as what a loop walks; zip of two lists; loops with their targets. -/
namespace PySem
open Sem (wp)
set_option maxHeartbeats 1000000 in
theorem lc_enum_new {v : Value} {o : Obj} {H : Heap → Prop} (B : Begins v o H) :
    Meets (Builtin.«enumerate.__new__» ⟨[.type "enumerate", v], []⟩) (fun _ R s => H s.heap ∧
      R (.ok (.ret (.ref (s.heap.push o).objs.size))) { s with heap := (s.heap.push o).push { cls := .type "enumerate", data := .fields #[.none, .bool false, .ref s.heap.objs.size, rawInt 0, .none, .none] } }) :=
  .of_wp fun prog w A R s h => by
    obtain ⟨hp, g, d, tk, os⟩ := s; obtain ⟨h1, h⟩ := h
    have hsub := sub_enumerate
    have q1 : ∀ {A' : Around} {E : Value → Shared → Prop} {Q : Value → Shared → Prop}, Q (.ref hp.objs.size) ⟨hp.push o, g, d, tk, os⟩ → wpAny (model prog w) A' (pyIter v) Q E ⟨hp, g, d, tk, os⟩ :=
      fun q => B.iter prog w _ _ ⟨hp, g, d, tk, os⟩ _ h1 q
    wp_walk using q1
    refine wpAny_stack_any fun st => wpAny_pure ?_
    split
    · rename_i c _ _ _ _ _
      cases (c == Value.type "enumerate")
      · wp_walk using q1
        exact ⟨_, rfl, h⟩
      · wp_walk using q1
        exact ⟨_, rfl, h⟩
    · wp_walk using q1
      exact ⟨_, rfl, h⟩
section
variable {prog : Program} {w : World} {A : Around} {E : Value → Shared → Prop} {s : Shared}
theorem lc_enum_call {v : Value} {o : Obj} {H : Heap → Prop} {Q : Value → Shared → Prop} (B : Begins v o H) (h1 : H s.heap)
    (h : ∀ h', IsEnum h' (s.heap.objs.size + 1) s.heap.objs.size 0 .none → h'.get? s.heap.objs.size = some o → (∀ b o, s.heap.get? b = some o → h'.get? b = some o) → Q (.ref (s.heap.objs.size + 1)) { s with heap := h' }) :
    wpAny (model prog w) A (call (.type "enumerate") [v]) Q E s := by
  refine callType_new F.called_enumerate (by decide) (F.typeCall_enumerate_1 _) (F.newCall_enumerate_1 _) (fun obj => F.args_object_init_2 obj _) F.entry_enumerate_new (lc_enum_new B) ⟨h1, ?_⟩
  have hz : (s.heap.push o).objs.size = s.heap.objs.size + 1 := Heap.size_push ..
  show _ ∧ _
  rw [hz]
  have he : IsEnum ((s.heap.push o).push { cls := .type "enumerate", data := .fields #[.none, .bool false, .ref s.heap.objs.size, rawInt 0, .none, .none] }) (s.heap.objs.size + 1) s.heap.objs.size 0 .none := by
    have q := Heap.get?_push_size (s.heap.push o) (o := { cls := .type "enumerate", data := .fields #[.none, .bool false, .ref s.heap.objs.size, rawInt 0, .none, .none] }) rfl
    rw [hz] at q
    exact q
  exact ⟨⟨_, he, rfl⟩, h _ he (Heap.get?_push_of_some _ (Heap.get?_push_size _ B.free)) fun b o x => Heap.get?_push_of_some _ (Heap.get?_push_of_some _ x)⟩
end
end PySem
namespace Lc
open PySem PySem.Spec PyProof.Rows L2
def iEnumA (K : PySem.W.Frag) (ta : TA) : TI := fun σ H R => ta σ H fun vs H1 => ∃ a xs, vs = [.ref a] ∧ ((SqL K H1 a xs ∧ R (Ite K a) H1) ∨ (SqT K H1 a xs ∧ R (IteT K a) H1))
theorem pi_enumA {X : Cx} {e : Expr} {ta : TA} {p pos tpos : Pos} {elts : List Expr} {kk : Nat} (hg : Gl X "enumerate") (hm : X.mg "enumerate" = none) (ha : PA X [e] ta) (hs : starEach [e] X.env = [(false, eval e X.env)] := by rfl) :
    PI X (.Tuple elts kk tpos) (.Call (.Name "enumerate" p) [e] [] pos) (iEnumA X.K ta) := by
  refine ⟨fun pins s σ H R I h => ?_⟩
  refine Call_ (ld_blt I hg hm boot_enumerate (PyProof.Rows.callWith_type1 (thn (ha.run pos pins s σ H _ I h) fun us s1 ⟨vs, H1, I1, r1, q1⟩ => ?_) hs rfl))
  obtain ⟨a, xs, ex, q1⟩ := q1
  subst ex
  obtain ⟨u, rfl, rx⟩ := vals1 r1
  cases (show u = Value.ref a from rx)
  have fp : ∀ b ∈ [s1.heap.objs.size + 1, s1.heap.objs.size], s1.heap.objs.size ≤ b := fun b hb => by
    rcases (show b = s1.heap.objs.size + 1 ∨ b = s1.heap.objs.size by simpa using hb) with z | z
    · rw [z]; exact Nat.le_add_right _ _
    · rw [z]; exact Nat.le_refl _
  rcases q1 with ⟨hq, q⟩ | ⟨hq, q⟩
  · obtain ⟨its, rv, p', hz⟩ := I1.list hq
    refine call_enumerate_list p'.isList fun h' he hit hsz hk => wpAny_pyIter_enum he ?_
    have I2 : Inv X pins σ H1 { s1 with heap := h' } := I1.kept (t' := s1.toks) hk
    exact ⟨s1.heap.objs.size + 1, _, _, _, H1, rfl, I2, turn_enum a (s1.heap.objs.size + 1) s1.heap.objs.size, ⟨⟨.none, he⟩, hit, Nat.succ_ne_self _⟩, fun b hb => I1.fpOk (fp b hb) (I1.hok.fresh (fp b hb)), q⟩
  · obtain ⟨its, rv, p', hz⟩ := I1.tuple hq
    refine lc_enum_call (begins_tuple a its.toArray) p' fun h' he hit hk => wpAny_pyIter_enum he ?_
    have I2 : Inv X pins σ H1 { s1 with heap := h' } := I1.kept (t' := s1.toks) hk
    exact ⟨s1.heap.objs.size + 1, _, _, _, H1, rfl, I2, turn_enumT a (s1.heap.objs.size + 1) s1.heap.objs.size, ⟨⟨.none, he⟩, ⟨_, hit, rfl, rfl⟩, Nat.succ_ne_self _⟩, fun b hb => I1.fpOk (fp b hb) (I1.hok.fresh (fp b hb)), q⟩
theorem walk_enumT {K : PySem.W.Frag} {a : Addr} {xs : List V} : Walk (IteT K a) xs.length (fun H => SqT K H a xs) (YPair (fun i => some (.int (i : Nat))) (fun i => xs[i]?)) := by
  refine ⟨fun i _ hi q => ⟨xs, xs[i], q, by simp [hi]⟩, fun _ q => ⟨xs, q, Nat.le_refl _⟩, fun i H v H' _ q y => ?_⟩
  obtain ⟨T, x, h1, h2, h3, h4⟩ := y
  exact ⟨T, .int (i : Nat), x, h1, h2, h3, rfl, h4 xs q⟩
/-! ### loops: what a target of one or two names leaves -/
/-- behind a pair that a walk gave -/
theorem pair_got {K : PySem.W.Frag} {i j : Nat} {H H' : Hp} {T : Addr} {x y : V} {σ : L2.St} {Q : L2.St → Hp → Prop} (hn : H T = none) (e : H' = upd H T (.tup [x, y])) (h : Ex [] H H' → Q ((σ.set i (some x)).set j (some y)) H') :
    gTup K 2 (gCons (gName i) (gCons (gName j) gNil)) (.ref T) σ H' Q := by
  subst e
  exact ⟨T, [x, y], rfl, SqT.of upd_same, rfl, x, [y], rfl, y, [], rfl, rfl, h (.new hn)⟩
/-- a loop by its turns: the body's reading from Pv i to Pv (i + 1) -/
abbrev Fors (J : It) (g : TG) (tb : TS) (D : Ends) (σ : L2.St) (H : Hp) : Prop := ∃ W : Nat → Nat → L2.St → Hp → Prop, (∃ m, W 0 m σ H) ∧ ∀ i m σ H, W i m σ H →
      (J.stop i H ∧ D.nx σ H) ∨ (J.go i H ∧ ∃ N : L2.St → Hp → Prop, (∀ σ' H', N σ' H' → ∃ m', m' < m ∧ W (i + 1) m' σ' H') ∧ ∀ x H', J.yld i H x H' → g x σ H' fun σ2 H2 => tb { D with nx := N, ct := N, bk := D.nx } σ2 H2)
theorem for_enum {K : PySem.W.Frag} {a : Addr} {xs : List V} {i1 i2 : Nat} {tb : TS} {D : Ends} {σ : L2.St} {H : Hp} (Pv : Nat → L2.St → Hp → Prop) (h0 : Pv 0 σ H) (hl : ∀ i σ H, i ≤ xs.length → Pv i σ H → SqT K H a xs)
    (hs : ∀ i x σ H H', xs[i]? = some x → Pv i σ H → Ex [] H H' → tb { D with nx := Pv (i + 1), ct := Pv (i + 1), bk := D.nx } ((σ.set i1 (some (.int (i : Nat)))).set i2 (some x)) H') (hd : ∀ σ H, Pv xs.length σ H → D.nx σ H) :
    Fors (IteT K a) (gTup K 2 (gCons (gName i1) (gCons (gName i2) gNil))) tb D σ H :=
  for_it walk_enumT Pv h0 hl (fun i x σ H H' hi p ⟨T, x1, x2, e1, e2, e3, e4, e5⟩ => by
    subst e1
    cases e4
    exact pair_got e2 e3 fun ex => hs i x2 σ H H' e5 p ex) hd
theorem for_enumL {K : PySem.W.Frag} {a : Addr} {xs : List V} {i1 i2 : Nat} {tb : TS} {D : Ends} {σ : L2.St} {H : Hp} (Pv : Nat → L2.St → Hp → Prop) (h0 : Pv 0 σ H) (hl : ∀ i σ H, i ≤ xs.length → Pv i σ H → SqL K H a xs)
    (hs : ∀ i x σ H H', xs[i]? = some x → Pv i σ H → Ex [] H H' → tb { D with nx := Pv (i + 1), ct := Pv (i + 1), bk := D.nx } ((σ.set i1 (some (.int (i : Nat)))).set i2 (some x)) H') (hd : ∀ σ H, Pv xs.length σ H → D.nx σ H) :
    Fors (Ite K a) (gTup K 2 (gCons (gName i1) (gCons (gName i2) gNil))) tb D σ H :=
  for_it walk_enum Pv h0 hl (fun i x σ H H' hi p ⟨T, x1, x2, e1, e2, e3, e4, e5⟩ => by
    subst e1
    cases e4
    exact pair_got e2 e3 fun ex => hs i x2 σ H H' e5 p ex) hd
theorem for_zip2 {K : PySem.W.Frag} {a b : Addr} {xs ys : List V} {i1 i2 : Nat} {tb : TS} {D : Ends} {σ : L2.St} {H : Hp} (hn : xs.length = ys.length) (Pv : Nat → L2.St → Hp → Prop) (h0 : Pv 0 σ H) (hl : ∀ i σ H, i ≤ xs.length → Pv i σ H → SqL K H a xs ∧ SqL K H b ys)
    (hs : ∀ i x y σ H H', xs[i]? = some x → ys[i]? = some y → Pv i σ H → Ex [] H H' → tb { D with nx := Pv (i + 1), ct := Pv (i + 1), bk := D.nx } ((σ.set i1 (some x)).set i2 (some y)) H') (hd : ∀ σ H, Pv xs.length σ H → D.nx σ H) :
    Fors (Itz K a b) (gTup K 2 (gCons (gName i1) (gCons (gName i2) gNil))) tb D σ H :=
  for_it (walk_zip (n := xs.length) (by omega)) Pv h0 hl (fun i x σ H H' hi p ⟨T, x1, x2, e1, e2, e3, e4, e5⟩ => by
    subst e1
    exact pair_got e2 e3 fun ex => hs i x1 x2 σ H H' e4 e5 p ex) hd
end Lc
/-! Lc3: names of the module, calls of defs, methods; how readings are entered. -/
namespace Lc
open PySem PySem.Spec PyProof.Rows L2
section
variable {X : Cx}
theorem pe_gi {x : Str} {i : Int} {pos : Pos} (hg : Gl X x) (hm : ∃ t, X.mg x = some (.int i t)) (hd : (x == ("__debug__" : Str)) = false := by decide) : PE X (.Name x pos) (tC (.int i)) := let ⟨_, h⟩ := hm; pe_glob hg h ⟨_, rfl⟩ hd
theorem pe_gs {x z : Str} {pos : Pos} (hg : Gl X x) (hm : ∃ t, X.mg x = some (.str z t)) (hd : (x == ("__debug__" : Str)) = false := by decide) : PE X (.Name x pos) (tC (.str z)) := let ⟨_, h⟩ := hm; pe_glob hg h ⟨_, rfl⟩ hd
end
theorem bt_int : bootBuiltins "int" = some (.type "int") := by decide +kernel
theorem bt_bool : bootBuiltins "bool" = some (.type "bool") := by decide +kernel
theorem bt_str : bootBuiltins "str" = some (.type "str") := by decide +kernel
theorem bt_tuple : bootBuiltins "tuple" = some (.type "tuple") := by decide +kernel
theorem bt_list : bootBuiltins "list" = some (.type "list") := by decide +kernel
theorem bt_dict : bootBuiltins "dict" = some (.type "dict") := by decide +kernel
theorem bt_set : bootBuiltins "set" = some (.type "set") := by decide +kernel
theorem bt_len : bootBuiltins "len" = some (.builtin "len") := by decide +kernel
theorem bt_isinstance : bootBuiltins "isinstance" = some (.builtin "isinstance") := by decide +kernel
theorem bt_sorted : bootBuiltins "sorted" = some (.builtin "sorted") := by decide +kernel
theorem bt_abs : bootBuiltins "abs" = some (.builtin "abs") := by decide +kernel
theorem bt_min : bootBuiltins "min" = some (.builtin "min") := by decide +kernel
theorem bt_max : bootBuiltins "max" = some (.builtin "max") := by decide +kernel
/-- a def of the module by its name -/
def Fn (P : Program) (w : World) (K : PySem.W.Frag) (mg : Str → Option Value) (base : Heap) (CX : CXT) (x : Str) (k : Nat) (ps : List Str) (sp : Sp) : Prop :=
  ∃ f fd, FnOk P w K mg base CX k f fd ps sp ∧ mg x = some (.ref f) ∧ PySem.W.keepIn K (.ref f) = true ∧ Binds K fd ps []
section
variable {X : Cx} {k : Nat} {ps : List Str} {sp : Sp} {x : Str} {p pos : Pos} {e : Expr} {es : List Expr} {t : TA} {E : XK}
theorem pe_fn (F : Fn X.prog X.w X.K X.mg X.base CX0 x k ps sp) (hr : Room k X.A) (hg : Gl X x) (ha : PA X (e :: es) t)
    (hdb : (x == ("__debug__" : Str)) = false := by decide) (he : starEach (e :: es) X.env = (false, eval e X.env) :: starEach es X.env := by rfl) (hpl : (backTo pos (starEach es X.env)).any (·.1) = false := by rfl) :
    PE X (.Call (.Name x p) (e :: es) [] pos) (tCall sp [] E t) :=
  let ⟨_, _, G, hm, hk, hb⟩ := F
  pe_call G hr hg hm hk hb .nil (fun _ _ _ _ _ _ _ h => h.elim) ha hdb he hpl
theorem pe_fn0 (F : Fn X.prog X.w X.K X.mg X.base CX0 x k ps sp) (hr : Room k X.A) (hg : Gl X x) (ha : PA X (e :: es) t)
    (hdb : (x == ("__debug__" : Str)) = false := by decide) (he : starEach (e :: es) X.env = (false, eval e X.env) :: starEach es X.env := by rfl) (hpl : (backTo pos (starEach es X.env)).any (·.1) = false := by rfl) :
    PE X (.Call (.Name x p) (e :: es) [] pos) (tCall sp [] E0 t) := pe_fn F hr hg ha hdb he hpl
end
/-- from a def's place in the written part and its body's reading -/
theorem Fn.mk0 {P : Program} {w : World} {K : PySem.W.Frag} {mg : Str → Option Value} {base : Heap} {x : Str} {params : Arguments} {body : List Stmt} {scope : Scope} {f : Addr} {fd : FuncData} {N ps : List Str} {k : Nat} {sp : Sp} {t : XK → TS}
    (F : FunD K x x params body scope [] [] f fd) (hm : mg x = some (.ref f)) (hb : Binds K fd ps []) (S : FnScope N ps scope) (len : ∀ vs H Q E, sp vs H Q E → vs.length = ps.length)
    (hp : ∀ vs H Q E, sp vs H Q E → t E { nx := fun _ H' => Q .non H', rt := Q } (start N vs) H)
    (hbody : ∀ (cdv : Value) (A : Around) (outer : List Env) (s : Shared) (H : Hp) (E : XK), Room k (A.deeper (envOfC x scope s.heap.objs.size f cdv)) → PSs (cxOf CX0 P w K mg base N x scope f cdv A outer s H E).nox body (t E)) :
    Fn P w K mg base CX0 x (k + 1) ps sp :=
  ⟨f, fd, F.ok S len fun cdv A outer s H vs Q E hr h => ⟨t E, (hbody cdv A outer s H E hr).nox, hp vs H Q E h⟩, hm, F.kp, hb⟩
/-! ### {} and d.pop(k, x) -/
def tDNewF : TE := fun _ H Q => New H (.dK []) Q
theorem pe_dnewF {X : Cx} {pos : Pos} : PE X (.Dict [] [] pos) tDNewF := ⟨fun pins s σ H Q I h => pe_dnewK.run pins s σ H Q I fun p hp => h.of p hp⟩
def tDPopF (td ty tx : TE) : TE := fun σ H Q => td σ H fun x H1 => ∃ a, x = .ref a ∧ IsD H1 a ∧ ty σ H1 fun y H2 => tx σ H2 fun z H3 => ∃ kvs k, H3 a = some (.dK kvs) ∧ y = kV k ∧
  (∀ v, valV kvs k = some v → ∀ H', Ex [a] H3 H' → H' a = some (.dK (dropK kvs k)) → Q v H') ∧ (valV kvs k = none → Q z H3)
end Lc
/-! Lc4: readings, step by step. -/
namespace Lc
open PySem PySem.Spec PyProof.Rows L2
section
variable {σ : L2.St} {H : Hp} {Q : VK} {D : Ends} {K : PySem.W.Frag}
theorem i_var {i : Nat} {v : V} (e : σ[i]? = some (some v)) (h : Q v H) : tVar i σ H Q := ⟨v, e, h⟩
theorem i_c {v : V} (h : Q v H) : tC v σ H Q := h
theorem i_op {r : R2} {ta tb : TE} (h : ta σ H fun x H1 => tb σ H1 fun y H2 => r x y H2 Q) : tOp r ta tb σ H Q := h
theorem i_test {t : TE} {Q : Bool → Hp → Prop} (h : t σ H fun x H' => ∃ k, x = .bl k ∧ Q k H') : tTest t σ H Q := h
theorem i_tB {t : TE} {Q : Bool → Hp → Prop} (h : t σ H fun x H' => ∃ k, x = .bl k ∧ Q k H') : tB t σ H Q := h
theorem i_bl {b : Bool} {Q : Bool → Hp → Prop} (h : Q b H) : ∃ k, V.bl b = .bl k ∧ Q k H := ⟨b, rfl, h⟩
theorem i_not {t : TT} {Q : Bool → Hp → Prop} (h : t σ H fun c H1 => Q (!c) H1) : tNot t σ H Q := h
theorem i_and {t u : TT} {Q : Bool → Hp → Prop} (h : t σ H fun c H1 => if c = true then u σ H1 Q else Q false H1) : tAnd t u σ H Q := h
theorem i_or {t u : TT} {Q : Bool → Hp → Prop} (h : t σ H fun c H1 => if c = true then Q true H1 else u σ H1 Q) : tOr t u σ H Q := h
theorem i_andV {ta tb : TE} (h : ta σ H fun x H1 => ∃ c, x = .bl c ∧ if c = true then tb σ H1 Q else Q (.bl false) H1) : tAndV ta tb σ H Q := h
theorem i_orV {ta tb : TE} (h : ta σ H fun x H1 => ∃ c, x = .bl c ∧ if c = true then Q (.bl true) H1 else tb σ H1 Q) : tOrV ta tb σ H Q := h
theorem i_notV {ta : TE} (h : ta σ H fun x H1 => ∃ c, x = .bl c ∧ Q (.bl (!c)) H1) : tNotV ta σ H Q := h
theorem i_if {t : TT} {ta tb : TE} (h : t σ H fun c H1 => if c = true then ta σ H1 Q else tb σ H1 Q) : tIf t ta tb σ H Q := h
theorem i_chain {r r' : R2} {ta tb tc : TE} (h : ta σ H fun x H1 => tb σ H1 fun y H2 => r x y H2 fun z H3 => ∃ k, z = .bl k ∧ (if k = true then tc σ H3 fun w' H4 => r' y w' H4 Q else Q (.bl false) H3)) : tChain r r' ta tb tc σ H Q := h
theorem i_nil {Q : List V → Hp → Prop} (h : Q [] H) : tNil σ H Q := h
theorem i_cons {ta : TE} {tr : TA} {Q : List V → Hp → Prop} (h : ta σ H fun x H1 => tr σ H1 fun xs H2 => Q (x :: xs) H2) : tCons ta tr σ H Q := h
theorem i_tup {t : TA} (h : t σ H fun xs H1 => xs.length ≤ sizeLine ∧ Tup H1 xs Q) : tTupF t σ H Q := h
theorem i_tup0 {t : TA} (h : t σ H fun xs H1 => xs.length ≤ sizeLine ∧ ∀ p, H1 p = none → Q (.ref p) (upd H1 p (.tup xs))) : tTup t σ H Q := h
theorem i_lst {t : TA} (h : t σ H fun xs H1 => xs.length ≤ sizeLine ∧ New H1 (.lst xs) Q) : tLstF t σ H Q := h
theorem i_cb {r : List V → Hp → VK → Prop} {t : TA} (h : t σ H fun vs H1 => r vs H1 Q) : tCB r t σ H Q := h
theorem i_call {sp : Sp} {dvs : List V} {E : XK} {t : TA} (h : t σ H fun vs H1 => sp (vs ++ dvs) H1 Q E) : tCall sp dvs E t σ H Q := h
theorem i_sl {r : V → Option Int → Option Int → Hp → VK → Prop} {te : TE} {tl th : TO} (h : te σ H fun x H1 => tl σ H1 fun l H2 => th σ H2 fun u H3 => r x l u H3 Q) : tSl r te tl th σ H Q := h
theorem i_noPart {Q : Option Int → Hp → Prop} (h : Q none H) : tNoPart σ H Q := h
theorem i_part {t : TE} {Q : Option Int → Hp → Prop} (h : t σ H fun x H1 => ∃ i, x = .int i ∧ Q (some i) H1) : tPart t σ H Q := h
theorem i_exI {i : Int} {Q : Option Int → Hp → Prop} (h : Q (some i) H) : ∃ j, V.int i = .int j ∧ Q (some j) H := ⟨i, rfl, h⟩
theorem i_bm {T : String} {r : V → List V → Hp → VK → Prop} {to : TE} {t : TA} (h : to σ H fun x H1 => tyV K T x H1 ∧ t σ H1 fun xs H2 => r x xs H2 Q) : tBM K T r to t σ H Q := h
-- operators on values
theorem a_int {i j : Int} (h : Q (.int (i + j)) H) : oAdd (.int i) (.int j) H Q := .inl ⟨i, j, rfl, rfl, h⟩
theorem a_str {i j : Str} (z : i.length + j.length ≤ sizeLine) (h : Q (.str (i ++ j)) H) : oAdd (.str i) (.str j) H Q := .inr (.inl ⟨i, j, rfl, rfl, z, h⟩)
theorem a_tup {a b : Addr} {xs ys : List V} (h1 : IsT H a xs) (h2 : IsT H b ys) (z : xs.length + ys.length ≤ sizeLine) (h : Tup H (xs ++ ys) Q) : oAdd (.ref a) (.ref b) H Q := .inr (.inr (.inl ⟨a, b, xs, ys, rfl, rfl, h1, h2, z, h⟩))
theorem a_lst {a b : Addr} {xs ys : List V} (h1 : H a = some (.lst xs)) (h2 : H b = some (.lst ys)) (z : xs.length + ys.length ≤ sizeLine) (h : New H (.lst (xs ++ ys)) Q) : oAdd (.ref a) (.ref b) H Q := .inr (.inr (.inr ⟨a, b, xs, ys, rfl, rfl, h1, h2, z, h⟩))
theorem a_sub {i j : Int} (h : Q (.int (i - j)) H) : oSub (.int i) (.int j) H Q := ⟨i, j, rfl, rfl, h⟩
theorem a_mul {i j : Int} (c : CMulW i j) (h : Q (.int (i * j)) H) : oMul (.int i) (.int j) H Q := .inl ⟨i, j, rfl, rfl, c, h⟩
theorem a_rep {a : Addr} {k : Int} {xs : List V} (h1 : H a = some (.lst xs)) (h2 : 0 ≤ k) (h3 : k ≤ 1000) (h4 : xs.length ≤ 1000) (h : New H (.lst (List.replicate k.toNat xs).flatten) Q) : oMul (.ref a) (.int k) H Q := .inr ⟨a, k, xs, rfl, rfl, h1, h2, h3, h4, h⟩
theorem a_div {i j : Int} (c : CDivW i j) (h : Q (.int (i / j)) H) : oDiv (.int i) (.int j) H Q := ⟨i, j, rfl, rfl, c, h⟩
theorem a_mod {i j : Int} (c : 0 < j) (h : Q (.int (i % j)) H) : oMod (.int i) (.int j) H Q := ⟨i, j, rfl, rfl, c, h⟩
theorem a_pow {i j : Int} (c : CPow i j) (h : Q (.int (i ^ j.toNat)) H) : oPow (.int i) (.int j) H Q := ⟨i, j, rfl, rfl, c, h⟩
theorem a_lt {i j : Int} (h : Q (.bl (decide (i < j))) H) : oLt (.int i) (.int j) H Q := ⟨i, j, rfl, rfl, h⟩
theorem a_le {i j : Int} (h : Q (.bl (decide (i ≤ j))) H) : oLe (.int i) (.int j) H Q := ⟨i, j, rfl, rfl, h⟩
theorem a_gt {i j : Int} (h : Q (.bl (decide (j < i))) H) : oGt (.int i) (.int j) H Q := ⟨i, j, rfl, rfl, h⟩
theorem a_ge {i j : Int} (h : Q (.bl (decide (j ≤ i))) H) : oGe (.int i) (.int j) H Q := ⟨i, j, rfl, rfl, h⟩
theorem a_eqI {i j : Int} (h : Q (.bl (decide (i = j))) H) : oEq K (.int i) (.int j) H Q := .inl ⟨rfl, by
  have e : decide (V.int i = V.int j) = decide (i = j) := by by_cases z : i = j <;> simp [z]
  rw [e]; exact h⟩
theorem a_neI {i j : Int} (h : Q (.bl (decide (i ≠ j))) H) : oNe K (.int i) (.int j) H Q := .inl ⟨rfl, by
  have e : (!decide (V.int i = V.int j)) = decide (i ≠ j) := by by_cases z : i = j <;> simp [z]
  rw [e]; exact h⟩
theorem a_eqS {i j : Str} (h : Q (.bl (decide (i = j))) H) : oEq K (.str i) (.str j) H Q := .inl ⟨rfl, by
  have e : decide (V.str i = V.str j) = decide (i = j) := by by_cases z : i = j <;> simp [z]
  rw [e]; exact h⟩
theorem a_neS {i j : Str} (h : Q (.bl (decide (i ≠ j))) H) : oNe K (.str i) (.str j) H Q := .inl ⟨rfl, by
  have e : (!decide (V.str i = V.str j)) = decide (i ≠ j) := by by_cases z : i = j <;> simp [z]
  rw [e]; exact h⟩
theorem a_eqB {i j : Bool} (h : Q (.bl (i == j)) H) : oEq K (.bl i) (.bl j) H Q := .inl ⟨rfl, by rw [dec_bl]; exact h⟩
theorem a_neB {i j : Bool} (h : Q (.bl (!(i == j))) H) : oNe K (.bl i) (.bl j) H Q := .inl ⟨rfl, by rw [dec_bl]; exact h⟩
theorem a_isN {x : V} (h : Q (.bl (decide (x = .non))) H) : oIsN x .non H Q := ⟨rfl, h⟩
theorem a_notN {x : V} (h : Q (.bl (!decide (x = .non))) H) : oNotN x .non H Q := ⟨rfl, h⟩
-- o[i]
theorem a_ixT {a : Addr} {i : Int} {xs : List V} {v : V} (h1 : IsT H a xs) (h2 : atI xs i = some v) (h : Q v H) : oIx K (.ref a) (.int i) H Q := .inr (.inl ⟨a, xs, i, v, rfl, rfl, h1.sq, h2, h⟩)
theorem a_ixL {a : Addr} {i : Int} {xs : List V} {v : V} (h1 : H a = some (.lst xs)) (h2 : atI xs i = some v) (h : Q v H) : oIx K (.ref a) (.int i) H Q := .inl ⟨a, xs, i, v, rfl, rfl, SqL.of h1, h2, h⟩
theorem a_ixLq {a : Addr} {i : Int} {xs : List V} {v : V} (h1 : SqL K H a xs) (h2 : atI xs i = some v) (h : Q v H) : oIx K (.ref a) (.int i) H Q := .inl ⟨a, xs, i, v, rfl, rfl, h1, h2, h⟩
theorem a_ixD {a : Addr} {k : Key} {kvs : List (Key × V)} {v : V} (h1 : H a = some (.dK kvs)) (h2 : valV kvs k = some v) (h : Q v H) : oIx K (.ref a) (kV k) H Q := .inr (.inr (.inr ⟨a, v, rfl, h2 ▸ DGet.k h1, h⟩))
theorem a_ixDi {a : Addr} {i : Int} {kvs : List (Key × V)} {v : V} (h1 : H a = some (.dK kvs)) (h2 : valV kvs (Sum.inl i) = some v) (h : Q v H) : oIx K (.ref a) (.int i) H Q := a_ixD (k := Sum.inl i) h1 h2 h
theorem a_inDi {a : Addr} {i : Int} {kvs : List (Key × V)} (h1 : H a = some (.dK kvs)) (h : Q (.bl (valV kvs (Sum.inl i)).isSome) H) : oIn K (.int i) (.ref a) H Q := .inr (.inr (.inr ⟨a, _, rfl, DGet.k (k := Sum.inl i) h1, h⟩))
theorem a_notInDi {a : Addr} {i : Int} {kvs : List (Key × V)} (h1 : H a = some (.dK kvs)) (h : Q (.bl (!(valV kvs (Sum.inl i)).isSome)) H) : oNotIn K (.int i) (.ref a) H Q := .inr (.inr (.inr ⟨a, _, rfl, DGet.k (k := Sum.inl i) h1, h⟩))
-- lengths
theorem l_T {a : Addr} {xs : List V} (h1 : IsT H a xs) (h : Q (.int xs.length) H) : oLen K [.ref a] H Q := ⟨_, xs.length, rfl, .inr ⟨xs, h1.sq, rfl⟩, h⟩
theorem l_L {a : Addr} {xs : List V} (h1 : H a = some (.lst xs)) (h : Q (.int xs.length) H) : oLen K [.ref a] H Q := ⟨_, xs.length, rfl, .inl ⟨xs, SqL.of h1, rfl⟩, h⟩
theorem l_Lq {a : Addr} {xs : List V} (h1 : SqL K H a xs) (h : Q (.int xs.length) H) : oLen K [.ref a] H Q := ⟨_, xs.length, rfl, .inl ⟨xs, h1, rfl⟩, h⟩
theorem l_S {z : Str} (h1 : z.length ≤ sizeLine) (h : Q (.int z.length) H) : oLen K [.str z] H Q := ⟨_, z.length, rfl, ⟨h1, rfl⟩, h⟩
-- isinstance
theorem k_isi {x : V} {T S : String} {b : Bool} (h1 : Ki K H x T) (h2 : kitB T S = some b) (h : Q (.bl b) H) : oIsi K [x, .ty S] H Q := ⟨x, T, S, b, rfl, h1, h2, h⟩
-- statements
theorem i_seq {t u : TS} (h : t { D with nx := u D } σ H) : tSeq t u D σ H := h
theorem i_asg {te : TE} {g : TG} (h : te σ H fun x H1 => g x σ H1 D.nx) : tAsg te g D σ H := h
theorem i_gn {i : Nat} {v : V} {Q : L2.St → Hp → Prop} (h : Q (σ.set i (some v)) H) : gName i v σ H Q := h
theorem i_ret {te : TE} (h : te σ H D.rt) : tRet te D σ H := h
theorem i_drop {te : TE} (h : te σ H fun _ H1 => D.nx σ H1) : tDrop te D σ H := h
theorem i_ifS {c : TT} {t u : TS} (h : c σ H fun b H1 => if b = true then t D σ H1 else u D σ H1) : tIfS c t u D σ H := h
theorem i_next (h : D.nx σ H) : tNext D σ H := h
theorem i_par {i j : Nat} {ta : TA} (h : ta σ H fun vs H1 => ∃ v w, vs = [v, w] ∧ D.nx ((σ.set i (some v)).set j (some w)) H1) : tPar i j ta D σ H := h
theorem i_par1 {i j : Nat} {x y : V} (h : D.nx ((σ.set i (some x)).set j (some y)) H) : ∃ v w, [x, y] = [v, w] ∧ D.nx ((σ.set i (some v)).set j (some w)) H := ⟨x, y, rfl, h⟩
theorem i_gsub {to ti : TE} {t : TSet} {v : V} {Q : L2.St → Hp → Prop} (h : to σ H fun o H1 => ti σ H1 fun i H2 => t o i v H2 fun H3 => Q σ H3) : gSub to ti t v σ H Q := h
theorem s_lst {p : Addr} {k : Int} {j : Nat} {xs : List V} {v : V} {Q : Hp → Prop} (h1 : H p = some (.lst xs)) (h2 : ixN xs.length k = some j) (h : ∀ H', Ex [p] H H' → H' p = some (.lst (xs.set j v)) → Q H') : oSet (.ref p) (.int k) v H Q := .inl ⟨p, xs, k, j, rfl, rfl, h1, h2, h⟩
theorem s_dic {p : Addr} {i : Int} {kvs : List (Key × V)} {v : V} {Q : Hp → Prop} (h1 : H p = some (.dK kvs)) (h2 : kvs.length < sizeLine) (h : ∀ H', Ex [p] H H' → H' p = some (.dK (putK kvs (Sum.inl i) v)) → Q H') : oSet (.ref p) (.int i) v H Q := .inr ⟨p, kvs, Sum.inl i, rfl, rfl, h1, h2, h⟩
-- tests
theorem b_t {A B : Prop} {b : Bool} (hb : b = true) (h : A) : if b = true then A else B := by rw [if_pos hb]; exact h
theorem b_f {A B : Prop} {b : Bool} (hb : b = false) (h : B) : if b = true then A else B := by rw [if_neg (by rw [hb]; exact Bool.false_ne_true)]; exact h
theorem b_2 {A B : Prop} {b : Bool} (h1 : b = true → A) (h2 : b = false → B) : if b = true then A else B := by cases b with
  | true => exact iteT (h1 rfl)
  | false => exact iteF (h2 rfl)
theorem d_2 {A B c : Prop} [Decidable c] (h1 : c → A) (h2 : ¬ c → B) : if decide c = true then A else B := by
  by_cases h : c
  · rw [if_pos (decide_eq_true h)]; exact h1 h
  · rw [if_neg (by rw [decide_eq_false h]; exact Bool.false_ne_true)]; exact h2 h
theorem d_t {A B c : Prop} [Decidable c] (hc : c) (h : A) : if decide c = true then A else B := b_t (decide_eq_true hc) h
theorem d_f {A B c : Prop} [Decidable c] (hc : ¬ c) (h : B) : if decide c = true then A else B := b_f (decide_eq_false hc) h
theorem n_t {A B c : Prop} [Decidable c] (hc : ¬ c) (h : A) : if (!decide c) = true then A else B := b_t (by rw [decide_eq_false hc]; rfl) h
theorem n_f {A B c : Prop} [Decidable c] (hc : c) (h : B) : if (!decide c) = true then A else B := b_f (by rw [decide_eq_true hc]; rfl) h
-- sizes
theorem z_of {n : Nat} (h : n ≤ 1000000) : n ≤ sizeLine := by rw [sizeLine_eq]; omega
theorem z_lt {n : Nat} (h : n ≤ 1000000) : n < sizeLine := by rw [sizeLine_eq]; omega
theorem atI_0 {v : V} {xs : List V} : atI (v :: xs) 0 = some v := atI_nat (j := 0) rfl
theorem atI_1 {u v : V} {xs : List V} : atI (u :: v :: xs) 1 = some v := atI_nat (j := 1) rfl
theorem atI_2 {t u v : V} {xs : List V} : atI (t :: u :: v :: xs) 2 = some v := atI_nat (j := 2) rfl
theorem atI_3 {s t u v : V} {xs : List V} : atI (s :: t :: u :: v :: xs) 3 = some v := atI_nat (j := 3) rfl
theorem atI_4 {r s t u v : V} {xs : List V} : atI (r :: s :: t :: u :: v :: xs) 4 = some v := atI_nat (j := 4) rfl
end
end Lc
/-! Lc5: comprehensions by the list so far; the frozen script; chains of heaps. -/
namespace Lc
open PySem PySem.Spec PyProof.Rows L2
section
variable {K : PySem.W.Frag} {σ : L2.St} {H : Hp} {Q : VK} {g : TG} {tt : TT} {te : TE} {vs : List Nat}
/-- the list at D, with what is known by the turn and the list so far -/
def LP (Pv : Addr → Nat → List V → Hp → Prop) (D : Addr) (k : Nat) (H : Hp) : Prop := ∃ acc, H D = some (.lst acc) ∧ Pv D k acc H
theorem LP.skip {Pv : Addr → Nat → List V → Hp → Prop} {D : Addr} {k : Nat} {acc : List V} {H : Hp} (h : H D = some (.lst acc)) (p : Pv D k acc H) : LP Pv D k H := ⟨acc, h, p⟩
theorem LP.add {Pv : Addr → Nat → List V → Hp → Prop} {D : Addr} {k : Nat} {acc : List V} {y : V} {H : Hp} (h : H D = some (.lst acc)) (z : acc.length ≤ 1000000) (p : ∀ H', Ex [D] H H' → H' D = some (.lst (acc ++ [y])) → Pv D k (acc ++ [y]) H') :
    ∃ acc, H D = some (.lst acc) ∧ acc.length < sizeLine ∧ LP Pv D k (upd H D (.lst (acc ++ [y]))) := ⟨acc, h, by rw [sizeLine_eq]; omega, acc ++ [y], upd_same, p _ (.puts h) upd_same⟩
/-- the goal of a comprehension, behind what is walked -/
abbrev Lcs (J : It) (g : TG) (tt : TT) (te : TE) (vs : List Nat) (σ : L2.St) (H1 : Hp) (D : Addr) (Q : VK) : Prop := ∃ W : Nat → Nat → Hp → Prop, (∃ m, W 0 m (upd H1 D (.lst []))) ∧ ∀ i m H, W i m H →
  (J.stop i H ∧ Q (.ref D) H) ∨ (J.go i H ∧ ∃ Nx : Hp → Prop, (∀ H', Nx H' → ∃ m', m' < m ∧ W (i + 1) m' H') ∧ ∀ x H', J.yld i H x H' → g x (wipe σ vs) H' fun σ2 H2 => wipe σ2 vs = wipe σ vs ∧ tt σ2 H2 fun b H3 =>
    if b = true then te σ2 H3 fun y H4 => ∃ acc, H4 D = some (.lst acc) ∧ acc.length < sizeLine ∧ Nx (upd H4 D (.lst (acc ++ [y]))) else Nx H3)
/-- the walk's turns leave the heap and give the i-th of f -/
theorem lc_walk {J : It} {n : Nat} {G : Hp → Prop} {f : Nat → V → Prop} (w : Walk J n G fun i H x H' => H' = H ∧ f i x) (Pv : Addr → Nat → List V → Hp → Prop)
    (h0 : ∀ D H', H D = none → Ex [] H H' → H' D = some (.lst []) → Pv D 0 [] H') (hG : ∀ D k acc H', H D = none → k ≤ n → Pv D k acc H' → G H')
    (step : ∀ D k acc H' x, H D = none → k < n → f k x → H' D = some (.lst acc) → Pv D k acc H' → g x (wipe σ vs) H' fun σ2 H2 => wipe σ2 vs = wipe σ vs ∧ tt σ2 H2 fun b H3 =>
      if b = true then te σ2 H3 fun y H4 => ∃ acc, H4 D = some (.lst acc) ∧ acc.length < sizeLine ∧ LP Pv D (k + 1) (upd H4 D (.lst (acc ++ [y]))) else LP Pv D (k + 1) H3)
    (done : ∀ D acc H', H D = none → H' D = some (.lst acc) → Pv D n acc H' → Q (.ref D) H') : ∀ D, H D = none → Lcs J g tt te vs σ H D Q := by
  intro D hD
  refine lc_it (G := G) w (LP Pv D) ⟨[], upd_same, h0 D _ hD (.new hD) upd_same⟩ (fun i H' hi ⟨acc, _, p⟩ => hG D i acc H' hD hi p) ?_ (fun H' ⟨acc, e, p⟩ => done D acc H' hD e p)
  intro i x H1 H2 hi p y
  obtain ⟨acc, e, p⟩ := p
  obtain ⟨y1, y2⟩ := y
  subst y1
  exact step D i acc _ x hD hi y2 e p
theorem walk_rngF {lo : Int} {n : Nat} : Walk (Itr lo n) n (fun _ => True) (fun i H x H' => H' = H ∧ x = .int (lo + i)) := walk_range
/-- .. over range(n) -/
theorem lc_rng {n : Nat} {lo : Int} (Pv : Addr → Nat → List V → Hp → Prop)
    (h0 : ∀ D H', H D = none → Ex [] H H' → H' D = some (.lst []) → Pv D 0 [] H')
    (step : ∀ D k acc H', H D = none → k < n → H' D = some (.lst acc) → Pv D k acc H' → g (.int (lo + k)) (wipe σ vs) H' fun σ2 H2 => wipe σ2 vs = wipe σ vs ∧ tt σ2 H2 fun b H3 =>
      if b = true then te σ2 H3 fun y H4 => ∃ acc, H4 D = some (.lst acc) ∧ acc.length < sizeLine ∧ LP Pv D (k + 1) (upd H4 D (.lst (acc ++ [y]))) else LP Pv D (k + 1) H3)
    (done : ∀ D acc H', H D = none → H' D = some (.lst acc) → Pv D n acc H' → Q (.ref D) H') : ∀ D, H D = none → Lcs (Itr lo n) g tt te vs σ H D Q :=
  lc_walk walk_rngF Pv h0 (fun _ _ _ _ _ _ _ => trivial) (fun D k acc H' x hD hk hx e p => by subst hx; exact step D k acc H' hD hk e p) done
/-- .. over a list, a tuple -/
theorem lc_lst {a : Addr} {xs : List V} (Pv : Addr → Nat → List V → Hp → Prop)
    (h0 : ∀ D H', H D = none → Ex [] H H' → H' D = some (.lst []) → Pv D 0 [] H') (hG : ∀ D k acc H', H D = none → k ≤ xs.length → Pv D k acc H' → SqL K H' a xs)
    (step : ∀ D k acc H' x, H D = none → xs[k]? = some x → H' D = some (.lst acc) → Pv D k acc H' → g x (wipe σ vs) H' fun σ2 H2 => wipe σ2 vs = wipe σ vs ∧ tt σ2 H2 fun b H3 =>
      if b = true then te σ2 H3 fun y H4 => ∃ acc, H4 D = some (.lst acc) ∧ acc.length < sizeLine ∧ LP Pv D (k + 1) (upd H4 D (.lst (acc ++ [y]))) else LP Pv D (k + 1) H3)
    (done : ∀ D acc H', H D = none → H' D = some (.lst acc) → Pv D xs.length acc H' → Q (.ref D) H') : ∀ D, H D = none → Lcs (Itl K a) g tt te vs σ H D Q :=
  lc_walk walk_list Pv h0 hG (fun D k acc H' x hD hk hx e p => step D k acc H' x hD hx e p) done
theorem lc_tpl {a : Addr} {xs : List V} (Pv : Addr → Nat → List V → Hp → Prop)
    (h0 : ∀ D H', H D = none → Ex [] H H' → H' D = some (.lst []) → Pv D 0 [] H') (hG : ∀ D k acc H', H D = none → k ≤ xs.length → Pv D k acc H' → SqT K H' a xs)
    (step : ∀ D k acc H' x, H D = none → xs[k]? = some x → H' D = some (.lst acc) → Pv D k acc H' → g x (wipe σ vs) H' fun σ2 H2 => wipe σ2 vs = wipe σ vs ∧ tt σ2 H2 fun b H3 =>
      if b = true then te σ2 H3 fun y H4 => ∃ acc, H4 D = some (.lst acc) ∧ acc.length < sizeLine ∧ LP Pv D (k + 1) (upd H4 D (.lst (acc ++ [y]))) else LP Pv D (k + 1) H3)
    (done : ∀ D acc H', H D = none → H' D = some (.lst acc) → Pv D xs.length acc H' → Q (.ref D) H') : ∀ D, H D = none → Lcs (Itt K a) g tt te vs σ H D Q :=
  lc_walk walk_tup Pv h0 hG (fun D k acc H' x hD hk hx e p => step D k acc H' x hD hx e p) done
theorem i_yes {Q : Bool → Hp → Prop} (h : Q true H) : tYes σ H Q := h
theorem i_lcR {ta : TA} (h : ta σ H fun vs1 H1 => ∃ j : Int, vs1 = [.int j] ∧ -(2 ^ 62) ≤ j ∧ j < 2 ^ 62 ∧ ∀ D, H1 D = none → Lcs (Itr 0 j.toNat) g tt te vs σ H1 D Q) : tLc (iRng1 ta) g tt te vs σ H Q := h
theorem i_lcL {tl : TE} (h : tl σ H fun x H1 => ∃ a, x = .ref a ∧ (∃ xs, SqL K H1 a xs) ∧ ∀ D, H1 D = none → Lcs (Itl K a) g tt te vs σ H1 D Q) : tLc (iList K tl) g tt te vs σ H Q := h
theorem i_lcT {tl : TE} (h : tl σ H fun x H1 => ∃ a, x = .ref a ∧ (∃ xs, SqT K H1 a xs) ∧ ∀ D, H1 D = none → Lcs (Itt K a) g tt te vs σ H1 D Q) : tLc (iTup K tl) g tt te vs σ H Q := h
/-! ### texts are entered -/
theorem i_m1 {r : V → List V → Hp → VK → Prop} {to te' : TE} (h : to σ H fun x H1 => (∃ a, x = .str a) ∧ te' σ H1 fun y H2 => r x [y] H2 Q) : tM1 r to te' σ H Q := h
theorem i_un {r : V → Hp → VK → Prop} {ta : TE} (h : ta σ H fun x H1 => r x H1 Q) : tUn r ta σ H Q := h
theorem i_lcS {tl : TE} (h : tl σ H fun v H1 => ∃ x, v = .str x ∧ ∀ D, H1 D = none → Lcs (Its x) g tt te vs σ H1 D Q) : tLc (iStr tl) g tt te vs σ H Q := h
theorem a_neg {i : Int} (h : Q (.int (-i)) H) : rU (fun i => .int (-i)) (.int i) H Q := ⟨i, rfl, h⟩
theorem i_yesS {z : Str} {P : Prop} (h : P) : (∃ a, V.str z = .str a) ∧ P := ⟨⟨z, rfl⟩, h⟩
/-! ### dicts are entered -/
theorem i_dget2 {td ty tx : TE} (h : td σ H fun x H1 => ∃ a, x = .ref a ∧ IsD H1 a ∧ ty σ H1 fun y H2 => tx σ H2 fun z H3 => ∃ o, DGet H3 a y o ∧ Q (o.getD z) H3) : tDGet2 td ty tx σ H Q := h
theorem i_dpop {td ty tx : TE} (h : td σ H fun x H1 => ∃ a, x = .ref a ∧ IsD H1 a ∧ ty σ H1 fun y H2 => tx σ H2 fun z H3 => ∃ kvs k, H3 a = some (.dK kvs) ∧ y = kV k ∧
  (∀ v, valV kvs k = some v → ∀ H', Ex [a] H3 H' → H' a = some (.dK (dropK kvs k)) → Q v H') ∧ (valV kvs k = none → Q z H3)) : tDPopF td ty tx σ H Q := h
theorem i_dnew (h : New H (.dK []) Q) : tDNewF σ H Q := h
/-! ### a for is entered -/
variable {tb : TS} {De : Ends}
theorem i_forR {ta : TA} (h : ta σ H fun vs1 H1 => ∃ j : Int, vs1 = [.int j] ∧ -(2 ^ 62) ≤ j ∧ j < 2 ^ 62 ∧ Fors (Itr 0 j.toNat) g tb De σ H1) : tFor (iRng1 ta) g tb De σ H := h
theorem i_forR2 {ta : TA} (h : ta σ H fun vs1 H1 => ∃ i j : Int, vs1 = [.int i, .int j] ∧ (-(2 ^ 62) ≤ i ∧ i < 2 ^ 62 ∧ -(2 ^ 62) ≤ j ∧ j < 2 ^ 62) ∧ Fors (Itr i (j - i).toNat) g tb De σ H1) : tFor (iRng2 ta) g tb De σ H := h
theorem i_forL {tl : TE} (h : tl σ H fun x H1 => ∃ a, x = .ref a ∧ (∃ xs, SqL K H1 a xs) ∧ Fors (Itl K a) g tb De σ H1) : tFor (iList K tl) g tb De σ H := h
theorem i_forT {tl : TE} (h : tl σ H fun x H1 => ∃ a, x = .ref a ∧ (∃ xs, SqT K H1 a xs) ∧ Fors (Itt K a) g tb De σ H1) : tFor (iTup K tl) g tb De σ H := h
theorem i_forS {tl : TE} (h : tl σ H fun v H1 => ∃ x, v = .str x ∧ Fors (Its x) g tb De σ H1) : tFor (iStr tl) g tb De σ H := h
theorem i_forE {ta : TA} (h : ta σ H fun vs1 H1 => ∃ a xs, vs1 = [.ref a] ∧ ((SqL K H1 a xs ∧ Fors (Ite K a) g tb De σ H1) ∨ (SqT K H1 a xs ∧ Fors (IteT K a) g tb De σ H1))) : tFor (iEnumA K ta) g tb De σ H := h
theorem i_forZ {ta : TA} (h : ta σ H fun vs1 H1 => ∃ a b xs ys, vs1 = [.ref a, .ref b] ∧ SqL K H1 a xs ∧ SqL K H1 b ys ∧ Fors (Itz K a b) g tb De σ H1) : tFor (iZip K ta) g tb De σ H := h
end
/-! ### the frozen script -/
def SqF (K : PySem.W.Frag) (H : Hp) (a : Addr) (xs : List V) : Prop := (∃ o, H a = some (.frz o (.lst xs))) ∨ ∀ H', SqL K H' a xs
theorem SqF.sq {K : PySem.W.Frag} {H : Hp} {a : Addr} {xs : List V} (h : SqF K H a xs) : SqL K H a xs := by
  rcases h with ⟨o, h⟩ | h
  · exact .inl (.inr ⟨o, h⟩)
  · exact h H
theorem SqF.ex {K : PySem.W.Frag} {W : List Addr} {H H' : Hp} {a : Addr} {xs : List V} (e : Ex W H H') (h : SqF K H a xs) : SqF K H' a xs := by
  rcases h with ⟨o, h⟩ | h
  · exact .inl ⟨o, e.fz _ _ _ h⟩
  · exact .inr h
theorem SqF.of {K : PySem.W.Frag} {H : Hp} {a : Addr} {xs : List V} (hO : Only H) (h : SqL K H a xs) : SqF K H a xs := by
  rcases h with (h | h) | h
  · rcases hO a with e | ⟨o, ys, e⟩
    · rw [e] at h; cases h
    · rw [e] at h; cases h
  · exact .inl h
  · exact .inr fun H' => .inr h
end Lc
local macro_rules | `(tactic| wtm_at "g1") => `(tactic| first
  | (with_reducible show L2.tSeq _ _ _ _ _); refine Lc.i_seq ?_
  | (with_reducible show L2.tAsg _ _ _ _ _); refine Lc.i_asg ?_
  | (with_reducible show L2.gName _ _ _ _ _); refine Lc.i_gn ?_; (try dsimp only [List.set])
  | (with_reducible show L2.tVar _ _ _ _); refine Lc.i_var rfl ?_
  | (with_reducible show L2.tC _ _ _ _); refine Lc.i_c ?_
  | (with_reducible show L2.tOp _ _ _ _ _ _); refine Lc.i_op ?_
  | (with_reducible show L2.tCons _ _ _ _ _); refine Lc.i_cons ?_
  | (with_reducible show L2.tNil _ _ _); refine Lc.i_nil ?_
  | (with_reducible show L2.tCB _ _ _ _ _); refine Lc.i_cb ?_
  | (with_reducible show L2.tCall _ _ _ _ _ _ _); refine Lc.i_call ?_
  | (with_reducible show L2.tIfS _ _ _ _ _ _); refine Lc.i_ifS ?_
  | (with_reducible show L2.tTest _ _ _ _); refine Lc.i_test ?_
  | (with_reducible show L2.tB _ _ _ _); refine Lc.i_tB ?_
  | (with_reducible show L2.tNot _ _ _ _); refine Lc.i_not ?_
  | (with_reducible show L2.tAnd _ _ _ _ _); refine Lc.i_and ?_
  | (with_reducible show L2.tOr _ _ _ _ _); refine Lc.i_or ?_
  | (with_reducible show L2.tAndV _ _ _ _ _); refine Lc.i_andV ?_
  | (with_reducible show L2.tOrV _ _ _ _ _); refine Lc.i_orV ?_
  | (with_reducible show L2.tNotV _ _ _ _); refine Lc.i_notV ?_
  | (with_reducible show L2.tIf _ _ _ _ _ _); refine Lc.i_if ?_
  | (with_reducible show L2.tChain _ _ _ _ _ _ _ _); refine Lc.i_chain ?_
  | (with_reducible show Lc.tTupF _ _ _ _); refine Lc.i_tup ?_
  | (with_reducible show L2.tTup _ _ _ _); refine Lc.i_tup0 ?_
  | (with_reducible show Lc.tLstF _ _ _ _); refine Lc.i_lst ?_
  | (with_reducible show L2.tSl _ _ _ _ _ _ _); refine Lc.i_sl ?_
  | (with_reducible show L2.tNoPart _ _ _); refine Lc.i_noPart ?_
  | (with_reducible show L2.tPart _ _ _ _); refine Lc.i_part ?_
  | (with_reducible show L2.tBM _ _ _ _ _ _ _ _); refine Lc.i_bm ?_
  | (with_reducible show L2.tLc (L2.iRng1 _) _ _ _ _ _ _ _); refine Lc.i_lcR ?_
  | (with_reducible show L2.tLc (L2.iList _ _) _ _ _ _ _ _ _); refine Lc.i_lcL ?_
  | (with_reducible show L2.tLc (L2.iTup _ _) _ _ _ _ _ _ _); refine Lc.i_lcT ?_
  | (with_reducible show L2.tYes _ _ _); refine Lc.i_yes ?_
  | (with_reducible show L2.tM1 _ _ _ _ _ _); refine Lc.i_m1 ?_
  | (with_reducible show L2.tUn _ _ _ _ _); refine Lc.i_un ?_
  | (with_reducible show L2.rU _ (L2.V.int _) _ _); refine ⟨_, rfl, ?_⟩
  | (with_reducible show L2.tLc (L2.iStr _) _ _ _ _ _ _ _); refine Lc.i_lcS ?_
  | (with_reducible show (∃ a, L2.V.str _ = L2.V.str a) ∧ _); refine Lc.i_yesS ?_
  | (with_reducible show L2.tFor (L2.iRng1 _) _ _ _ _ _); refine Lc.i_forR ?_
  | (with_reducible show L2.tFor (L2.iRng2 _) _ _ _ _ _); refine Lc.i_forR2 ?_
  | (with_reducible show L2.tFor (L2.iList _ _) _ _ _ _ _); refine Lc.i_forL ?_
  | (with_reducible show L2.tFor (L2.iTup _ _) _ _ _ _ _); refine Lc.i_forT ?_
  | (with_reducible show L2.tFor (L2.iStr _) _ _ _ _ _); refine Lc.i_forS ?_
  | (with_reducible show L2.tFor (Lc.iEnumA _ _) _ _ _ _ _); refine Lc.i_forE ?_
  | (with_reducible show L2.tFor (L2.iZip _ _) _ _ _ _ _); refine Lc.i_forZ ?_
  | (with_reducible show L2.tDGet2 _ _ _ _ _ _); refine Lc.i_dget2 ?_
  | (with_reducible show Lc.tDPopF _ _ _ _ _ _); refine Lc.i_dpop ?_
  | (with_reducible show Lc.tDNewF _ _ _); refine Lc.i_dnew ?_
  | (with_reducible show L2.tRet _ _ _ _); refine Lc.i_ret ?_
  | (with_reducible show L2.tDrop _ _ _ _); refine Lc.i_drop ?_
  | (with_reducible show L2.tNext _ _ _); refine Lc.i_next ?_
  | (with_reducible show L2.tPar _ _ _ _ _ _); refine Lc.i_par ?_
  | (with_reducible show L2.gSub _ _ _ _ _ _ _); refine Lc.i_gsub ?_
  | (with_reducible show Lc.oAdd (L2.V.int _) (L2.V.int _) _ _); refine Lc.a_int ?_
  | (with_reducible show Lc.oSub (L2.V.int _) (L2.V.int _) _ _); refine Lc.a_sub ?_
  | (with_reducible show Lc.oLt (L2.V.int _) (L2.V.int _) _ _); refine Lc.a_lt ?_
  | (with_reducible show Lc.oLe (L2.V.int _) (L2.V.int _) _ _); refine Lc.a_le ?_
  | (with_reducible show Lc.oGt (L2.V.int _) (L2.V.int _) _ _); refine Lc.a_gt ?_
  | (with_reducible show Lc.oGe (L2.V.int _) (L2.V.int _) _ _); refine Lc.a_ge ?_
  | (with_reducible show Lc.oEq _ (L2.V.int _) (L2.V.int _) _ _); refine Lc.a_eqI ?_
  | (with_reducible show Lc.oNe _ (L2.V.int _) (L2.V.int _) _ _); refine Lc.a_neI ?_
  | (with_reducible show Lc.oEq _ (L2.V.str _) (L2.V.str _) _ _); refine Lc.a_eqS ?_
  | (with_reducible show Lc.oNe _ (L2.V.str _) (L2.V.str _) _ _); refine Lc.a_neS ?_
  | (with_reducible show Lc.oEq _ (L2.V.bl _) (L2.V.bl _) _ _); refine Lc.a_eqB ?_
  | (with_reducible show Lc.oNe _ (L2.V.bl _) (L2.V.bl _) _ _); refine Lc.a_neB ?_
  | (with_reducible show Lc.oIsN _ L2.V.non _ _); refine Lc.a_isN ?_
  | (with_reducible show Lc.oNotN _ L2.V.non _ _); refine Lc.a_notN ?_
  | (with_reducible show ∃ k, L2.V.bl _ = L2.V.bl k ∧ _); refine ⟨_, rfl, ?_⟩
  | (with_reducible show ∃ k, L2.V.int _ = L2.V.int k ∧ _); refine ⟨_, rfl, ?_⟩
  | (with_reducible show ∃ v w, [_, _] = [v, w] ∧ _); refine ⟨_, _, rfl, ?_⟩; (try dsimp only [List.set])
  | (with_reducible show L2.Ends.nx _ _ _); dsimp only)
local macro_rules | `(tactic| wtm_at "go") => `(tactic| repeat wtm_at "g1")
/- a fact about the heap, through what was made and written since -/
local macro_rules | `(tactic| wtm_at "hp") => `(tactic| first
  | assumption
  | (refine Lc.Ex.isT (by assumption) ?_; first | assumption | (wtm_at "hp"))
  | (refine Lc.Ex.get0 (by assumption) ?_; first | assumption | (wtm_at "hp"))
  | (refine Lc.Ex.get1 (by assumption) (by assumption) ?_; first | assumption | (wtm_at "hp"))
  | (refine Lc.Rp.ex (by assumption) ?_; first | assumption | (wtm_at "hp"))
  | (refine Lc.RpAll.ex (by assumption) ?_; first | assumption | (wtm_at "hp")))
/- reaching further back: from the start to now -/
local macro_rules | `(tactic| wtm_at "ex") => `(tactic| first
  | assumption
  | exact Lc.Ex.refl
  | exact Lc.Ex.any (by assumption)
  | (refine Lc.Ex.trans ?_ (by assumption); first | assumption | (wtm_at "ex"))
  | (refine Lc.Ex.trans ?_ (Lc.Ex.any (by assumption)); first | assumption | (wtm_at "ex"))
  | (refine Lc.Ex.loc1 ?_ (by assumption) (by assumption); first | assumption | (wtm_at "ex")))
/-! P1: what is a number, a source, entries, a cue, a list of cues. -/
namespace Lc
open PySem PySem.Spec PyProof.Rows L2
/-! ### kinds of data -/
def isInt : PyData → Bool
  | .int _ => true
  | .bool _ => true
  | _ => false
def isBool : PyData → Bool
  | .bool _ => true
  | _ => false
def isNone : PyData → Bool
  | .none => true
  | _ => false
def isStr : PyData → Bool
  | .str _ => true
  | _ => false
def isTup : PyData → Bool
  | .tuple _ => true
  | _ => false
section
variable {K : PySem.W.Frag} {H : Hp} {Q : VK} {d : PyData} {v : V}
theorem r_int (r : Rp H d v) (h : Q (.bl (isInt d)) H) : oIsi K [v, .ty "int"] H Q := by
  cases d with
  | none => simp only [Rp] at r; subst r; exact k_isi .non kb_nn_int h
  | bool b => simp only [Rp] at r; subst r; exact k_isi (.bl b) kb_bl_int h
  | int i => simp only [Rp] at r; subst r; exact k_isi (.int i) kb_int_int h
  | str s => simp only [Rp] at r; subst r; exact k_isi (.str s) kb_str_int h
  | tuple ds => obtain ⟨a, xs, rfl, h1, _⟩ := r.tup_inv; exact k_isi (.tup h1) kb_tup_int h
  | list ds => simp only [Rp] at r
  | dict ds => simp only [Rp] at r
theorem r_bool (r : Rp H d v) (h : Q (.bl (isBool d)) H) : oIsi K [v, .ty "bool"] H Q := by
  cases d with
  | none => simp only [Rp] at r; subst r; exact k_isi .non kb_nn_bool h
  | bool b => simp only [Rp] at r; subst r; exact k_isi (.bl b) kb_bl_bool h
  | int i => simp only [Rp] at r; subst r; exact k_isi (.int i) kb_int_bool h
  | str s => simp only [Rp] at r; subst r; exact k_isi (.str s) kb_str_bool h
  | tuple ds => obtain ⟨a, xs, rfl, h1, _⟩ := r.tup_inv; exact k_isi (.tup h1) kb_tup_bool h
  | list ds => simp only [Rp] at r
  | dict ds => simp only [Rp] at r
theorem r_str (r : Rp H d v) (h : Q (.bl (isStr d)) H) : oIsi K [v, .ty "str"] H Q := by
  cases d with
  | none => simp only [Rp] at r; subst r; exact k_isi .non kb_nn_str h
  | bool b => simp only [Rp] at r; subst r; exact k_isi (.bl b) kb_bl_str h
  | int i => simp only [Rp] at r; subst r; exact k_isi (.int i) kb_int_str h
  | str s => simp only [Rp] at r; subst r; exact k_isi (.str s) kb_str_str h
  | tuple ds => obtain ⟨a, xs, rfl, h1, _⟩ := r.tup_inv; exact k_isi (.tup h1) kb_tup_str h
  | list ds => simp only [Rp] at r
  | dict ds => simp only [Rp] at r
theorem r_tup (r : Rp H d v) (h : Q (.bl (isTup d)) H) : oIsi K [v, .ty "tuple"] H Q := by
  cases d with
  | none => simp only [Rp] at r; subst r; exact k_isi .non kb_nn_tuple h
  | bool b => simp only [Rp] at r; subst r; exact k_isi (.bl b) kb_bl_tuple h
  | int i => simp only [Rp] at r; subst r; exact k_isi (.int i) kb_int_tuple h
  | str s => simp only [Rp] at r; subst r; exact k_isi (.str s) kb_str_tuple h
  | tuple ds => obtain ⟨a, xs, rfl, h1, _⟩ := r.tup_inv; exact k_isi (.tup h1) kb_tup_tuple h
  | list ds => simp only [Rp] at r
  | dict ds => simp only [Rp] at r
end
/-! ### is_number -/
def isNum : PyData → Int → Int → Bool
  | .int i, lo, hi => decide (lo ≤ i) && decide (i ≤ hi)
  | _, _, _ => false
def sp_is_number (K : PySem.W.Frag) : Sp := fun vs H Q _ => ∃ v d lo hi, vs = [v, .int lo, .int hi] ∧ Rp H d v ∧ Q (.bl (isNum d lo hi)) H
def N_is_number : List Str := ["thing", "low", "high"]
def t_is_number (K : PySem.W.Frag) (E : XK) : TS :=
  (tRet (tAndV (tCB (oIsi K) (tCons (tVar 0) (tCons (tC (.ty "int")) tNil))) (tAndV (tNotV (tCB (oIsi K) (tCons (tVar 0) (tCons (tC (.ty "bool")) tNil)))) (tChain oLe oLe (tVar 1) (tVar 0) (tVar 2)))))
theorem pure_is_number {K : PySem.W.Frag} (vs : List V) (H : Hp) (Q : VK) (E : XK) (h : sp_is_number K vs H Q E) : t_is_number K E { nx := fun _ H' => Q .non H', rt := Q } (start N_is_number vs) H := by
  obtain ⟨v, d, lo, hi, rfl, r, q⟩ := h
  show t_is_number K E _ [some v, some (.int lo), some (.int hi)] H
  unfold t_is_number
  wtm_at "go"
  refine r_int r ?_
  wtm_at "go"
  cases d with
  | int i =>
    simp only [Rp] at r
    subst r
    refine b_t rfl ?_
    wtm_at "go"
    refine r_bool .int ?_
    wtm_at "go"
    refine b_t rfl ?_
    wtm_at "go"
    refine d_2 (fun h1 => ?_) (fun h1 => ?_)
    · wtm_at "go"
      simpa [isNum, h1] using q
    · simpa [isNum, h1] using q
  | bool b =>
    refine b_t rfl ?_
    wtm_at "go"
    refine r_bool r ?_
    wtm_at "go"
    exact b_f rfl q
  | none => exact b_f rfl q
  | str s => exact b_f rfl q
  | tuple ds => exact b_f rfl q
  | list ds => exact b_f rfl q
  | dict ds => exact b_f rfl q
/-! ### shapes -/
theorem shaped_tuple {ds : List PyData} (h : SeqAt.shaped (.tuple ds) = true) : ∀ d ∈ ds, SeqAt.shaped d = true := by
  unfold SeqAt.shaped at h
  simp only [PyData.canLay0, PyData.depth, Bool.and_eq_true, decide_eq_true_eq] at h
  obtain ⟨h1, h2⟩ := h
  have h3 : PyData.depthAll ds + 1 ≤ 64 := of_decide_eq_true h2
  have key : ∀ l : List PyData, PyData.canLayAll0 l = true → ∀ n, PyData.depthAll l ≤ n → ∀ d ∈ l, d.canLay0 = true ∧ d.depth ≤ n := by
    intro l
    induction l with
    | nil => exact fun _ _ _ d hd => by cases hd
    | cons x l ih =>
      intro h n hn d hd
      simp only [PyData.canLayAll0, Bool.and_eq_true] at h
      simp only [PyData.depthAll] at hn
      rcases List.mem_cons.mp hd with e | e
      · subst e; exact ⟨h.1, by omega⟩
      · exact ih h.2 n (by omega) d e
  intro d hd
  obtain ⟨a, b⟩ := key ds h1 63 (by omega) d hd
  unfold SeqAt.shaped
  simp only [Bool.and_eq_true, decide_eq_true_eq]
  exact ⟨a, by omega⟩
theorem shaped_str : SeqAt.shaped (.str "part") = true := by decide +kernel
theorem r_eq {K : PySem.W.Frag} {H : Hp} {Q : VK} {d e : PyData} {v u : V} (r : Rp H d v) (r' : Rp H e u) (s : SeqAt.shaped d = true) (s' : SeqAt.shaped e = true) (h : Q (.bl (PyData.eqv d e)) H) : oEq K v u H Q := .inr ⟨d, e, r.dp, r'.dp, s, s', h⟩
theorem r_ne {K : PySem.W.Frag} {H : Hp} {Q : VK} {d e : PyData} {v u : V} (r : Rp H d v) (r' : Rp H e u) (s : SeqAt.shaped d = true) (s' : SeqAt.shaped e = true) (h : Q (.bl (!PyData.eqv d e)) H) : oNe K v u H Q := .inr ⟨d, e, r.dp, r'.dp, s, s', h⟩
theorem r_len {K : PySem.W.Frag} {H : Hp} {Q : VK} {ds : List PyData} {v : V} (r : Rp H (.tuple ds) v) (h : Q (.int ds.length) H) : oLen K [v] H Q := by
  obtain ⟨a, xs, rfl, h1, h2⟩ := r.tup_inv
  refine l_T h1 ?_
  rw [h2.length]
  exact h
theorem r_ix {K : PySem.W.Frag} {H : Hp} {Q : VK} {ds : List PyData} {v : V} {i : Int} {d : PyData} (r : Rp H (.tuple ds) v) (hi : atI ds i = some d) (h : ∀ x, Rp H d x → Q x H) : oIx K v (.int i) H Q := by
  obtain ⟨a, xs, rfl, h1, h2⟩ := r.tup_inv
  unfold atI at hi
  cases hj : ixN ds.length i with
  | none => rw [hj] at hi; cases hi
  | some j =>
    rw [hj] at hi
    obtain ⟨x, hx, rx⟩ := h2.get' (show ds[j]? = some d from hi)
    refine a_ixT h1 (v := x) ?_ (h x rx)
    unfold atI
    rw [h2.length, hj]
    exact hx
theorem ix0 {α : Type} {a : α} {l : List α} : atI (a :: l) 0 = some a := atI_nat (j := 0) rfl
theorem ix1 {α : Type} {a b : α} {l : List α} : atI (a :: b :: l) 1 = some b := atI_nat (j := 1) rfl
theorem ix2 {α : Type} {a b c : α} {l : List α} : atI (a :: b :: c :: l) 2 = some c := atI_nat (j := 2) rfl
theorem ix3 {α : Type} {a b c d : α} {l : List α} : atI (a :: b :: c :: d :: l) 3 = some d := atI_nat (j := 3) rfl
theorem ix4 {α : Type} {a b c d e : α} {l : List α} : atI (a :: b :: c :: d :: e :: l) 4 = some e := atI_nat (j := 4) rfl
/-! ### is_what -/
def isWhat : PyData → Bool
  | .tuple [x, y] => PyData.eqv x (.str "part") && isNum y 0 9
  | .tuple _ => false
  | d => isNum d 0 100
def sp_is_what (K : PySem.W.Frag) : Sp := fun vs H Q _ => ∃ v d, vs = [v] ∧ Rp H d v ∧ SeqAt.shaped d = true ∧ Q (.bl (isWhat d)) H
def N_is_what : List Str := ["what"]
def t_is_what (K : PySem.W.Frag) (E : XK) : TS :=
  (tSeq (tIfS (tB (tCB (oIsi K) (tCons (tVar 0) (tCons (tC (.ty "tuple")) tNil)))) (tRet (tAndV (tOp (oEq K) (tCB (oLen K) (tCons (tVar 0) tNil)) (tC (.int 2))) (tAndV (tOp (oEq K) (tOp (oIx K) (tVar 0) (tC (.int 0))) (tC (.str "part"))) (tCall (sp_is_number K) [] E (tCons (tOp (oIx K) (tVar 0) (tC (.int 1))) (tCons (tC (.int 0)) (tCons (tOp oSub (tC (.int 10)) (tC (.int 1))) tNil))))))) tNext)
  (tRet (tCall (sp_is_number K) [] E (tCons (tVar 0) (tCons (tC (.int 0)) (tCons (tC (.int 100)) tNil))))))
theorem pure_is_what {K : PySem.W.Frag} (vs : List V) (H : Hp) (Q : VK) (E : XK) (h : sp_is_what K vs H Q E) : t_is_what K E { nx := fun _ H' => Q .non H', rt := Q } (start N_is_what vs) H := by
  obtain ⟨v, d, rfl, r, sh, q⟩ := h
  show t_is_what K E _ [some v] H
  unfold t_is_what
  wtm_at "go"
  refine r_tup r ?_
  wtm_at "go"
  have flat : isTup d = false → isWhat d = isNum d 0 100 := fun h => by cases d <;> first | rfl | cases h
  refine b_2 (fun ht => ?_) (fun ht => ?_)
  · obtain ⟨ds, rfl⟩ : ∃ ds, d = .tuple ds := by cases d <;> first | exact ⟨_, rfl⟩ | cases ht
    wtm_at "go"
    refine r_len r ?_
    wtm_at "go"
    refine d_2 (fun hl => ?_) (fun hl => ?_)
    · obtain ⟨x, y, rfl⟩ : ∃ x y, ds = [x, y] := by
        match ds, hl with
        | [x, y], _ => exact ⟨x, y, rfl⟩
      wtm_at "go"
      refine r_ix r ix0 fun x0 r0 => ?_
      wtm_at "go"
      refine r_eq r0 .str (shaped_tuple sh x (by simp)) shaped_str ?_
      wtm_at "go"
      refine b_2 (fun he => ?_) (fun he => ?_)
      · wtm_at "go"
        refine r_ix r ix1 fun x1 r1 => ?_
        wtm_at "go"
        refine ⟨x1, y, _, _, rfl, r1, ?_⟩
        simpa [isWhat, he] using q
      · simpa [isWhat, he] using q
    · have e : isWhat (.tuple ds) = false := by
        match ds, hl with
        | [], _ => rfl
        | [_], _ => rfl
        | [_, _], hl => exact absurd rfl hl
        | _ :: _ :: _ :: _, _ => rfl
      rw [e] at q
      exact q
  · rw [flat ht] at q
    wtm_at "go"
    exact ⟨v, d, _, _, rfl, r, q⟩
/-! ### are_entries -/
def areEntsFrom : Int → List PyData → Bool
  | _, [] => true
  | last, .tuple [.int l, w] :: r => (decide (last + 1 ≤ l) && decide (l ≤ 11)) && (isWhat w && areEntsFrom l r)
  | _, _ :: _ => false
def areEnts : PyData → Bool
  | .tuple ds => areEntsFrom (-1) ds
  | _ => false
def sp_are_entries (K : PySem.W.Frag) : Sp := fun vs H Q _ => ∃ v d, vs = [v] ∧ Rp H d v ∧ SeqAt.shaped d = true ∧ Q (.bl (areEnts d)) H
def N_are_entries : List Str := ["entries", "last", "one"]
def t_are_entries (K : PySem.W.Frag) (E : XK) : TS :=
  (tSeq (tIfS (tNot (tB (tCB (oIsi K) (tCons (tVar 0) (tCons (tC (.ty "tuple")) tNil))))) (tRet (tC (.bl false))) tNext)
  (tSeq (tAsg (tOp oSub (tC (.int 0)) (tC (.int 1))) (gName 1))
  (tSeq (tFor (iTup K (tVar 0)) (gName 2)
    (tSeq (tIfS (tOr (tNot (tB (tCB (oIsi K) (tCons (tVar 2) (tCons (tC (.ty "tuple")) tNil))))) (tOr (tTest (tOp (oNe K) (tCB (oLen K) (tCons (tVar 2) tNil)) (tC (.int 2)))) (tNot (tB (tCall (sp_is_number K) [] E (tCons (tOp (oIx K) (tVar 2) (tC (.int 0))) (tCons (tOp oAdd (tVar 1) (tC (.int 1))) (tCons (tOp oSub (tC (.int 12)) (tC (.int 1))) tNil)))))))) (tRet (tC (.bl false))) tNext)
  (tSeq (tIfS (tNot (tB (tCall (sp_is_what K) [] E (tCons (tOp (oIx K) (tVar 2) (tC (.int 1))) tNil)))) (tRet (tC (.bl false))) tNext)
  (tAsg (tOp (oIx K) (tVar 2) (tC (.int 0))) (gName 1)))))
  (tRet (tC (.bl true))))))
theorem areEntsFrom_cons (last : Int) (l w : PyData) (r : List PyData) : areEntsFrom last (.tuple [l, w] :: r) = (isNum l (last + 1) 11 && (isWhat w && (match l with | .int i => areEntsFrom i r | _ => false))) := by
  cases l <;> simp [areEntsFrom, isNum]
theorem drop_at {α : Type} {l : List α} {i : Nat} {x : α} (h : l[i]? = some x) : l.drop i = x :: l.drop (i + 1) := by
  obtain ⟨hi, e⟩ := List.getElem?_eq_some_iff.mp h
  rw [List.drop_eq_getElem_cons hi, e]
theorem pure_are_entries {K : PySem.W.Frag} (vs : List V) (H : Hp) (Q : VK) (E : XK) (h : sp_are_entries K vs H Q E) : t_are_entries K E { nx := fun _ H' => Q .non H', rt := Q } (start N_are_entries vs) H := by
  obtain ⟨v, d, rfl, r, sh, q⟩ := h
  show t_are_entries K E _ [some v, none, none] H
  unfold t_are_entries
  wtm_at "go"
  refine r_tup r ?_
  wtm_at "go"
  refine b_2 (fun ht => ?_) (fun ht => ?_)
  · have e : areEnts d = false := by cases d <;> first | rfl | cases ht
    rw [e] at q
    wtm_at "go"
    exact q
  · obtain ⟨ds, rfl⟩ : ∃ ds, d = .tuple ds := by cases d <;> first | exact ⟨_, rfl⟩ | cases ht
    obtain ⟨a, xs, rfl, hT, hA⟩ := r.tup_inv
    wtm_at "go"
    refine ⟨a, rfl, ⟨xs, hT.sq⟩, for_tup (K := K) (a := a) (xs := xs) (fun i σ H' => ∃ (last : Int) (o : Option V), σ = [some (.ref a), some (.int last), o] ∧ H' = H ∧ areEntsFrom (-1) ds = areEntsFrom last (ds.drop i)) ⟨_, _, rfl, rfl, rfl⟩ (fun i σ H' _ ⟨_, _, _, e, _⟩ => by rw [e]; exact hT.sq) ?_ ?_⟩
    · rintro i x σ H' hx ⟨last, o, rfl, rfl, inv⟩
      obtain ⟨d, hd, rx⟩ := hA.get hx
      rw [drop_at hd] at inv
      have shd : SeqAt.shaped d = true := shaped_tuple sh d (List.mem_of_getElem? hd)
      wtm_at "go"
      refine r_tup rx ?_
      wtm_at "go"
      refine b_2 (fun ht => ?_) (fun ht => ?_)
      · have e : areEntsFrom last (d :: ds.drop (i + 1)) = false := by cases d <;> first | rfl | cases ht
        rw [show areEnts (.tuple ds) = areEntsFrom (-1) ds from rfl, inv, e] at q
        exact b_t rfl q
      · obtain ⟨es, rfl⟩ : ∃ es, d = .tuple es := by cases d <;> first | exact ⟨_, rfl⟩ | cases ht
        wtm_at "go"
        refine r_len rx ?_
        wtm_at "go"
        refine d_2 (fun hl => ?_) (fun hl => ?_)
        · have e : areEntsFrom last (.tuple es :: ds.drop (i + 1)) = false := by
            match es, hl with
            | [], _ => simp [areEntsFrom]
            | [_], _ => simp [areEntsFrom]
            | [_, _], hl => exact absurd rfl hl
            | _ :: _ :: _ :: _, _ => simp [areEntsFrom]
          rw [show areEnts (.tuple ds) = areEntsFrom (-1) ds from rfl, inv, e] at q
          exact b_t rfl q
        · obtain ⟨l, w, rfl⟩ : ∃ l w, es = [l, w] := by
            have hl' : es.length = 2 := by omega
            match es, hl' with
            | [l, w], _ => exact ⟨l, w, rfl⟩
          rw [areEntsFrom_cons] at inv
          wtm_at "go"
          refine r_ix rx ix0 fun x0 r0 => ?_
          wtm_at "go"
          refine ⟨x0, l, _, _, rfl, r0, ?_⟩
          wtm_at "go"
          refine b_2 (fun hn => ?_) (fun hn => ?_)
          · have e : isNum l (last + 1) 11 = false := by simpa using hn
            rw [show areEnts (.tuple ds) = areEntsFrom (-1) ds from rfl, inv, e] at q
            wtm_at "go"
            exact q
          · have e : isNum l (last + 1) 11 = true := by simpa using hn
            rw [e] at inv
            obtain ⟨n, rfl⟩ : ∃ n, l = .int n := by cases l <;> first | exact ⟨_, rfl⟩ | cases e
            simp only [Rp] at r0
            subst r0
            wtm_at "go"
            refine r_ix rx ix1 fun x1 r1 => ?_
            wtm_at "go"
            refine ⟨x1, w, rfl, r1, shaped_tuple shd w (by simp), ?_⟩
            wtm_at "go"
            refine b_2 (fun hw => ?_) (fun hw => ?_)
            · have e2 : isWhat w = false := by simpa using hw
              rw [show areEnts (.tuple ds) = areEntsFrom (-1) ds from rfl, inv, e2] at q
              wtm_at "go"
              exact q
            · have e2 : isWhat w = true := by simpa using hw
              rw [e2] at inv
              wtm_at "go"
              refine r_ix rx ix0 fun x2 r2 => ?_
              simp only [Rp] at r2
              subst r2
              wtm_at "go"
              exact ⟨n, _, rfl, rfl, by simpa using inv⟩
    · rintro σ H' ⟨last, o, rfl, rfl, inv⟩
      rw [hA.length, List.drop_length] at inv
      rw [show areEnts (.tuple ds) = areEntsFrom (-1) ds from rfl, inv] at q
      wtm_at "go"
      exact q
/-! ### is_cue -/
def isCue : PyData → Int → Bool
  | .tuple [n, es, u, w, f], last => isNum n (last + 1) 999 && (areEnts es && (isNum u 0 20 && (isNum w 0 20 && (isNone f || isNum f 1 40))))
  | _, _ => false
def sp_is_cue (K : PySem.W.Frag) : Sp := fun vs H Q _ => ∃ v d last, vs = [v, .int last] ∧ Rp H d v ∧ SeqAt.shaped d = true ∧ Q (.bl (isCue d last)) H
def N_is_cue : List Str := ["cue", "last"]
def t_is_cue (K : PySem.W.Frag) (E : XK) : TS :=
  (tSeq (tIfS (tOr (tNot (tB (tCB (oIsi K) (tCons (tVar 0) (tCons (tC (.ty "tuple")) tNil))))) (tOr (tTest (tOp (oNe K) (tCB (oLen K) (tCons (tVar 0) tNil)) (tC (.int 5)))) (tNot (tB (tCall (sp_is_number K) [] E (tCons (tOp (oIx K) (tVar 0) (tC (.int 0))) (tCons (tOp oAdd (tVar 1) (tC (.int 1))) (tCons (tC (.int 999)) tNil)))))))) (tRet (tC (.bl false))) tNext)
  (tSeq (tIfS (tOr (tNot (tB (tCall (sp_are_entries K) [] E (tCons (tOp (oIx K) (tVar 0) (tC (.int 1))) tNil)))) (tOr (tNot (tB (tCall (sp_is_number K) [] E (tCons (tOp (oIx K) (tVar 0) (tC (.int 2))) (tCons (tC (.int 0)) (tCons (tC (.int 20)) tNil)))))) (tNot (tB (tCall (sp_is_number K) [] E (tCons (tOp (oIx K) (tVar 0) (tC (.int 3))) (tCons (tC (.int 0)) (tCons (tC (.int 20)) tNil)))))))) (tRet (tC (.bl false))) tNext)
  (tRet (tOrV (tOp oIsN (tOp (oIx K) (tVar 0) (tC (.int 4))) (tC .non)) (tCall (sp_is_number K) [] E (tCons (tOp (oIx K) (tVar 0) (tC (.int 4))) (tCons (tC (.int 1)) (tCons (tC (.int 40)) tNil))))))))
theorem isCue_len {ds : List PyData} {last : Int} (h : ds.length ≠ 5) : isCue (.tuple ds) last = false := by
  match ds, h with
  | [], _ => rfl
  | [_], _ => rfl
  | [_, _], _ => rfl
  | [_, _, _], _ => rfl
  | [_, _, _, _], _ => rfl
  | [_, _, _, _, _], h => exact absurd rfl h
  | _ :: _ :: _ :: _ :: _ :: _ :: _, _ => rfl
theorem pure_is_cue {K : PySem.W.Frag} (vs : List V) (H : Hp) (Q : VK) (E : XK) (h : sp_is_cue K vs H Q E) : t_is_cue K E { nx := fun _ H' => Q .non H', rt := Q } (start N_is_cue vs) H := by
  obtain ⟨v, d, last, rfl, r, sh, q⟩ := h
  show t_is_cue K E _ [some v, some (.int last)] H
  unfold t_is_cue
  wtm_at "go"
  refine r_tup r ?_
  wtm_at "go"
  refine b_2 (fun ht => ?_) (fun ht => ?_)
  · have e : isCue d last = false := by cases d <;> first | rfl | cases ht
    rw [e] at q
    exact b_t rfl q
  · obtain ⟨ds, rfl⟩ : ∃ ds, d = .tuple ds := by cases d <;> first | exact ⟨_, rfl⟩ | cases ht
    wtm_at "go"
    refine r_len r ?_
    wtm_at "go"
    refine d_2 (fun hl => ?_) (fun hl => ?_)
    · rw [isCue_len (by omega)] at q
      exact b_t rfl q
    · obtain ⟨n, es, u, w, f, rfl⟩ : ∃ n es u w f, ds = [n, es, u, w, f] := by
        have hl' : ds.length = 5 := by omega
        match ds, hl' with
        | [n, es, u, w, f], _ => exact ⟨n, es, u, w, f, rfl⟩
      have sh' := shaped_tuple sh
      simp only [isCue] at q
      wtm_at "go"
      refine r_ix r ix0 fun x0 r0 => ?_
      wtm_at "go"
      refine ⟨x0, n, _, _, rfl, r0, ?_⟩
      wtm_at "go"
      refine b_2 (fun hn => ?_) (fun hn => ?_)
      · have e : isNum n (last + 1) 999 = false := by simpa using hn
        rw [e] at q
        wtm_at "go"
        exact q
      · have e : isNum n (last + 1) 999 = true := by simpa using hn
        rw [e] at q
        wtm_at "go"
        refine r_ix r ix1 fun x1 r1 => ?_
        wtm_at "go"
        refine ⟨x1, es, rfl, r1, sh' es (by simp), ?_⟩
        wtm_at "go"
        refine b_2 (fun he => ?_) (fun he => ?_)
        · have e : areEnts es = false := by simpa using he
          rw [e] at q
          exact b_t rfl q
        · have e : areEnts es = true := by simpa using he
          rw [e] at q
          wtm_at "go"
          refine r_ix r ix2 fun x2 r2 => ?_
          wtm_at "go"
          refine ⟨x2, u, _, _, rfl, r2, ?_⟩
          wtm_at "go"
          refine b_2 (fun hu => ?_) (fun hu => ?_)
          · have e : isNum u 0 20 = false := by simpa using hu
            rw [e] at q
            exact b_t rfl q
          · have e : isNum u 0 20 = true := by simpa using hu
            rw [e] at q
            wtm_at "go"
            refine r_ix r ix3 fun x3 r3 => ?_
            wtm_at "go"
            refine ⟨x3, w, _, _, rfl, r3, ?_⟩
            wtm_at "go"
            refine b_2 (fun hw => ?_) (fun hw => ?_)
            · have e : isNum w 0 20 = false := by simpa using hw
              rw [e] at q
              wtm_at "go"
              exact q
            · have e : isNum w 0 20 = true := by simpa using hw
              rw [e] at q
              wtm_at "go"
              refine r_ix r ix4 fun x4 r4 => ?_
              wtm_at "go"
              refine d_2 (fun hf => ?_) (fun hf => ?_)
              · subst hf
                have e : f = .none := by
                  cases f <;> simp [Rp] at r4 <;> rfl
                subst e
                exact q
              · have e : isNone f = false := by
                  cases f <;> first | rfl | (simp only [Rp] at r4; exact absurd r4 hf)
                rw [e] at q
                wtm_at "go"
                refine r_ix r ix4 fun x5 r5 => ?_
                wtm_at "go"
                exact ⟨x5, f, _, _, rfl, r5, by simpa using q⟩
/-! ### need_cues: the first cue that can't be -/
def badCue : Int → Nat → List PyData → Option Nat
  | _, _, [] => none
  | last, k, d :: r => if k = 40 ∨ isCue d last = false then some k else match d with
    | .tuple (.int n :: _) => badCue n (k + 1) r
    | _ => none
def sp_need_cues (K : PySem.W.Frag) : Sp := fun vs H Q _ => ∃ v ds, vs = [v] ∧ Rp H (.tuple ds) v ∧ SeqAt.shaped (.tuple ds) = true ∧ badCue (-1) 0 ds = none ∧ ∀ H', Ex [] H H' → Q .non H'
def N_need_cues : List Str := ["cues", "last", "number", "cue"]
def t_need_cues (r_BadCues : TA → TS) (K : PySem.W.Frag) (E : XK) : TS :=
  (tSeq (tIfS (tNot (tB (tCB (oIsi K) (tCons (tVar 0) (tCons (tC (.ty "tuple")) tNil))))) (r_BadCues (tCons (tOp oSub (tC (.int 0)) (tC (.int 1))) tNil)) tNext)
  (tSeq (tAsg (tOp oSub (tC (.int 0)) (tC (.int 1))) (gName 1))
  (tFor (iEnumA K (tCons (tVar 0) tNil)) (gTup K 2 (gCons (gName 2) (gCons (gName 3) gNil)))
    (tSeq (tIfS (tOr (tTest (tOp (oEq K) (tVar 2) (tC (.int 40)))) (tNot (tB (tCall (sp_is_cue K) [] E (tCons (tVar 3) (tCons (tVar 1) tNil)))))) (r_BadCues (tCons (tVar 2) tNil)) tNext)
  (tAsg (tOp (oIx K) (tVar 3) (tC (.int 0))) (gName 1))))))
theorem isCue_form {d : PyData} {last : Int} (h : isCue d last = true) : ∃ n es u w f, d = .tuple [.int n, es, u, w, f] := by
  match d, h with
  | .tuple [n, es, u, w, f], h =>
    cases n with
    | int n => exact ⟨n, es, u, w, f, rfl⟩
    | _ => simp [isCue, isNum] at h
theorem pure_need_cues {K : PySem.W.Frag} (r_BadCues : TA → TS) (vs : List V) (H : Hp) (Q : VK) (E : XK) (h : sp_need_cues K vs H Q E) : t_need_cues r_BadCues K E { nx := fun _ H' => Q .non H', rt := Q } (start N_need_cues vs) H := by
  obtain ⟨v, ds, rfl, r, sh, hb, q⟩ := h
  show t_need_cues r_BadCues K E _ [some v, none, none, none] H
  obtain ⟨a, xs, rfl, hT, hA⟩ := r.tup_inv
  unfold t_need_cues
  wtm_at "go"
  refine r_tup r ?_
  wtm_at "go"
  refine b_f rfl ?_
  wtm_at "go"
  refine ⟨a, xs, rfl, .inr ⟨hT.sq, for_enum (K := K) (a := a) (xs := xs) (fun i σ H' => ∃ (last : Int) (o p : Option V), σ = [some (.ref a), some (.int last), o, p] ∧ Ex [] H H' ∧ badCue last i (ds.drop i) = none) ⟨-1, _, _, rfl, .refl, hb⟩ (fun i σ H' _ ⟨_, _, _, _, e, _⟩ => (e.isT hT).sq) ?_ ?_⟩⟩
  · rintro i x σ H1 H2 hx ⟨last, o, p, rfl, e1, inv⟩ e2
    obtain ⟨d, hd, rx⟩ := hA.get hx
    rw [drop_at hd] at inv
    have shd : SeqAt.shaped d = true := shaped_tuple sh d (List.mem_of_getElem? hd)
    have rx2 : Rp H2 d x := Rp.ex (e1.trans e2) rx
    unfold badCue at inv
    split at inv
    · cases inv
    · rename_i hc
      obtain ⟨hc1, hc2⟩ := not_or.mp hc
      have hcue : isCue d last = true := by simpa using hc2
      obtain ⟨n, es, u, w, f, rfl⟩ := isCue_form hcue
      dsimp only [List.set]
      wtm_at "go"
      refine d_f (by omega) ?_
      wtm_at "go"
      refine ⟨x, _, last, rfl, rx2, shd, ?_⟩
      rw [hcue]
      wtm_at "go"
      refine b_f rfl ?_
      wtm_at "go"
      refine r_ix rx2 ix0 fun x2 r2 => ?_
      simp only [Rp] at r2
      subst r2
      wtm_at "go"
      exact ⟨n, _, _, rfl, e1.trans e2, inv⟩
  · rintro σ H1 ⟨last, o, p, rfl, e1, inv⟩
    exact q H1 e1
end Lc
/-! P2: how the laws draw. -/
namespace Lc
open PySem PySem.Spec PyProof.Rows L2
/-! ### the drawing's state -/
def DS (K : PySem.W.Frag) (H : Hp) (st : Addr) : Prop := ∃ (sa : Addr) (ns : List Int) (k m l : Int), H st = some (.lst [.ref sa, .int k, .int m, .int l]) ∧ SqF K H sa (ns.map V.int) ∧ 0 ≤ k ∧ 0 ≤ m ∧ m < 2147483647
theorem DS.ex {K : PySem.W.Frag} {W : List Addr} {H H' : Hp} {st : Addr} (e : Ex W H H') (n : st ∉ W) (h : DS K H st) : DS K H' st :=
  let ⟨sa, ns, k, m, l, h1, h2, h3⟩ := h; ⟨sa, ns, k, m, l, e.get n h1, h2.ex e, h3⟩
theorem DS.ex0 {K : PySem.W.Frag} {H H' : Hp} {st : Addr} (e : Ex [] H H') (h : DS K H st) : DS K H' st := h.ex e (fun z => nomatch z)
theorem DS.ex1 {K : PySem.W.Frag} {H H' : Hp} {st l : Addr} (e : Ex [l] H H') (n : st ≠ l) (h : DS K H st) : DS K H' st := h.ex e (fun z => n (List.mem_singleton.mp z))
theorem DS.ne {K : PySem.W.Frag} {H : Hp} {st p : Addr} (h : DS K H st) (hp : H p = none) : p ≠ st := fun e => by
  subst e
  obtain ⟨_, _, _, _, _, h1, _⟩ := h
  rw [h1] at hp
  cases hp
def sp__law_start (K : PySem.W.Frag) : Sp := fun vs H Q _ => ∃ (a : Addr) (ns : List Int), vs = [.ref a] ∧ SqF K H a (ns.map V.int) ∧ ∀ p H', H p = none → Ex [] H H' → DS K H' p → Q (.ref p) H'
def N__law_start : List Str := ["_law_script", "_law_mixed", "_law_cell"]
def t__law_start (K : PySem.W.Frag) (E : XK) : TS :=
  (tSeq (tAsg (tC (.int 1)) (gName 1))
  (tSeq (tFor (iList K (tVar 0)) (gName 2)
    (tAsg (tOp oMod (tOp oAdd (tOp oAdd (tOp oMul (tVar 1) (tC (.int 48271))) (tVar 2)) (tC (.int 7))) (tC (.int 2147483647))) (gName 1)))
  (tRet (tLstF (tCons (tVar 0) (tCons (tC (.int 0)) (tCons (tVar 1) (tCons (tC (.int 0)) tNil))))))))
theorem mul_ok {i j : Int} (h1 : 0 ≤ i) (h2 : i < 2147483647) (h3 : 0 ≤ j) (h4 : j < 2147483647) : CMulW i j := wide_mul (a := 31) (b := 31) (by omega) (by omega) (by decide) (by decide) (by decide)
theorem div_ok {i j : Int} (h1 : 0 < j) (h2 : j ≤ 1000000000000000000) : CDivW i j := wide_div (b := 60) h1 (by omega) (by decide) (by decide)
theorem pure__law_start {K : PySem.W.Frag} (vs : List V) (H : Hp) (Q : VK) (E : XK) (h : sp__law_start K vs H Q E) : t__law_start K E { nx := fun _ H' => Q .non H', rt := Q } (start N__law_start vs) H := by
  obtain ⟨a, ns, rfl, hS, q⟩ := h
  show t__law_start K E _ [some (.ref a), none, none] H
  unfold t__law_start
  wtm_at "go"
  refine ⟨a, rfl, ⟨_, hS.sq⟩, for_list (K := K) (a := a) (xs := ns.map V.int) (fun i σ H' => ∃ (m : Int) (o : Option V), σ = [some (.ref a), some (.int m), o] ∧ H' = H ∧ 0 ≤ m ∧ m < 2147483647) ⟨1, _, rfl, rfl, by decide, by decide⟩ (fun i σ H' _ ⟨_, _, _, e, _⟩ => by rw [e]; exact hS.sq) ?_ ?_⟩
  · rintro i x σ H' hx ⟨m, o, rfl, rfl, h1, h2⟩
    obtain ⟨n, rfl⟩ : ∃ n, x = V.int n := by
      rw [List.getElem?_map] at hx
      cases e : ns[i]? with
      | none => rw [e] at hx; cases hx
      | some n => rw [e] at hx; exact ⟨n, (Option.some.inj hx).symm⟩
    wtm_at "go"
    refine a_mul (mul_ok h1 h2 (by decide) (by decide)) ?_
    wtm_at "go"
    refine a_mod (by decide) ?_
    wtm_at "go"
    exact ⟨_, _, rfl, rfl, Int.emod_nonneg _ (by decide), Int.emod_lt_of_pos _ (by decide)⟩
  · rintro σ H' ⟨m, o, rfl, rfl, h1, h2⟩
    wtm_at "go"
    refine ⟨z_of (by simp), fun p H1 hp e ha => q p H1 hp e ⟨a, ns, 0, m, 0, ha, hS.ex e, by decide, h1, h2⟩⟩
def sp__law_drawn (K : PySem.W.Frag) : Sp := fun vs H Q _ => ∃ (st : Addr) (n : Int), vs = [.ref st, .int n] ∧ DS K H st ∧ 0 < n ∧ n ≤ 1000000000000000000 ∧ ∀ r H', 0 ≤ r → r < n → Ex [st] H H' → DS K H' st → Q (.int r) H'
def N__law_drawn : List Str := ["_law_state", "_law_many", "_law_found", "_law_cell"]
def t__law_drawn (K : PySem.W.Frag) (E : XK) : TS :=
  (tSeq (tIfS (tTest (tOp oGt (tOp (oIx K) (tVar 0) (tC (.int 3))) (tC (.int 0)))) (tSeq (tAsg (tOp oMod (tOp (oIx K) (tVar 0) (tC (.int 3))) (tVar 1)) (gName 2))
  (tSeq (tAsg (tOp oDiv (tOp (oIx K) (tVar 0) (tC (.int 3))) (tVar 1)) (gSub (tVar 0) (tC (.int 3)) oSet))
  (tRet (tVar 2)))) tNext)
  (tSeq (tAsg (tOp oAdd (tOp (oIx K) (tVar 0) (tC (.int 1))) (tC (.int 1))) (gSub (tVar 0) (tC (.int 1)) oSet))
  (tSeq (tIfS (tTest (tOp oLe (tOp (oIx K) (tVar 0) (tC (.int 1))) (tCB (oLen K) (tCons (tOp (oIx K) (tVar 0) (tC (.int 0))) tNil)))) (tSeq (tAsg (tOp (oIx K) (tOp (oIx K) (tVar 0) (tC (.int 0))) (tOp oSub (tOp (oIx K) (tVar 0) (tC (.int 1))) (tC (.int 1)))) (gName 3))
  (tSeq (tAsg (tIf (tTest (tOp oGe (tVar 3) (tOp oPow (tC (.int 10)) (tC (.int 18))))) (tOp oDiv (tVar 3) (tVar 1)) (tC (.int 0))) (gSub (tVar 0) (tC (.int 3)) oSet))
  (tRet (tOp oMod (tVar 3) (tVar 1))))) tNext)
  (tSeq (tAsg (tOp oMod (tOp oAdd (tOp oMul (tOp (oIx K) (tVar 0) (tC (.int 2))) (tC (.int 48271))) (tC (.int 11))) (tC (.int 2147483647))) (gSub (tVar 0) (tC (.int 2)) oSet))
  (tRet (tOp oMod (tOp oDiv (tOp (oIx K) (tVar 0) (tC (.int 2))) (tC (.int 7))) (tVar 1)))))))
theorem pure__law_drawn {K : PySem.W.Frag} (vs : List V) (H : Hp) (Q : VK) (E : XK) (h : sp__law_drawn K vs H Q E) : t__law_drawn K E { nx := fun _ H' => Q .non H', rt := Q } (start N__law_drawn vs) H := by
  obtain ⟨st, n, rfl, ⟨sa, ns, k, m, l, h1, hS, hk, hm1, hm2⟩, hn1, hn2, q⟩ := h
  show t__law_drawn K E _ [some (.ref st), some (.int n), none, none] H
  unfold t__law_drawn
  wtm_at "go"
  refine a_ixL h1 atI_3 ?_
  wtm_at "go"
  refine d_2 (fun hl => ?_) (fun hl => ?_)
  · wtm_at "go"
    refine a_ixL h1 atI_3 ?_
    wtm_at "go"
    refine a_mod hn1 ?_
    wtm_at "go"
    refine a_ixL h1 atI_3 ?_
    wtm_at "go"
    refine a_div (div_ok hn1 hn2) ?_
    wtm_at "go"
    refine s_lst h1 rfl fun H' e ha => ?_
    wtm_at "go"
    exact q _ _ (Int.emod_nonneg _ (by omega)) (Int.emod_lt_of_pos _ hn1) e ⟨sa, ns, k, m, _, ha, hS.ex e, hk, hm1, hm2⟩
  · wtm_at "go"
    refine a_ixL h1 atI_1 ?_
    wtm_at "go"
    refine s_lst h1 rfl fun H1 e1 ha1 => ?_
    wtm_at "go"
    refine a_ixL ha1 atI_1 ?_
    wtm_at "go"
    refine a_ixL ha1 atI_0 ?_
    wtm_at "go"
    refine l_Lq (hS.ex e1).sq ?_
    wtm_at "go"
    refine d_2 (fun hle => ?_) (fun hle => ?_)
    · have hlt : k.toNat < ns.length := by
        rw [List.length_map] at hle
        omega
      wtm_at "go"
      refine a_ixL ha1 atI_0 ?_
      wtm_at "go"
      refine a_ixL ha1 atI_1 ?_
      wtm_at "go"
      refine a_ixLq (hS.ex e1).sq (v := .int ns[k.toNat]) (at_of (j := k.toNat) (by omega) (by simp [hlt])) ?_
      wtm_at "go"
      refine a_pow ⟨by decide, by decide, by decide⟩ ?_
      wtm_at "go"
      refine b_2 (fun hg => ?_) (fun hg => ?_)
      · wtm_at "go"
        refine a_div (div_ok hn1 hn2) ?_
        wtm_at "go"
        refine s_lst ha1 rfl fun H2 e2 ha2 => ?_
        wtm_at "go"
        refine a_mod hn1 ?_
        exact q _ _ (Int.emod_nonneg _ (by omega)) (Int.emod_lt_of_pos _ hn1) (e1.trans e2) ⟨sa, ns, _, m, _, ha2, (hS.ex e1).ex e2, by omega, hm1, hm2⟩
      · wtm_at "go"
        refine s_lst ha1 rfl fun H2 e2 ha2 => ?_
        wtm_at "go"
        refine a_mod hn1 ?_
        exact q _ _ (Int.emod_nonneg _ (by omega)) (Int.emod_lt_of_pos _ hn1) (e1.trans e2) ⟨sa, ns, _, m, _, ha2, (hS.ex e1).ex e2, by omega, hm1, hm2⟩
    · wtm_at "go"
      refine a_ixL ha1 atI_2 ?_
      wtm_at "go"
      refine a_mul (mul_ok hm1 hm2 (by decide) (by decide)) ?_
      wtm_at "go"
      refine a_mod (by decide) ?_
      wtm_at "go"
      refine s_lst ha1 rfl fun H2 e2 ha2 => ?_
      wtm_at "go"
      refine a_ixL ha2 atI_2 ?_
      wtm_at "go"
      refine a_div (div_ok (by decide) (by decide)) ?_
      wtm_at "go"
      refine a_mod hn1 ?_
      exact q _ _ (Int.emod_nonneg _ (by omega)) (Int.emod_lt_of_pos _ hn1) (e1.trans e2) ⟨sa, ns, _, _, _, ha2, (hS.ex e1).ex e2, by omega, Int.emod_nonneg _ (by decide), Int.emod_lt_of_pos _ (by decide)⟩
/-! ### [a, b, ..][drawn] -/
theorem pick {K : PySem.W.Frag} {H : Hp} {st : Addr} {xs : List V} {σ : L2.St} {j : Nat} {n : Int} {E : XK} {Q : VK} (hds : DS K H st) (hσ : σ[j]? = some (some (.ref st))) (hn : n = (xs.length : Int)) (h0 : 0 < xs.length) (h1 : xs.length ≤ 1000)
    (h : ∀ i x H', xs[i]? = some x → i < xs.length → Ex [st] H H' → DS K H' st → Q x H') :
    xs.length ≤ sizeLine ∧ New H (.lst xs) (fun v H2 => tCall (sp__law_drawn K) [] E (tCons (tVar j) (tCons (tC (.int n)) tNil)) σ H2 fun y H3 => oIx K v y H3 Q) := by
  refine ⟨z_of (by omega), fun p H' hp e ha => ?_⟩
  refine ⟨_, hσ, ?_⟩
  refine ⟨st, n, rfl, hds.ex0 e, by omega, by omega, fun r H'' r0 r1 e2 hds2 => ?_⟩
  have hne := hds.ne hp
  have hi : r.toNat < xs.length := by omega
  refine a_ixL (e2.get1 hne ha) (v := xs[r.toNat]) (at_of (j := r.toNat) (by omega) (by simp [hi])) ?_
  exact h r.toNat _ H'' (by simp [hi]) hi ((Ex.any e).trans e2) hds2
/-- drawn, by itself -/
theorem drw {K : PySem.W.Frag} {H : Hp} {st : Addr} {n : Int} {E : XK} {Q : VK} (hds : DS K H st) (h0 : 0 < n) (h1 : n ≤ 1000000) (h : ∀ r H', 0 ≤ r → r < n → Ex [st] H H' → DS K H' st → Q (.int r) H') : sp__law_drawn K ([.ref st, .int n] ++ []) H Q E :=
  ⟨st, n, rfl, hds, h0, by omega, h⟩
/-! ### sources, entries, cues -/
inductive Src where
  | lv (n : Int)
  | pt (n : Int)
  deriving DecidableEq
def Src.py : Src → PyData
  | .lv n => .int n
  | .pt n => .tuple [.str "part", .int n]
def Src.Ok : Src → Prop
  | .lv n => 0 ≤ n ∧ n ≤ 100
  | .pt n => 0 ≤ n ∧ n ≤ 9
theorem eqv_part : PyData.eqv (.str "part") (.str "part") = true := by decide +kernel
theorem Src.what {s : Src} (h : s.Ok) : isWhat s.py = true := by
  cases s with
  | lv n => simpa [Src.py, isWhat, isNum, Src.Ok] using h
  | pt n => simpa [Src.py, isWhat, isNum, eqv_part, Src.Ok] using h
abbrev Ent := Int × Src
def Ent.py (e : Ent) : PyData := .tuple [.int e.1, e.2.py]
/-- lights rising above l -/
def EntsOk : Int → List Ent → Prop
  | _, [] => True
  | l, e :: r => l < e.1 ∧ e.1 ≤ 11 ∧ e.2.Ok ∧ EntsOk e.1 r
theorem EntsOk.are : ∀ {l : Int} {es : List Ent}, EntsOk l es → areEntsFrom l (es.map Ent.py) = true
  | _, [], _ => rfl
  | l, e :: r, h => by
    obtain ⟨h1, h2, h3, h4⟩ := h
    have ih := EntsOk.are h4
    have h5 : isWhat e.2.py = true := Src.what h3
    simp only [List.map_cons, Ent.py, areEntsFrom, h5, ih, Bool.and_eq_true, decide_eq_true_eq, and_true]
    omega
structure Cue where
  num : Int
  ents : List Ent
  up : Int
  down : Int
  fol : Option Int
def folPy : Option Int → PyData
  | none => .none
  | some n => .int n
def Cue.py (c : Cue) : PyData := .tuple [.int c.num, .tuple (c.ents.map Ent.py), .int c.up, .int c.down, folPy c.fol]
structure Cue.Ok (c : Cue) : Prop where
  num : 0 ≤ c.num ∧ c.num ≤ 999
  ents : EntsOk (-1) c.ents
  up : 0 ≤ c.up ∧ c.up ≤ 20
  down : 0 ≤ c.down ∧ c.down ≤ 20
  fol : ∀ n, c.fol = some n → 1 ≤ n ∧ n ≤ 40
theorem Cue.Ok.is {c : Cue} (h : c.Ok) {last : Int} (hl : last < c.num) : isCue c.py last = true := by
  obtain ⟨h1, h2, h3, h4, h5⟩ := h
  have e : areEnts (.tuple (c.ents.map Ent.py)) = true := h2.are
  have f : (isNone (folPy c.fol) || isNum (folPy c.fol) 1 40) = true := by
    cases q : c.fol with
    | none => rfl
    | some n => obtain ⟨a, b⟩ := h5 n q; simp [folPy, isNone, isNum, a, b]
  have g : isCue c.py last = (isNum (.int c.num) (last + 1) 999 && (areEnts (.tuple (c.ents.map Ent.py)) && (isNum (.int c.up) 0 20 && (isNum (.int c.down) 0 20 && (isNone (folPy c.fol) || isNum (folPy c.fol) 1 40))))) := rfl
  rw [g, e, f]
  simp only [isNum, Bool.and_eq_true, decide_eq_true_eq, and_true, true_and]
  omega
/-- cues with numbers rising above l -/
def CuesOk : Int → List Cue → Prop
  | _, [] => True
  | l, c :: r => l < c.num ∧ c.Ok ∧ CuesOk c.num r
theorem CuesOk.not_bad : ∀ {l : Int} {cs : List Cue} {k : Nat}, CuesOk l cs → k + cs.length ≤ 40 → badCue l k (cs.map Cue.py) = none
  | _, [], _, _, _ => rfl
  | l, c :: r, k, h, hk => by
    obtain ⟨h1, h2, h3⟩ := h
    rw [List.length_cons] at hk
    have ih := CuesOk.not_bad (k := k + 1) h3 (by omega)
    show (if k = 40 ∨ isCue c.py l = false then some k else badCue c.num (k + 1) (r.map Cue.py)) = none
    rw [if_neg (by rw [h2.is h1]; simp; omega)]
    exact ih
def cuesPy (cs : List Cue) : PyData := .tuple (cs.map Cue.py)
theorem shaped_of {d : PyData} (h1 : d.canLay0 = true) (h2 : d.depth ≤ 64) : SeqAt.shaped d = true := by unfold SeqAt.shaped; rw [h1]; simpa using h2
theorem lay_all {ds : List PyData} (h : ∀ d ∈ ds, d.canLay0 = true) : PyData.canLayAll0 ds = true := by
  induction ds with
  | nil => rfl
  | cons d r ih => simp only [PyData.canLayAll0, Bool.and_eq_true]; exact ⟨h d (by simp), ih fun x hx => h x (by simp [hx])⟩
theorem depth_all {ds : List PyData} {n : Nat} (h : ∀ d ∈ ds, d.depth ≤ n) : PyData.depthAll ds ≤ n := by
  induction ds with
  | nil => exact Nat.zero_le _
  | cons d r ih => simp only [PyData.depthAll]; have := h d (by simp); have := ih fun x hx => h x (by simp [hx]); omega
theorem part_lay : (PyData.str "part").canLay0 = true := by decide +kernel
theorem Src.lay (s : Src) : s.py.canLay0 = true ∧ s.py.depth ≤ 1 := by
  cases s with
  | lv n => exact ⟨rfl, Nat.zero_le _⟩
  | pt n =>
    refine ⟨?_, by simp [Src.py, PyData.depth, PyData.depthAll]⟩
    show ((PyData.str "part").canLay0 && ((PyData.int n).canLay0 && true)) = true
    rw [part_lay]; rfl
theorem Ent.lay (e : Ent) : (Ent.py e).canLay0 = true ∧ (Ent.py e).depth ≤ 2 := by
  obtain ⟨h1, h2⟩ := e.2.lay
  constructor
  · show (true && (e.2.py.canLay0 && true)) = true
    rw [h1]; rfl
  · show max 0 (max e.2.py.depth 0) + 1 ≤ 2
    omega
theorem ents_lay (es : List Ent) : (PyData.tuple (es.map Ent.py)).canLay0 = true ∧ (PyData.tuple (es.map Ent.py)).depth ≤ 3 := by
  refine ⟨lay_all fun d hd => ?_, Nat.succ_le_succ (depth_all fun d hd => ?_)⟩ <;>
  · obtain ⟨e, _, rfl⟩ := List.mem_map.mp hd
    first | exact e.lay.1 | exact e.lay.2
theorem fol_lay (f : Option Int) : (folPy f).canLay0 = true ∧ (folPy f).depth = 0 := by cases f <;> exact ⟨rfl, rfl⟩
theorem Cue.lay (c : Cue) : c.py.canLay0 = true ∧ c.py.depth ≤ 4 := by
  obtain ⟨h1, h2⟩ := ents_lay c.ents
  obtain ⟨h3, h4⟩ := fol_lay c.fol
  constructor
  · show (true && ((PyData.tuple (c.ents.map Ent.py)).canLay0 && (true && (true && ((folPy c.fol).canLay0 && true))))) = true
    rw [h1, h3]; rfl
  · show max 0 (max (PyData.tuple (c.ents.map Ent.py)).depth (max 0 (max 0 (max (folPy c.fol).depth 0)))) + 1 ≤ 4
    omega
theorem cues_lay (cs : List Cue) : (cuesPy cs).canLay0 = true ∧ (cuesPy cs).depth ≤ 5 := by
  refine ⟨lay_all fun d hd => ?_, Nat.succ_le_succ (depth_all fun d hd => ?_)⟩ <;>
  · obtain ⟨e, _, rfl⟩ := List.mem_map.mp hd
    first | exact e.lay.1 | exact e.lay.2
theorem shaped_src (s : Src) : SeqAt.shaped s.py = true := shaped_of s.lay.1 (by have := s.lay.2; omega)
theorem shaped_cue (c : Cue) : SeqAt.shaped c.py = true := shaped_of c.lay.1 (by have := c.lay.2; omega)
theorem shaped_cues (cs : List Cue) : SeqAt.shaped (cuesPy cs) = true := shaped_of (cues_lay cs).1 (by have := (cues_lay cs).2; omega)
/-! ### _law_levels -/
def LevOk (ls : List Int) : Prop := ls.length = 10 ∧ ∀ l ∈ ls, 0 ≤ l ∧ l ≤ 100
def intsPy (ls : List Int) : PyData := .tuple (ls.map .int)
theorem RpAll.ints {H : Hp} : ∀ {ls : List Int}, RpAll H (ls.map .int) (ls.map V.int)
  | [] => .nil
  | _ :: _ => .cons .int RpAll.ints
def sp__law_levels (K : PySem.W.Frag) : Sp := fun vs H Q _ => ∃ (st : Addr), vs = [.ref st] ∧ DS K H st ∧ ∀ v ls H', Ex [st] H H' → DS K H' st → LevOk ls → Rp H' (intsPy ls) v → Q v H'
def N__law_levels : List Str := ["_law_state", "_law_k"]
def t__law_levels (K : PySem.W.Frag) (E : XK) : TS :=
  (tRet (tCB (oTuple K) (tCons (tLc (iRng1 (tCons (tC (.int 10)) tNil)) (gName 1) tYes (tOp (oIx K) (tLstF (tCons (tC (.int 0)) (tCons (tC (.int 100)) (tCons (tCall (sp__law_drawn K) [] E0 (tCons (tVar 0) (tCons (tC (.int 101)) tNil))) tNil)))) (tCall (sp__law_drawn K) [] E0 (tCons (tVar 0) (tCons (tC (.int 3)) tNil)))) [1]) tNil)))
theorem pure__law_levels {K : PySem.W.Frag} (vs : List V) (H : Hp) (Q : VK) (E : XK) (h : sp__law_levels K vs H Q E) : t__law_levels K E { nx := fun _ H' => Q .non H', rt := Q } (start N__law_levels vs) H := by
  obtain ⟨st, rfl, hds, q⟩ := h
  show t__law_levels K E _ [some (.ref st), none] H
  unfold t__law_levels
  wtm_at "go"
  refine ⟨10, rfl, by decide, by decide, lc_rng (fun D k acc H' => ∃ ls : List Int, acc = ls.map V.int ∧ ls.length = k ∧ (∀ l ∈ ls, 0 ≤ l ∧ l ≤ 100) ∧ Ex [st] H H' ∧ DS K H' st) ?_ ?_ ?_⟩
  · intro D H' hD e hd
    exact ⟨[], rfl, rfl, (fun l hl => by cases hl), Ex.any e, hds.ex0 e⟩
  · rintro D k acc H' hD hk ha ⟨ls, rfl, hl, hb, e, hd⟩
    have hne := hds.ne hD
    wtm_at "go"
    refine ⟨rfl, ?_⟩
    wtm_at "go"
    refine iteT ?_
    wtm_at "go"
    refine drw hd (by decide) (by decide) fun r H1 r0 r1 e1 hd1 => ?_
    wtm_at "go"
    refine pick hd1 rfl rfl (by simp) (by simp) fun i x H2 hx hi e2 hd2 => ?_
    obtain ⟨l, rfl, hl0, hl1⟩ : ∃ l : Int, x = .int l ∧ 0 ≤ l ∧ l ≤ 100 := by
      have hm := List.mem_of_getElem? hx
      simp only [List.mem_cons, List.not_mem_nil, or_false] at hm
      rcases hm with rfl | rfl | rfl
      · exact ⟨_, rfl, by omega, by omega⟩
      · exact ⟨_, rfl, by omega, by omega⟩
      · exact ⟨_, rfl, by omega, by omega⟩
    refine LP.add (e2.get1 hne (e1.get1 hne ha)) (by simp [hl]; omega) fun H3 e3 ha3 => ?_
    refine ⟨ls ++ [l], by simp, by simp [hl], ?_, ?_, hd2.ex1 e3 hne.symm⟩
    · intro z hz
      rcases List.mem_append.mp hz with hz | hz
      · exact hb z hz
      · rw [List.mem_singleton.mp hz]; exact ⟨hl0, hl1⟩
    · exact ((e.trans e1).trans e2).loc1 e3 hD
  · rintro D acc H' hD ha ⟨ls, rfl, hl, hb, e, hd⟩
    refine ⟨D, _, rfl, .inl ⟨SqL.of ha, fun p H1 e1 ht => ?_⟩⟩
    exact q _ ls H1 (e.trans (Ex.any e1)) (hd.ex0 e1) ⟨hl, hb⟩ (.tup ht RpAll.ints)
/-! ### _law_what -/
def sp__law_what (K : PySem.W.Frag) : Sp := fun vs H Q _ => ∃ (st : Addr), vs = [.ref st] ∧ DS K H st ∧ ∀ v s H', Ex [st] H H' → DS K H' st → Src.Ok s → Rp H' s.py v → Q v H'
def N__law_what : List Str := ["_law_state", "_law_part"]
def t__law_what (K : PySem.W.Frag) (E : XK) : TS :=
  (tSeq (tAsg (tTupF (tCons (tC (.str "part")) (tCons (tCall (sp__law_drawn K) [] E (tCons (tVar 0) (tCons (tOp (oIx K) (tLstF (tCons (tC (.int 2)) (tCons (tC (.int 10)) tNil))) (tCall (sp__law_drawn K) [] E (tCons (tVar 0) (tCons (tC (.int 2)) tNil)))) tNil))) tNil))) (gName 1))
  (tRet (tOp (oIx K) (tLstF (tCons (tVar 1) (tCons (tOp (oIx K) (tLstF (tCons (tC (.int 0)) (tCons (tC (.int 50)) (tCons (tC (.int 100)) tNil)))) (tCall (sp__law_drawn K) [] E (tCons (tVar 0) (tCons (tC (.int 3)) tNil)))) (tCons (tCall (sp__law_drawn K) [] E (tCons (tVar 0) (tCons (tC (.int 101)) tNil))) tNil)))) (tCall (sp__law_drawn K) [] E (tCons (tVar 0) (tCons (tC (.int 3)) tNil))))))
theorem pure__law_what {K : PySem.W.Frag} (vs : List V) (H : Hp) (Q : VK) (E : XK) (h : sp__law_what K vs H Q E) : t__law_what K E { nx := fun _ H' => Q .non H', rt := Q } (start N__law_what vs) H := by
  obtain ⟨st, rfl, hds, q⟩ := h
  show t__law_what K E _ [some (.ref st), none] H
  unfold t__law_what
  wtm_at "go"
  refine pick hds rfl rfl (by decide) (by decide) fun i x H1 hx hi e1 hd1 => ?_
  obtain ⟨n, rfl, hn0, hn1⟩ : ∃ n : Int, x = .int n ∧ 0 < n ∧ n ≤ 10 := by
    have hm := List.mem_of_getElem? hx
    simp only [List.mem_cons, List.not_mem_nil, or_false] at hm
    rcases hm with rfl | rfl <;> exact ⟨_, rfl, by decide, by decide⟩
  wtm_at "go"
  refine drw hd1 hn0 (by omega) fun r H2 r0 r1 e2 hd2 => ?_
  wtm_at "go"
  refine ⟨z_of (by simp), fun pp H3 e3 ht => ?_⟩
  have hd3 := hd2.ex0 e3
  wtm_at "go"
  refine pick hd3 rfl rfl (by decide) (by decide) fun i2 x2 H4 hx2 hi2 e4 hd4 => ?_
  obtain ⟨n2, rfl, hn20, hn21⟩ : ∃ n : Int, x2 = .int n ∧ 0 ≤ n ∧ n ≤ 100 := by
    have hm := List.mem_of_getElem? hx2
    simp only [List.mem_cons, List.not_mem_nil, or_false] at hm
    rcases hm with rfl | rfl | rfl <;> exact ⟨_, rfl, by decide, by decide⟩
  wtm_at "go"
  refine drw hd4 (by decide) (by decide) fun r5 H5 r50 r51 e5 hd5 => ?_
  wtm_at "go"
  refine pick hd5 rfl rfl (by simp) (by simp) fun i6 x6 H6 hx6 hi6 e6 hd6 => ?_
  have ee : Ex [st] H H6 := ((((e1.trans e2).trans (Ex.any e3)).trans e4).trans e5).trans e6
  have hm := List.mem_of_getElem? hx6
  simp only [List.mem_cons, List.not_mem_nil, or_false] at hm
  rcases hm with rfl | rfl | rfl
  · exact q _ (.pt r) H6 ee hd6 ⟨r0, by omega⟩ (.tup (e6.isT (e5.isT (e4.isT ht))) (.cons .str (.cons .int .nil)))
  · exact q _ (.lv n2) H6 ee hd6 ⟨hn20, hn21⟩ .int
  · exact q _ (.lv r5) H6 ee hd6 ⟨r50, by omega⟩ .int
/-! ### _law_entries -/
def sp__law_entries (K : PySem.W.Frag) : Sp := fun vs H Q _ => ∃ (st : Addr) (o : Int), vs = [.ref st, .int o] ∧ DS K H st ∧ ∀ v es H', Ex [st] H H' → DS K H' st → EntsOk (-1) es → Rp H' (.tuple (es.map Ent.py)) v → Q v H'
def N__law_entries : List Str := ["_law_state", "_law_often", "_law_lights", "_law_light"]
def t__law_entries (K : PySem.W.Frag) (E : XK) : TS :=
  (tSeq (tAsg (tLc (iRng1 (tCons (tC (.int 12)) tNil)) (gName 3) (tTest (tOp oLt (tCall (sp__law_drawn K) [] E0 (tCons (tVar 0) (tCons (tC (.int 12)) tNil))) (tVar 1))) (tVar 3) [3]) (gName 2))
  (tRet (tCB (oTuple K) (tCons (tLc (iList K (tVar 2)) (gName 3) tYes (tTupF (tCons (tVar 3) (tCons (tCall (sp__law_what K) [] E0 (tCons (tVar 0) tNil)) tNil))) [3]) tNil))))
/-- numbers rising from l, below 12 -/
def Rising : Int → List Int → Prop
  | _, [] => True
  | l, x :: r => l < x ∧ x ≤ 11 ∧ Rising x r
theorem Rising.snoc : ∀ {l : Int} {xs : List Int} {x : Int}, Rising l xs → (∀ y ∈ xs, y < x) → l < x → x ≤ 11 → Rising l (xs ++ [x])
  | _, [], _, _, _, h1, h2 => ⟨h1, h2, trivial⟩
  | _, y :: r, _, h, hx, _, h2 => ⟨h.1, h.2.1, h.2.2.snoc (fun z hz => hx z (by simp [hz])) (hx y (by simp)) h2⟩
theorem EntsOk.of : ∀ {l : Int} {xs : List Int} {ss : List Src}, Rising l xs → xs.length = ss.length → (∀ s ∈ ss, s.Ok) → EntsOk l (xs.zip ss)
  | _, [], _, _, _, _ => by simp [EntsOk]
  | _, _ :: _, [], _, h, _ => by simp at h
  | _, x :: xs, s :: ss, h, hl, hs => ⟨h.1, h.2.1, hs s (by simp), EntsOk.of h.2.2 (by simpa using hl) fun t ht => hs t (by simp [ht])⟩
theorem RpAll.snoc {H : Hp} {ds : List PyData} {xs : List V} {d : PyData} {x : V} (h : RpAll H ds xs) (r : Rp H d x) : RpAll H (ds ++ [d]) (xs ++ [x]) := h.append (.one r)
theorem pure__law_entries {K : PySem.W.Frag} (vs : List V) (H : Hp) (Q : VK) (E : XK) (h : sp__law_entries K vs H Q E) : t__law_entries K E { nx := fun _ H' => Q .non H', rt := Q } (start N__law_entries vs) H := by
  obtain ⟨st, o, rfl, hds, q⟩ := h
  show t__law_entries K E _ [some (.ref st), some (.int o), none, none] H
  unfold t__law_entries
  wtm_at "go"
  refine ⟨12, rfl, by decide, by decide, lc_rng (fun D k acc H' => ∃ ls : List Int, acc = ls.map V.int ∧ ls.length ≤ k ∧ (∀ l ∈ ls, l < (k : Int)) ∧ Rising (-1) ls ∧ Ex [st] H H' ∧ DS K H' st) ?_ ?_ ?_⟩
  · intro D H' hD e hd
    exact ⟨[], rfl, Nat.le_refl _, (fun l hl => by cases hl), trivial, Ex.any e, hds.ex0 e⟩
  · rintro D k acc H' hD hk ha ⟨ls, rfl, hl, hb, hr, e, hd⟩
    have hne := hds.ne hD
    have hk12 : k < 12 := hk
    wtm_at "go"
    refine ⟨rfl, ?_⟩
    wtm_at "go"
    refine drw hd (by decide) (by decide) fun r H1 r0 r1 e1 hd1 => ?_
    wtm_at "go"
    refine d_2 (fun hlt => ?_) (fun hlt => ?_)
    · wtm_at "go"
      refine LP.add (e1.get1 hne ha) (by simp; omega) fun H3 e3 ha3 => ?_
      refine ⟨ls ++ [(k : Int)], by simp, by simp; omega, ?_, hr.snoc hb (by omega) (by omega), (e.trans e1).loc1 e3 hD, hd1.ex1 e3 hne.symm⟩
      intro z hz
      rcases List.mem_append.mp hz with hz | hz
      · have := hb z hz; omega
      · rw [List.mem_singleton.mp hz]; omega
    · exact LP.skip (e1.get1 hne ha) ⟨ls, rfl, by omega, (fun z hz => by have := hb z hz; omega), hr, e.trans e1, hd1⟩
  · rintro D acc H1 hD ha ⟨ls, rfl, hl, hb, hr, e, hd⟩
    have hne := hds.ne hD
    have hl12 : ls.length ≤ 12 := hl
    wtm_at "go"
    refine ⟨D, rfl, ⟨_, SqL.of ha⟩, lc_lst (a := D) (xs := ls.map V.int) (fun D2 k acc H' => ∃ ss : List Src, ss.length = k ∧ (∀ s ∈ ss, s.Ok) ∧ RpAll H' (((ls.take k).zip ss).map Ent.py) acc ∧ Ex [st] H1 H' ∧ DS K H' st) ?_ ?_ ?_ ?_⟩
    · intro D2 H' hD2 e2 hd2
      exact ⟨[], rfl, fun s hs => (by cases hs), (by simpa using RpAll.nil), Ex.any e2, hd.ex0 e2⟩
    · rintro D2 k acc H' hD2 hk ⟨ss, _, _, _, e2, _⟩
      exact SqL.of (e2.get1 hne ha)
    · rintro D2 k acc H' x hD2 hx ha2 ⟨ss, hs1, hs2, hA, e2, hd2⟩
      have hne2 := hd.ne hD2
      obtain ⟨l, hl2, rfl⟩ : ∃ l, ls[k]? = some l ∧ x = V.int l := by
        rw [List.getElem?_map] at hx
        cases e : ls[k]? with
        | none => rw [e] at hx; cases hx
        | some n => rw [e] at hx; exact ⟨n, rfl, (Option.some.inj hx).symm⟩
      wtm_at "go"
      refine ⟨rfl, ?_⟩
      wtm_at "go"
      refine iteT ?_
      wtm_at "go"
      refine ⟨st, rfl, hd2, fun v s H3 e3 hd3 hs hv => ?_⟩
      wtm_at "go"
      refine ⟨z_of (by simp), fun p H4 e4 ht => ?_⟩
      have hlen := hA.length
      have hkk : k < ls.length := (List.getElem?_eq_some_iff.mp hl2).1
      refine LP.add (e4.get0 (e3.get1 hne2 ha2)) (by rw [hlen]; simp; omega) fun H5 e5 ha5 => ?_
      refine ⟨ss ++ [s], by simp [hs1], ?_, ?_, ((e2.trans e3).trans (Ex.any e4)).loc1 e5 hD2, (hd3.ex0 e4).ex1 e5 hne2.symm⟩
      · intro z hz
        rcases List.mem_append.mp hz with hz | hz
        · exact hs2 z hz
        · rw [List.mem_singleton.mp hz]; exact hs
      · have ez : (ls.take (k + 1)).zip (ss ++ [s]) = (ls.take k).zip ss ++ [(l, s)] := by
          rw [List.take_succ, hl2, Option.toList_some, List.zip_append (by simp; omega)]
          rfl
        rw [ez, List.map_append]
        exact (((hA.ex e3).ex e4).ex e5).snoc (.tup (e5.isT ht) (.cons .int (.cons ((hv.ex e4).ex e5) .nil)))
    · rintro D2 acc H2 hD2 ha2 ⟨ss, hs1, hs2, hA, e2, hd2⟩
      rw [List.length_map] at hs1 hA
      rw [List.take_length] at hA
      refine ⟨D2, _, rfl, .inl ⟨SqL.of ha2, fun p H3 e3 ht => ?_⟩⟩
      exact q _ _ H3 ((e.trans e2).trans (Ex.any e3)) (hd2.ex0 e3) (EntsOk.of hr hs1.symm hs2) (.tup ht (hA.ex e3))
end Lc
/-! M1: entries by lights, rows of sources, dicts by lights. -/
namespace Lc
open PySem PySem.Spec PyProof.Rows L2
/-- what entries tell a light -/
def look (es : List Ent) (l : Nat) : Option Src := es.foldl (fun o e => if e.1 = (l : Int) then some e.2 else o) none
theorem look_nil (l : Nat) : look [] l = none := rfl
theorem look_snoc (es : List Ent) (e : Ent) (l : Nat) : look (es ++ [e]) l = if e.1 = (l : Int) then some e.2 else look es l := by simp [look, List.foldl_append]
theorem look_from (l : Nat) : ∀ (es : List Ent) (o : Option Src), es.foldl (fun o e => if e.1 = (l : Int) then some e.2 else o) o = (look es l).or o
  | [], o => by simp [look]
  | e :: es, o => by
    have h1 := look_from l es (if e.1 = (l : Int) then some e.2 else o)
    have h2 := look_from l es (if e.1 = (l : Int) then some e.2 else none)
    rw [List.foldl_cons, h1]
    rw [show look (e :: es) l = es.foldl (fun o e => if e.1 = (l : Int) then some e.2 else o) (if e.1 = (l : Int) then some e.2 else none) from rfl, h2]
    by_cases h : e.1 = (l : Int)
    · simp only [if_pos h]; cases look es l <;> rfl
    · simp only [if_neg h]; cases look es l <;> rfl
theorem look_cons (e : Ent) (es : List Ent) (l : Nat) : look (e :: es) l = (look es l).or (if e.1 = (l : Int) then some e.2 else none) := look_from l es _
theorem look_none {es : List Ent} {l : Nat} (h : ∀ e ∈ es, e.1 ≠ (l : Int)) : look es l = none := by
  induction es with
  | nil => rfl
  | cons e r ih => rw [look_cons, ih fun x hx => h x (by simp [hx]), if_neg (h e (by simp))]; rfl
theorem look_mem {es : List Ent} {l : Nat} {s : Src} (h : look es l = some s) : ((l : Int), s) ∈ es := by
  induction es with
  | nil => cases h
  | cons e r ih =>
    rw [look_cons] at h
    cases q : look r l with
    | some t => rw [q] at h; have : t = s := by simpa using h
                subst this; exact List.mem_cons_of_mem _ (ih q)
    | none =>
      rw [q] at h
      by_cases c : e.1 = (l : Int)
      · rw [if_pos c] at h
        have : e.2 = s := by simpa using h
        subst this; rw [← c]; exact List.mem_cons_self
      · rw [if_neg c] at h; cases h
theorem EntsOk.above : ∀ {l : Int} {es : List Ent}, EntsOk l es → ∀ e ∈ es, l < e.1 ∧ e.1 ≤ 11 ∧ e.2.Ok
  | _, [], _, _, h => by cases h
  | l, x :: r, h, e, he => by
    rcases List.mem_cons.mp he with rfl | he
    · exact ⟨h.1, h.2.1, h.2.2.1⟩
    · obtain ⟨a, b, c⟩ := EntsOk.above h.2.2.2 e he
      have := h.1
      exact ⟨by omega, b, c⟩
theorem EntsOk.mono {l l' : Int} (h : l' ≤ l) : ∀ {es : List Ent}, EntsOk l es → EntsOk l' es
  | [], _ => trivial
  | _ :: _, q => ⟨by have := q.1; omega, q.2⟩
theorem EntsOk.look_of : ∀ {l : Int} {es : List Ent} {e : Ent}, EntsOk l es → -1 ≤ l → e ∈ es → look es e.1.toNat = some e.2
  | l, x :: r, e, h, hl, he => by
    rw [look_cons]
    rcases List.mem_cons.mp he with rfl | he
    · have := h.1
      rw [look_none fun y hy => by have := (h.2.2.2.above y hy).1; omega, if_pos (by omega)]; rfl
    · have := h.1
      rw [h.2.2.2.look_of (by omega) he]; rfl
theorem EntsOk.look_ok {es : List Ent} {l : Int} (h : EntsOk l es) {k : Nat} {s : Src} (e : look es k = some s) : s.Ok := (h.above _ (look_mem e)).2.2
theorem EntsOk.look_lt {es : List Ent} {l : Int} (h : EntsOk l es) {k : Nat} {s : Src} (e : look es k = some s) : k < 12 := by
  have := (h.above _ (look_mem e)).2.1
  have : ((k : Int), s).1 ≤ 11 := this
  simp only at this
  omega
/-- the entries of what lights are told -/
def entsR (f : Nat → Option Src) (n m : Nat) : List Ent := (List.range' n m).filterMap fun k => (f k).map fun s => ((k : Int), s)
def entsOf (f : Nat → Option Src) : List Ent := entsR f 0 12
theorem entsR_cons (f : Nat → Option Src) (n m : Nat) : entsR f n (m + 1) = (match f n with | some s => [((n : Int), s)] | none => []) ++ entsR f (n + 1) m := by
  unfold entsR
  rw [List.range'_succ, List.filterMap_cons]
  cases f n <;> rfl
theorem entsR_congr {f g : Nat → Option Src} : ∀ {n m : Nat}, (∀ k, n ≤ k → k < n + m → f k = g k) → entsR f n m = entsR g n m
  | _, 0, _ => rfl
  | n, m + 1, h => by rw [entsR_cons, entsR_cons, h n (Nat.le_refl _) (by omega), entsR_congr fun k h1 h2 => h k (by omega) (by omega)]
theorem entsOf_congr {f g : Nat → Option Src} (h : ∀ k, k < 12 → f k = g k) : entsOf f = entsOf g := entsR_congr fun k _ h2 => h k (by omega)
theorem entsR_ok {f : Nat → Option Src} : ∀ {n m : Nat}, n + m = 12 → (∀ k, n ≤ k → k < 12 → ∀ s, f k = some s → s.Ok) → EntsOk ((n : Int) - 1) (entsR f n m)
  | _, 0, _, _ => trivial
  | n, m + 1, h, q => by
    rw [entsR_cons]
    have ih := entsR_ok (f := f) (n := n + 1) (m := m) (by omega) fun k h1 h2 => q k (by omega) h2
    have ih' : EntsOk (n : Int) (entsR f (n + 1) m) := ih.mono (by omega)
    cases e : f n with
    | none => exact ih'.mono (by omega)
    | some s => exact ⟨by show (n : Int) - 1 < n; omega, by show (n : Int) ≤ 11; omega, q n (Nat.le_refl _) (by omega) s e, ih'⟩
theorem entsOf_ok {f : Nat → Option Src} (q : ∀ k, k < 12 → ∀ s, f k = some s → s.Ok) : EntsOk (-1) (entsOf f) := (entsR_ok (f := f) (n := 0) (m := 12) rfl fun k _ => q k).mono (by omega)
theorem entsR_low {f : Nat → Option Src} {n m : Nat} {e : Ent} (h : e ∈ entsR f n m) : ∃ k s, n ≤ k ∧ k < n + m ∧ f k = some s ∧ e = ((k : Int), s) := by
  unfold entsR at h
  rw [List.mem_filterMap] at h
  obtain ⟨k, hk, h⟩ := h
  rw [List.mem_range'_1] at hk
  cases q : f k with
  | none => rw [q] at h; cases h
  | some s => rw [q] at h; exact ⟨k, s, hk.1, hk.2, q, (Option.some.inj h).symm⟩
theorem look_entsR {f : Nat → Option Src} : ∀ {n m : Nat} (l : Nat), look (entsR f n m) l = if n ≤ l ∧ l < n + m then f l else none
  | n, 0, l => by rw [if_neg (by omega)]; rfl
  | n, m + 1, l => by
    rw [entsR_cons]
    have ih := look_entsR (f := f) (n := n + 1) (m := m) l
    cases e : f n with
    | none =>
      show look (entsR f (n + 1) m) l = _
      rw [ih]
      by_cases c : l = n
      · subst c; rw [if_neg (by omega), if_pos (by omega), e]
      · by_cases d : n ≤ l ∧ l < n + (m + 1)
        · rw [if_pos (by omega), if_pos d]
        · rw [if_neg (by omega), if_neg d]
    | some s =>
      show look (((n : Int), s) :: entsR f (n + 1) m) l = _
      rw [look_cons, ih]
      by_cases c : l = n
      · subst c; rw [if_neg (by omega), if_pos rfl, if_pos (by omega), e]; rfl
      · rw [if_neg (show ¬ ((n : Int), s).1 = (l : Int) by show ¬ (n : Int) = l; omega)]
        by_cases d : n ≤ l ∧ l < n + (m + 1)
        · rw [if_pos (by omega), if_pos d]; cases f l <;> rfl
        · rw [if_neg (by omega), if_neg d]; rfl
theorem look_entsOf {f : Nat → Option Src} {l : Nat} (h : l < 12) : look (entsOf f) l = f l := by
  unfold entsOf
  rw [look_entsR, if_pos (by omega)]
theorem entsR_look : ∀ {n m : Nat} {es : List Ent}, n + m = 12 → EntsOk ((n : Int) - 1) es → entsR (look es) n m = es
  | n, 0, [], _, _ => rfl
  | n, 0, e :: r, h, q => by have h1 := q.1; have h2 := q.2.1; omega
  | n, m + 1, [], h, _ => by
    rw [entsR_cons]
    show [] ++ entsR (look []) (n + 1) m = []
    rw [entsR_look (n := n + 1) (m := m) (es := []) (by omega) trivial]; rfl
  | n, m + 1, e :: r, h, q => by
    rw [entsR_cons]
    obtain ⟨h1, h2, h3, h4⟩ := q
    by_cases c : e.1 = (n : Int)
    · have l1 : look (e :: r) n = some e.2 := by
        rw [look_cons, look_none fun y hy => by have := (h4.above y hy).1; omega, if_pos c]; rfl
      rw [l1]
      have l2 : entsR (look (e :: r)) (n + 1) m = entsR (look r) (n + 1) m := entsR_congr fun k k1 _ => by
        rw [look_cons, if_neg (by omega)]; cases look r k <;> rfl
      rw [l2, entsR_look (by omega) (h4.mono (by omega))]
      obtain ⟨e1, e2⟩ := e
      simp only at c
      subst c
      rfl
    · have l1 : look (e :: r) n = none := look_none fun y hy => by
        rcases List.mem_cons.mp hy with rfl | hy
        · exact c
        · have := (h4.above y hy).1; omega
      rw [l1]
      show [] ++ _ = _
      rw [List.nil_append]
      exact entsR_look (by omega) ⟨by omega, h2, h3, h4⟩
theorem entsOf_look {es : List Ent} (h : EntsOk (-1) es) : entsOf (look es) = es := entsR_look (n := 0) (m := 12) rfl (h.mono (by omega))
theorem look_ext {es fs : List Ent} (h1 : EntsOk (-1) es) (h2 : EntsOk (-1) fs) (h : ∀ l, l < 12 → look es l = look fs l) : es = fs := by
  rw [← entsOf_look h1, ← entsOf_look h2]
  exact entsOf_congr h
/-! ### rows of sources -/
abbrev Row := Nat → Src
def run (g : Row) (es : List Ent) : Row := fun l => (look es l).getD (g l)
def row0 : Row := fun _ => .lv 0
def rowsF : Row → List Cue → List Row
  | _, [] => []
  | g, c :: cs => run g c.ents :: rowsF (run g c.ents) cs
def rows (cs : List Cue) : List Row := rowsF row0 cs
theorem rowsF_length : ∀ {g : Row} {cs : List Cue}, (rowsF g cs).length = cs.length
  | _, [] => rfl
  | _, _ :: _ => by simp [rowsF, rowsF_length]
theorem rows_length {cs : List Cue} : (rows cs).length = cs.length := rowsF_length
/-- the row behind all cues -/
def endF (g : Row) (cs : List Cue) : Row := cs.foldl (fun g c => run g c.ents) g
theorem rowsF_snoc : ∀ {g : Row} {cs : List Cue} {c : Cue}, rowsF g (cs ++ [c]) = rowsF g cs ++ [run (endF g cs) c.ents]
  | _, [], _ => rfl
  | _, _ :: _, _ => by simp [rowsF, rowsF_snoc, endF]
theorem endF_snoc {g : Row} {cs : List Cue} {c : Cue} : endF g (cs ++ [c]) = run (endF g cs) c.ents := by simp [endF, List.foldl_append]
theorem rowsF_get : ∀ {g : Row} {cs : List Cue} {k : Nat}, k < cs.length → (rowsF g cs)[k]? = some (endF g (cs.take (k + 1)))
  | _, c :: cs, 0, _ => rfl
  | g, c :: cs, k + 1, h => by
    have := rowsF_get (g := run g c.ents) (cs := cs) (k := k) (by simpa using h)
    simpa [rowsF, endF] using this
theorem run_ok {g : Row} {es : List Ent} {l : Int} (hg : ∀ k, (g k).Ok) (h : EntsOk l es) : ∀ k, (run g es k).Ok := fun k => by
  unfold run
  cases e : look es k with
  | none => exact hg k
  | some s => exact h.look_ok e
theorem endF_ok : ∀ {g : Row} {cs : List Cue} {l : Int}, (∀ k, (g k).Ok) → CuesOk l cs → ∀ k, (endF g cs k).Ok
  | _, [], _, hg, _ => hg
  | g, c :: cs, _, hg, h => endF_ok (g := run g c.ents) (run_ok hg h.2.1.ents) h.2.2
theorem row0_ok : ∀ k, (row0 k).Ok := fun _ => ⟨by decide, by decide⟩
theorem CuesOk.take : ∀ {l : Int} {cs : List Cue} (k : Nat), CuesOk l cs → CuesOk l (cs.take k)
  | _, [], _, _ => by simp [CuesOk]
  | _, _ :: _, 0, _ => trivial
  | _, _ :: _, k + 1, h => ⟨h.1, h.2.1, h.2.2.take k⟩
theorem CuesOk.mem : ∀ {l : Int} {cs : List Cue}, CuesOk l cs → ∀ c ∈ cs, l < c.num ∧ c.Ok
  | _, [], _, _, h => by cases h
  | l, x :: r, h, c, hc => by
    rcases List.mem_cons.mp hc with rfl | hc
    · exact ⟨h.1, h.2.1⟩
    · obtain ⟨a, b⟩ := h.2.2.mem c hc
      have := h.1
      exact ⟨by omega, b⟩
theorem rows_ok {cs : List Cue} {l : Int} (h : CuesOk l cs) : ∀ g ∈ rows cs, ∀ k, (g k).Ok := fun g hg => by
  obtain ⟨i, hi, e⟩ := List.mem_iff_getElem.mp hg
  have h1 : i < cs.length := by rw [← rows_length]; exact hi
  have h2 : (rows cs)[i]? = some g := by rw [List.getElem?_eq_getElem hi, e]
  rw [show rows cs = rowsF row0 cs from rfl, rowsF_get h1] at h2
  cases h2
  exact endF_ok row0_ok (h.take _)
/-- numbers rise, so a number is of one cue -/
theorem CuesOk.lt {c d : Cue} (cs : List Cue) : ∀ {l : Int} {i j : Nat}, CuesOk l cs → i < j → cs[i]? = some c → cs[j]? = some d → c.num < d.num := by
  induction cs with
  | nil => intro l i j _ _ hc; simp at hc
  | cons x r ih =>
    intro l i j h hij hc hd
    cases j with
    | zero => omega
    | succ j =>
      cases i with
      | zero =>
        have e : x = c := by simpa using hc
        subst e
        exact (h.2.2.mem d (List.mem_of_getElem? (i := j) (by simpa using hd))).1
      | succ i => exact ih h.2.2 (show i < j by omega) (by simpa using hc) (by simpa using hd)
theorem CuesOk.inj {l : Int} {cs : List Cue} {i j : Nat} {c d : Cue} (h : CuesOk l cs) (hc : cs[i]? = some c) (hd : cs[j]? = some d) (e : c.num = d.num) : i = j := by
  rcases Nat.lt_trichotomy i j with q | q | q
  · have := CuesOk.lt cs h q hc hd; omega
  · exact q
  · have := CuesOk.lt cs h q hd hc; omega
theorem CuesOk.snoc : ∀ {l : Int} {cs : List Cue} {c : Cue}, CuesOk l cs → (∀ d ∈ cs, d.num < c.num) → l < c.num → c.Ok → CuesOk l (cs ++ [c])
  | _, [], _, _, _, h1, h2 => ⟨h1, h2, trivial⟩
  | _, x :: r, _, h, hx, _, h2 => ⟨h.1, h.2.1, h.2.2.snoc (fun d hd => hx d (by simp [hd])) (hx x (by simp)) h2⟩
end Lc
/-! M2: rows and dicts in the heap; comprehensions that lay data. -/
namespace Lc
open PySem PySem.Spec PyProof.Rows L2
/-! ### one row: a list of twelve -/
structure RowV (H : Hp) (xs : List V) (g : Row) : Prop where
  len : xs.length = 12
  at_ : ∀ l, l < 12 → ∃ x, xs[l]? = some x ∧ Rp H (g l).py x
theorem RowV.ex {W : List Addr} {H H' : Hp} {xs : List V} {g : Row} (e : Ex W H H') (h : RowV H xs g) : RowV H' xs g := ⟨h.len, fun l hl => let ⟨x, a, b⟩ := h.at_ l hl; ⟨x, a, b.ex e⟩⟩
theorem RowV.congr {H : Hp} {xs : List V} {g g' : Row} (h : RowV H xs g) (q : ∀ l, l < 12 → g l = g' l) : RowV H xs g' := ⟨h.len, fun l hl => by rw [← q l hl]; exact h.at_ l hl⟩
theorem RowV.set {H : Hp} {xs : List V} {g : Row} {l : Nat} {s : Src} {x : V} (h : RowV H xs g) (hl : l < 12) (r : Rp H s.py x) : RowV H (xs.set l x) (fun k => if k = l then s else g k) := by
  refine ⟨by rw [List.length_set]; exact h.len, fun k hk => ?_⟩
  by_cases c : k = l
  · subst c
    exact ⟨x, by rw [List.getElem?_set_self (by rw [h.len]; exact hk)], by rw [if_pos rfl]; exact r⟩
  · obtain ⟨y, a, b⟩ := h.at_ k hk
    exact ⟨y, by rw [List.getElem?_set_ne (by omega)]; exact a, by rw [if_neg c]; exact b⟩
theorem RowV.zero {H : Hp} : RowV H (List.replicate 12 [V.int 0]).flatten row0 := by
  refine ⟨rfl, fun l hl => ⟨.int 0, ?_, .int⟩⟩
  show [V.int 0, .int 0, .int 0, .int 0, .int 0, .int 0, .int 0, .int 0, .int 0, .int 0, .int 0, .int 0][l]? = _
  match l, hl with
  | 0, _ | 1, _ | 2, _ | 3, _ | 4, _ | 5, _ | 6, _ | 7, _ | 8, _ | 9, _ | 10, _ | 11, _ => rfl
theorem RpAll.of_get {H : Hp} : ∀ {ds : List PyData} {xs : List V}, xs.length = ds.length → (∀ (i : Nat) d, ds[i]? = some d → ∃ x, xs[i]? = some x ∧ Rp H d x) → RpAll H ds xs
  | [], [], _, _ => .nil
  | [], _ :: _, h, _ => by simp at h
  | _ :: _, [], h, _ => by simp at h
  | d :: ds, x :: xs, h, q => by
    obtain ⟨y, a, b⟩ := q 0 d rfl
    have e : x = y := by simpa using a
    subst e
    exact .cons b (RpAll.of_get (by simpa using h) fun i d' hd => by
      obtain ⟨z, a, b⟩ := q (i + 1) d' (by simpa using hd)
      exact ⟨z, by simpa using a, b⟩)
def rowPy (g : Row) : List PyData := (List.range 12).map fun l => (g l).py
theorem rowPy_length (g : Row) : (rowPy g).length = 12 := by simp [rowPy]
theorem RowV.all {H : Hp} {xs : List V} {g : Row} (h : RowV H xs g) : RpAll H (rowPy g) xs := by
  refine RpAll.of_get (by rw [h.len, rowPy_length]) fun i d hd => ?_
  have hi : i < 12 := by
    have := (List.getElem?_eq_some_iff.mp hd).1
    rw [rowPy_length] at this; exact this
  obtain ⟨x, a, b⟩ := h.at_ i hi
  refine ⟨x, a, ?_⟩
  have e : d = (g i).py := by
    simp only [rowPy, List.getElem?_map] at hd
    rw [List.getElem?_range hi] at hd
    exact (Option.some.inj hd).symm
  rw [e]; exact b
/-- a list of rows, each a list of its own; ps: their places -/
def RowsAt (H : Hp) (ps : List Addr) (gs : List Row) : Prop := ps.length = gs.length ∧ ∀ (i : Nat) g, gs[i]? = some g → ∃ p xs, ps[i]? = some p ∧ H p = some (.lst xs) ∧ RowV H xs g
theorem RowsAt.ex {W : List Addr} {H H' : Hp} {ps : List Addr} {gs : List Row} (e : Ex W H H') (n : ∀ p ∈ ps, p ∉ W) (h : RowsAt H ps gs) : RowsAt H' ps gs :=
  ⟨h.1, fun i g hg => let ⟨p, xs, a, b, c⟩ := h.2 i g hg; ⟨p, xs, a, e.get (n p (List.mem_of_getElem? a)) b, c.ex e⟩⟩
theorem RowsAt.ex0 {H H' : Hp} {ps : List Addr} {gs : List Row} (e : Ex [] H H') (h : RowsAt H ps gs) : RowsAt H' ps gs := h.ex e fun _ _ z => nomatch z
theorem RowsAt.ex1 {H H' : Hp} {ps : List Addr} {gs : List Row} {q : Addr} (e : Ex [q] H H') (n : q ∉ ps) (h : RowsAt H ps gs) : RowsAt H' ps gs := h.ex e fun p hp z => n (by rw [← List.mem_singleton.mp z]; exact hp)
theorem RowsAt.nil {H : Hp} : RowsAt H [] [] := ⟨rfl, fun i g h => by simp at h⟩
theorem RowsAt.snoc {H : Hp} {ps : List Addr} {gs : List Row} {p : Addr} {xs : List V} {g : Row} (h : RowsAt H ps gs) (hp : H p = some (.lst xs)) (r : RowV H xs g) : RowsAt H (ps ++ [p]) (gs ++ [g]) := by
  refine ⟨by simp [h.1], fun i g' hg => ?_⟩
  by_cases c : i < gs.length
  · rw [List.getElem?_append_left c] at hg
    obtain ⟨p', xs', a, b⟩ := h.2 i g' hg
    exact ⟨p', xs', by rw [List.getElem?_append_left (by rw [h.1]; exact c)]; exact a, b⟩
  · have hi : i = gs.length := by
      have := (List.getElem?_eq_some_iff.mp hg).1
      simp at this; omega
    subst hi
    have e : g' = g := by
      rw [List.getElem?_append_right (Nat.le_refl _)] at hg
      simpa using hg.symm
    subst e
    exact ⟨p, xs, by rw [← h.1, List.getElem?_append_right (Nat.le_refl _)]; simp, hp, r⟩
theorem RowsAt.get {H : Hp} {ps : List Addr} {gs : List Row} {i : Nat} {g : Row} (h : RowsAt H ps gs) (hg : gs[i]? = some g) : ∃ p xs, ps[i]? = some p ∧ H p = some (.lst xs) ∧ RowV H xs g := h.2 i g hg
theorem RowsAt.alive {H : Hp} {ps : List Addr} {gs : List Row} (h : RowsAt H ps gs) {p : Addr} (hp : p ∈ ps) : ∃ xs, H p = some (.lst xs) := by
  obtain ⟨i, hi, e⟩ := List.mem_iff_getElem.mp hp
  have hi' : i < gs.length := by rw [← h.1]; exact hi
  obtain ⟨q, xs, a, b, _⟩ := h.2 i gs[i] (by simp [hi'])
  rw [List.getElem?_eq_getElem hi, e] at a
  cases a
  exact ⟨xs, b⟩
/-! ### data with lists -/
mutual
def Rq (H : Hp) : PyData → V → Prop
  | .none, v => v = .non
  | .bool b, v => v = .bl b
  | .int i, v => v = .int i
  | .str s, v => v = .str s
  | .tuple ds, v => ∃ a xs, v = .ref a ∧ IsT H a xs ∧ RqAll H ds xs
  | .list ds, v => ∃ a xs, v = .ref a ∧ H a = some (.lst xs) ∧ RqAll H ds xs
  | .dict _, _ => False
def RqAll (H : Hp) : List PyData → List V → Prop
  | [], xs => xs = []
  | d :: ds, xs => ∃ x r, xs = x :: r ∧ Rq H d x ∧ RqAll H ds r
end
mutual
theorem Rq.ex {H H' : Hp} (e : Ex [] H H') : ∀ {d : PyData} {v : V}, Rq H d v → Rq H' d v
  | .none, _, h => by simpa only [Rq] using h
  | .bool _, _, h => by simpa only [Rq] using h
  | .int _, _, h => by simpa only [Rq] using h
  | .str _, _, h => by simpa only [Rq] using h
  | .tuple ds, _, h => by
    simp only [Rq] at h ⊢
    obtain ⟨a, xs, rfl, h1, h2⟩ := h
    exact ⟨a, xs, rfl, e.isT h1, RqAll.ex e h2⟩
  | .list ds, _, h => by
    simp only [Rq] at h ⊢
    obtain ⟨a, xs, rfl, h1, h2⟩ := h
    exact ⟨a, xs, rfl, e.get0 h1, RqAll.ex e h2⟩
  | .dict _, _, h => by simp only [Rq] at h
theorem RqAll.ex {H H' : Hp} (e : Ex [] H H') : ∀ {ds : List PyData} {xs : List V}, RqAll H ds xs → RqAll H' ds xs
  | [], _, h => by simpa only [RqAll] using h
  | d :: ds, _, h => by
    simp only [RqAll] at h ⊢
    obtain ⟨x, r, rfl, h1, h2⟩ := h
    exact ⟨x, r, rfl, Rq.ex e h1, RqAll.ex e h2⟩
end
mutual
theorem Rp.rq {H : Hp} : ∀ {d : PyData} {v : V}, Rp H d v → Rq H d v
  | .none, _, h => by simpa only [Rp, Rq] using h
  | .bool _, _, h => by simpa only [Rp, Rq] using h
  | .int _, _, h => by simpa only [Rp, Rq] using h
  | .str _, _, h => by simpa only [Rp, Rq] using h
  | .tuple ds, _, h => by
    simp only [Rp, Rq] at h ⊢
    obtain ⟨a, xs, rfl, h1, h2⟩ := h
    exact ⟨a, xs, rfl, h1, RpAll.rq h2⟩
  | .list _, _, h => by simp only [Rp] at h
  | .dict _, _, h => by simp only [Rp] at h
theorem RpAll.rq {H : Hp} : ∀ {ds : List PyData} {xs : List V}, RpAll H ds xs → RqAll H ds xs
  | [], _, h => by simpa only [RpAll, RqAll] using h
  | d :: ds, _, h => by
    simp only [RpAll, RqAll] at h ⊢
    obtain ⟨x, r, rfl, h1, h2⟩ := h
    exact ⟨x, r, rfl, Rp.rq h1, RpAll.rq h2⟩
end
mutual
theorem Rq.dp {K : PySem.W.Frag} {H : Hp} : ∀ {d : PyData} {v : V}, Rq H d v → Dp K H v d
  | .none, _, h => by simp only [Rq] at h; subst h; exact .non
  | .bool _, _, h => by simp only [Rq] at h; subst h; exact .bl _
  | .int _, _, h => by simp only [Rq] at h; subst h; exact .int _
  | .str _, _, h => by simp only [Rq] at h; subst h; exact .str _
  | .tuple ds, _, h => by
    simp only [Rq] at h
    obtain ⟨a, xs, rfl, h1, h2⟩ := h
    exact .tup h1.sq (RqAll.dp h2)
  | .list ds, _, h => by
    simp only [Rq] at h
    obtain ⟨a, xs, rfl, h1, h2⟩ := h
    exact .lst (SqL.of h1) (RqAll.dp h2)
  | .dict _, _, h => by simp only [Rq] at h
theorem RqAll.dp {K : PySem.W.Frag} {H : Hp} : ∀ {ds : List PyData} {xs : List V}, RqAll H ds xs → DpAll K H xs ds
  | [], _, h => by simp only [RqAll] at h; subst h; exact .nil
  | d :: ds, _, h => by
    simp only [RqAll] at h
    obtain ⟨x, r, rfl, h1, h2⟩ := h
    exact .cons (Rq.dp h1) (RqAll.dp h2)
end
theorem RqAll.nil {H : Hp} : RqAll H [] [] := by simp only [RqAll]
theorem RqAll.cons {H : Hp} {d : PyData} {x : V} {ds : List PyData} {xs : List V} (h : Rq H d x) (hs : RqAll H ds xs) : RqAll H (d :: ds) (x :: xs) := by simp only [RqAll]; exact ⟨x, xs, rfl, h, hs⟩
theorem Rq.lst {H : Hp} {a : Addr} {xs : List V} {ds : List PyData} (h : H a = some (.lst xs)) (hs : RqAll H ds xs) : Rq H (.list ds) (.ref a) := by simp only [Rq]; exact ⟨a, xs, rfl, h, hs⟩
theorem Rq.tup {H : Hp} {a : Addr} {xs : List V} {ds : List PyData} (h : IsT H a xs) (hs : RqAll H ds xs) : Rq H (.tuple ds) (.ref a) := by simp only [Rq]; exact ⟨a, xs, rfl, h, hs⟩
theorem Rq.int {H : Hp} {i : Int} : Rq H (.int i) (.int i) := by simp only [Rq]
theorem Rq.non {H : Hp} : Rq H .none .non := by simp only [Rq]
theorem Rq.str {H : Hp} {i : Str} : Rq H (.str i) (.str i) := by simp only [Rq]
theorem Rq.bl {H : Hp} {i : Bool} : Rq H (.bool i) (.bl i) := by simp only [Rq]
theorem RqAll.length {H : Hp} : ∀ {ds : List PyData} {xs : List V}, RqAll H ds xs → xs.length = ds.length
  | [], _, h => by simp only [RqAll] at h; subst h; rfl
  | d :: ds, _, h => by
    simp only [RqAll] at h
    obtain ⟨x, r, rfl, _, h2⟩ := h
    simp [RqAll.length h2]
theorem RqAll.get' {H : Hp} : ∀ {ds : List PyData} {xs : List V} {i : Nat} {d : PyData}, RqAll H ds xs → ds[i]? = some d → ∃ x, xs[i]? = some x ∧ Rq H d x
  | [], _, i, x, h, e => by simp at e
  | d :: ds, _, i, x, h, e => by
    simp only [RqAll] at h
    obtain ⟨y, r, rfl, h1, h2⟩ := h
    cases i with
    | zero => simp at e; subst e; exact ⟨y, rfl, h1⟩
    | succ j => simp at e; obtain ⟨d', e', q⟩ := RqAll.get' h2 e; exact ⟨d', by simpa using e', q⟩
theorem RqAll.of_get {H : Hp} : ∀ {ds : List PyData} {xs : List V}, xs.length = ds.length → (∀ (i : Nat) d, ds[i]? = some d → ∃ x, xs[i]? = some x ∧ Rq H d x) → RqAll H ds xs
  | [], [], _, _ => .nil
  | [], _ :: _, h, _ => by simp at h
  | _ :: _, [], h, _ => by simp at h
  | d :: ds, x :: xs, h, q => by
    obtain ⟨y, a, b⟩ := q 0 d rfl
    have e : x = y := by simpa using a
    subst e
    exact .cons b (RqAll.of_get (by simpa using h) fun i d' hd => by
      obtain ⟨z, a, b⟩ := q (i + 1) d' (by simpa using hd)
      exact ⟨z, by simpa using a, b⟩)
def rowsPy (gs : List Row) : PyData := .list (gs.map fun g => .list (rowPy g))
theorem RowsAt.rq {H : Hp} {a : Addr} {ps : List Addr} {gs : List Row} (h : RowsAt H ps gs) (ha : H a = some (.lst (ps.map V.ref))) : Rq H (rowsPy gs) (.ref a) := by
  refine .lst ha (RqAll.of_get (by simp [h.1]) fun i d hd => ?_)
  rw [List.getElem?_map] at hd
  cases e : gs[i]? with
  | none => rw [e] at hd; cases hd
  | some g =>
    rw [e] at hd
    obtain ⟨p, xs, a1, a2, a3⟩ := h.2 i g e
    cases hd
    exact ⟨.ref p, by simp [a1], .lst a2 a3.all.rq⟩
/-! ### dicts by lights -/
structure DRep (H : Hp) (kvs : List (Key × V)) (f : Nat → Option Src) : Prop where
  keys : ∀ p ∈ kvs, ∃ k : Nat, k < 12 ∧ p.1 = Sum.inl (k : Int)
  nd : (kvs.map (·.1)).Nodup
  no : ∀ k, k < 12 → f k = none → valV kvs (.inl (k : Int)) = none
  yes : ∀ k, k < 12 → ∀ s, f k = some s → ∃ x, valV kvs (.inl (k : Int)) = some x ∧ Rp H s.py x
theorem DRep.ex {W : List Addr} {H H' : Hp} {kvs : List (Key × V)} {f : Nat → Option Src} (e : Ex W H H') (h : DRep H kvs f) : DRep H' kvs f := ⟨h.keys, h.nd, h.no, fun k hk s hs => let ⟨x, a, b⟩ := h.yes k hk s hs; ⟨x, a, b.ex e⟩⟩
theorem DRep.nil {H : Hp} : DRep H [] fun _ => none := ⟨fun p hp => (nomatch hp), List.nodup_nil, fun _ _ _ => rfl, fun _ _ _ h => nomatch h⟩
theorem DRep.congr {H : Hp} {kvs : List (Key × V)} {f g : Nat → Option Src} (h : DRep H kvs f) (q : ∀ k, k < 12 → f k = g k) : DRep H kvs g :=
  ⟨h.keys, h.nd, fun k hk e => h.no k hk (by rw [q k hk]; exact e), fun k hk s e => h.yes k hk s (by rw [q k hk]; exact e)⟩
theorem keys_putK {kvs : List (Key × V)} {k : Key} {v : V} (h : (valV kvs k).isSome = true) : (putK kvs k v).map (·.1) = kvs.map (·.1) := by
  unfold putK
  rw [if_pos (by rw [valV_any]; exact h), List.map_map]
  refine List.map_congr_left fun p _ => ?_
  simp only [Function.comp]
  split <;> rfl
theorem DRep.put {H : Hp} {kvs : List (Key × V)} {f : Nat → Option Src} {k : Nat} {s : Src} {x : V} (h : DRep H kvs f) (hk : k < 12) (r : Rp H s.py x) : DRep H (putK kvs (.inl (k : Int)) x) (fun j => if j = k then some s else f j) := by
  have inj : ∀ {i j : Nat}, (Sum.inl (i : Int) : Key) = .inl (j : Int) → i = j := fun {i j} e => by
    have : (i : Int) = j := by injection e
    omega
  refine ⟨fun p hp => ?_, ?_, fun j hj e => ?_, fun j hj t e => ?_⟩
  · have hm : p.1 ∈ (putK kvs (.inl (k : Int)) x).map (·.1) := List.mem_map_of_mem hp
    cases c : valV kvs (.inl (k : Int)) with
    | none =>
      rw [putK_new x c, List.map_append] at hm
      rcases List.mem_append.mp hm with hm | hm
      · obtain ⟨q, hq, e⟩ := List.mem_map.mp hm
        rw [← e]; exact h.keys q hq
      · simp at hm; exact ⟨k, hk, hm⟩
    | some y =>
      rw [keys_putK (by rw [c]; rfl)] at hm
      obtain ⟨q, hq, e⟩ := List.mem_map.mp hm
      rw [← e]; exact h.keys q hq
  · cases c : valV kvs (.inl (k : Int)) with
    | none => exact nd_putK x h.nd c
    | some y => rw [keys_putK (by rw [c]; rfl)]; exact h.nd
  · have e : (if j = k then some s else f j) = none := e
    rw [valV_put]
    by_cases c : j = k
    · rw [if_pos c] at e; cases e
    · rw [if_neg c] at e; rw [if_neg fun z => c (inj z)]; exact h.no j hj e
  · have e : (if j = k then some s else f j) = some t := e
    rw [valV_put]
    by_cases c : j = k
    · rw [if_pos c] at e; cases e; exact ⟨x, by rw [if_pos (by rw [c])], r⟩
    · rw [if_neg c] at e; rw [if_neg fun z => c (inj z)]; exact h.yes j hj t e
theorem valV_drop {kvs : List (Key × V)} {k j : Key} : valV (dropK kvs k) j = if j = k then none else valV kvs j := by
  induction kvs with
  | nil => simp [dropK, valV]
  | cons p r ih =>
    by_cases c : p.1 = k
    · rw [dropK_pos c, ih]
      by_cases d : j = k
      · rw [if_pos d, if_pos d]
      · rw [if_neg d, if_neg d, valV_neg (by rw [c]; exact fun z => d z.symm)]
    · rw [dropK_neg c]
      by_cases d : p.1 = j
      · rw [valV_pos d, valV_pos d, if_neg (by rw [← d]; exact c)]
      · rw [valV_neg d, valV_neg d, ih]
theorem DRep.drop {H : Hp} {kvs : List (Key × V)} {f : Nat → Option Src} {k : Nat} (h : DRep H kvs f) : DRep H (dropK kvs (.inl (k : Int))) (fun j => if j = k then none else f j) := by
  have inj : ∀ {i j : Nat}, (Sum.inl (i : Int) : Key) = .inl (j : Int) → i = j := fun {i j} e => by
    have : (i : Int) = j := by injection e
    omega
  refine ⟨fun p hp => h.keys p (dropK_mem hp), nd_dropK h.nd, fun j hj e => ?_, fun j hj t e => ?_⟩
  · have e : (if j = k then none else f j) = none := e
    rw [valV_drop]
    by_cases c : j = k
    · rw [if_pos (by rw [c])]
    · rw [if_neg c] at e; rw [if_neg fun z => c (inj z)]; exact h.no j hj e
  · have e : (if j = k then none else f j) = some t := e
    rw [valV_drop]
    by_cases c : j = k
    · rw [if_pos c] at e; cases e
    · rw [if_neg c] at e; rw [if_neg fun z => c (inj z)]; exact h.yes j hj t e
def keyI : Key → Int
  | .inl i => i
  | .inr _ => 0
theorem DRep.ints {H : Hp} {kvs : List (Key × V)} {f : Nat → Option Src} (h : DRep H kvs f) : kvs.map (·.1) = (kvs.map fun p => keyI p.1).map Sum.inl := by
  rw [List.map_map]
  refine List.map_congr_left fun p hp => ?_
  obtain ⟨k, _, e⟩ := h.keys p hp
  show p.1 = Sum.inl (keyI p.1)
  rw [e]; rfl
theorem DRep.some_iff {H : Hp} {kvs : List (Key × V)} {f : Nat → Option Src} (h : DRep H kvs f) {k : Nat} (hk : k < 12) : (valV kvs (.inl (k : Int))).isSome = (f k).isSome := by
  cases e : f k with
  | none => rw [h.no k hk e]; rfl
  | some s => obtain ⟨x, a, _⟩ := h.yes k hk s e; rw [a]; rfl
/-- the keys, in their order -/
def lits (f : Nat → Option Src) : List Int := ((List.range 12).filter fun k => (f k).isSome).map fun (k : Nat) => (k : Int)
theorem lits_sorted (f : Nat → Option Src) : (lits f).Pairwise (· < ·) := by
  unfold lits
  rw [List.pairwise_map]
  exact (List.Pairwise.filter _ List.pairwise_lt_range).imp fun h => by omega
theorem DRep.perm {H : Hp} {kvs : List (Key × V)} {f : Nat → Option Src} (h : DRep H kvs f) : (kvs.map fun p => keyI p.1).Perm (lits f) := by
  have nd : (kvs.map fun p => keyI p.1).Nodup := by
    have := h.nd
    rw [h.ints] at this
    exact (List.pairwise_map.mp this).imp fun h z => h (by rw [z])
  refine (List.perm_ext_iff_of_nodup nd ((lits_sorted f).imp fun h => by omega)).mpr fun i => ?_
  have key : ∀ k : Nat, k < 12 → ((f k).isSome = true ↔ (Sum.inl (k : Int) : Key) ∈ kvs.map (·.1)) := fun k hk => by
    rw [← h.some_iff hk]
    constructor
    · intro e
      obtain ⟨x, e⟩ := Option.isSome_iff_exists.mp e
      exact valV_in e
    · intro e
      cases q : valV kvs (.inl (k : Int)) with
      | none => exact absurd e (valV_not q)
      | some x => rfl
  constructor
  · intro hi
    obtain ⟨p, hp, rfl⟩ := List.mem_map.mp hi
    obtain ⟨k, hk, e⟩ := h.keys p hp
    have : (Sum.inl (k : Int) : Key) ∈ kvs.map (·.1) := by rw [← e]; exact List.mem_map_of_mem hp
    rw [e]
    show (k : Int) ∈ lits f
    exact List.mem_map.mpr ⟨k, List.mem_filter.mpr ⟨List.mem_range.mpr hk, (key k hk).mpr this⟩, rfl⟩
  · intro hi
    obtain ⟨k, hk, rfl⟩ := List.mem_map.mp hi
    obtain ⟨hk, e⟩ := List.mem_filter.mp hk
    have hk := List.mem_range.mp hk
    have := (key k hk).mp e
    obtain ⟨p, hp, e⟩ := List.mem_map.mp this
    exact List.mem_map.mpr ⟨p, hp, by rw [e]; rfl⟩
theorem DRep.length {H : Hp} {kvs : List (Key × V)} {f : Nat → Option Src} (h : DRep H kvs f) : kvs.length ≤ 12 := by
  have e := h.perm.length_eq
  rw [List.length_map] at e
  rw [e]
  unfold lits
  rw [List.length_map]
  exact Nat.le_trans (List.length_filter_le _ _) (by simp)
/-- sorted(d) -/
theorem r_sorted {H : Hp} {d : Addr} {kvs : List (Key × V)} {f : Nat → Option Src} {Q : VK} (hd : H d = some (.dK kvs)) (h : DRep H kvs f) (q : New H (.lst ((lits f).map V.int)) Q) : oSorted [.ref d] H Q := by
  refine ⟨d, kvs, kvs.map fun p => keyI p.1, rfl, hd, h.ints, by rw [List.length_map]; have := h.length; omega, fun ys hp hs => ?_⟩
  have e : ys = lits f := List.Perm.eq_of_pairwise (fun a b _ _ h1 h2 => Int.le_antisymm h1 h2) hs ((lits_sorted f).imp fun h => by omega) (hp.trans h.perm)
  rw [e]; exact q
theorem entsOf_lits (f : Nat → Option Src) : entsOf f = (lits f).map fun i => (i, (f i.toNat).getD (.lv 0)) := by
  unfold entsOf entsR lits
  rw [List.map_map, show List.range' 0 12 = List.range 12 from rfl]
  induction List.range 12 with
  | nil => rfl
  | cons k r ih =>
    rw [List.filterMap_cons, List.filter_cons]
    cases e : f k with
    | none => simpa using ih
    | some s => simp [ih, e]
/-! ### dict(entries) -/
theorem ents_paired {H : Hp} : ∀ {es : List Ent} {xs : List V}, RpAll H (es.map Ent.py) xs → (∀ e ∈ es, 0 ≤ e.1 ∧ e.1 ≤ 11) →
    ∃ (ps : List Addr) (kvs : List (Key × V)), xs = ps.map V.ref ∧ Paired (fun p kv => IsT H p [kV kv.1, kv.2]) ps kvs ∧ ∀ (acc : List (Key × V)) (f : Nat → Option Src), DRep H acc f → DRep H (mergeK acc kvs) fun l => (look es l).or (f l)
  | [], _, h, _ => by
    have e := h.nil_inv
    subst e
    exact ⟨[], [], rfl, .nil, fun acc f q => q.congr fun k _ => by simp [look]⟩
  | e :: es, _, h, hb => by
    obtain ⟨x, r, rfl, h1, h2⟩ := h.cons_inv
    obtain ⟨a, ys, rfl, hT, hA⟩ := Rp.tup_inv h1
    obtain ⟨y1, r1, rfl, ha1, hA⟩ := hA.cons_inv
    obtain ⟨y2, r2, rfl, ha2, hA⟩ := hA.cons_inv
    have e := hA.nil_inv
    subst e
    simp only [Rp] at ha1
    subst ha1
    obtain ⟨ps, kvs, e1, hp, q⟩ := ents_paired h2 fun e he => hb e (by simp [he])
    have hb1 := hb e (by simp)
    have hn : ((e.1.toNat : Nat) : Int) = e.1 := by omega
    refine ⟨a :: ps, (.inl e.1, y2) :: kvs, by rw [e1]; rfl, .cons hT hp, fun acc f hf => ?_⟩
    have h3 := hf.put (k := e.1.toNat) (s := e.2) (x := y2) (by omega) ha2
    rw [hn] at h3
    refine (q _ _ h3).congr fun k _ => ?_
    rw [look_cons]
    by_cases c : k = e.1.toNat
    · rw [if_pos c, if_pos (by omega)]; cases look es k <;> rfl
    · rw [if_neg c, if_neg (by omega)]; cases look es k <;> rfl
theorem r_dict {K : PySem.W.Frag} {H : Hp} {v : V} {es : List Ent} {Q : VK} (r : Rp H (.tuple (es.map Ent.py)) v) (hb : ∀ e ∈ es, 0 ≤ e.1 ∧ e.1 ≤ 11)
    (q : ∀ p kvs H', H p = none → Ex [] H H' → H' p = some (.dK kvs) → DRep H' kvs (look es) → Q (.ref p) H') : oDict K [v] H Q := by
  obtain ⟨a, xs, rfl, hT, hA⟩ := r.tup_inv
  obtain ⟨ps, kvs, e, hp, h⟩ := ents_paired hA hb
  subst e
  refine ⟨a, ps, kvs, rfl, .inl hT, hp, fun p H' hp e ha => q p _ H' hp e ha ?_⟩
  exact ((h [] _ .nil).congr fun k _ => by cases look es k <;> rfl).ex e
theorem r_dictL {K : PySem.W.Frag} {H : Hp} {a : Addr} {xs : List V} {es : List Ent} {Q : VK} (ha : H a = some (.lst xs)) (r : RpAll H (es.map Ent.py) xs) (hb : ∀ e ∈ es, 0 ≤ e.1 ∧ e.1 ≤ 11)
    (q : ∀ p kvs H', H p = none → Ex [] H H' → H' p = some (.dK kvs) → DRep H' kvs (look es) → Q (.ref p) H') : oDict K [.ref a] H Q := by
  obtain ⟨ps, kvs, e, hp, h⟩ := ents_paired r hb
  subst e
  refine ⟨a, ps, kvs, rfl, .inr (SqL.of ha), hp, fun p H' hp e ha => q p _ H' hp e ha ?_⟩
  exact ((h [] _ .nil).congr fun k _ => by cases look es k <;> rfl).ex e
theorem EntsOk.bounds {es : List Ent} (h : EntsOk (-1) es) : ∀ e ∈ es, 0 ≤ e.1 ∧ e.1 ≤ 11 := fun e he => by
  have := h.above e he
  exact ⟨by omega, by omega⟩
end Lc
/-! Lc6: comprehensions that lay data; d.pop(k, x); the reading of sequences by data. -/
namespace Lc
open PySem PySem.Spec PyProof.Rows L2
section
variable {K : PySem.W.Frag} {σ : L2.St} {H : Hp} {Q : VK} {te : TE} {vs : List Nat}
theorem lc_rps {J : It} {n : Nat} {G : Hp → Prop} {f : Nat → V → Prop} (w : Walk J n G fun i H x H' => H' = H ∧ f i x) {W : List Addr} {i : Nat} (ds : List PyData) (hn : ds.length = n) (hz : n ≤ 100000) (I : Hp → Prop)
    (hw : ∀ x, wipe ((wipe σ vs).set i (some x)) vs = wipe σ vs) (hW : ∀ b ∈ W, ∃ o, H b = some o) (i0 : I H) (iN : ∀ H1 H2, Ex [] H1 H2 → I H1 → I H2) (iD : ∀ D H1 H2, H D = none → Ex [D] H1 H2 → I H1 → I H2)
    (hG : ∀ H', Ex W H H' → I H' → G H')
    (step : ∀ k x H' d (Q' : VK), f k x → ds[k]? = some d → Ex W H H' → I H' → (∀ y H4, Ex W H' H4 → I H4 → Rp H4 d y → Q' y H4) → te ((wipe σ vs).set i (some x)) H' Q')
    (done : ∀ D acc H', H D = none → H' D = some (.lst acc) → Ex W H H' → I H' → RpAll H' ds acc → Q (.ref D) H') : ∀ D, H D = none → Lcs J (gName i) tYes te vs σ H D Q := by
  refine lc_walk w (fun D k acc H' => RpAll H' (ds.take k) acc ∧ Ex W H H' ∧ I H') ?_ ?_ ?_ ?_
  · intro D H' hD e hd
    exact ⟨by simpa using RpAll.nil, e.any, iN _ _ e i0⟩
  · rintro D k acc H' hD hk ⟨_, e, hI⟩
    exact hG H' e hI
  · rintro D k acc H' x hD hk hx ha ⟨hA, e, hI⟩
    have hk' : k < ds.length := by omega
    have hd : ds[k]? = some ds[k] := by simp [hk']
    refine ⟨hw x, ?_⟩
    refine i_yes ?_
    refine b_t (b := true) rfl ?_
    refine step k x H' ds[k] _ hx hd e hI fun y H4 e4 hI4 hy => ?_
    have hne : D ∉ W := fun z => by obtain ⟨o, q⟩ := hW D z; rw [hD] at q; cases q
    have hl := hA.length
    rw [List.length_take] at hl
    refine LP.add (e4.get hne ha) (by omega) fun H5 e5 ha5 => ?_
    refine ⟨?_, (e.trans e4).loc1 e5 hD, iD D _ _ hD e5 hI4⟩
    rw [List.take_succ, hd, Option.toList_some]
    exact ((hA.ex e4).ex e5).append (.one (hy.ex e5))
  · rintro D acc H' hD ha ⟨hA, e, hI⟩
    rw [← hn, List.take_length] at hA
    exact done D acc H' hD ha e hI hA
/-- .. that change nothing that was there -/
theorem lc_rps0 {J : It} {n : Nat} {G : Hp → Prop} {f : Nat → V → Prop} (w : Walk J n G fun i H x H' => H' = H ∧ f i x) {i : Nat} (ds : List PyData) (hn : ds.length = n) (hz : n ≤ 100000)
    (hw : ∀ x, wipe ((wipe σ vs).set i (some x)) vs = wipe σ vs) (hG : ∀ H', Ex [] H H' → G H')
    (step : ∀ k x H' d (Q' : VK), f k x → ds[k]? = some d → Ex [] H H' → (∀ y H4, Ex [] H' H4 → Rp H4 d y → Q' y H4) → te ((wipe σ vs).set i (some x)) H' Q')
    (done : ∀ D acc H', H D = none → H' D = some (.lst acc) → Ex [] H H' → RpAll H' ds acc → Q (.ref D) H') : ∀ D, H D = none → Lcs J (gName i) tYes te vs σ H D Q :=
  lc_rps w (W := []) ds hn hz (fun _ => True) hw (fun _ h => nomatch h) trivial (fun _ _ _ _ => trivial) (fun _ _ _ _ _ _ => trivial) (fun H' e _ => hG H' e) (fun k x H' d Q' hx hd e _ q => step k x H' d Q' hx hd e fun y H4 e4 hy => q y H4 e4 trivial hy) (fun D acc H' hD ha e _ hA => done D acc H' hD ha e hA)
end
/-! ### d.pop(k, x) -/
theorem pe_dpopF {X : Cx} {o e f : Expr} {td ty tx : TE} {apos cpos : Pos} (ho : PE X o td) (he : PE X e ty) (hf : PE X f tx) (m : M2 X o "pop" apos e f cpos) : PE X (.Call (.Attribute o "pop" apos) [e, f] [] cpos) (tDPopF td ty tx) := by
  refine ⟨fun pins s σ H Q I h => ?_⟩
  refine wpAny_Call_method m.base m.few m.line PySem.F.plainAttrs_dict PySem.F.slot_dict_pop PySem.F.type_dict_pop (thn (ho.run pins s σ H _ I h) fun u s1 ⟨x, H1, I1, rx, a, ex, d, q1⟩ => ?_)
  subst ex
  obtain rfl : u = Value.ref a := rx
  obtain ⟨t1, t2, _⟩ := isD_at I1 d
  refine ⟨t1, t2, ?_⟩
  rw [m.trees]
  refine Calls.callWith_builtin rfl (Calls.evalArgs_plain (Calls.spliced_cons (thn (he.run pins s1 σ H1 _ I1 q1) fun iv s2 ⟨y, H2, I2, ry, q2⟩ =>
    Calls.spliced_cons (thn (hf.run pins s2 σ H2 _ I2 q2) fun fv s3 ⟨z, H3, I3, rz, kvs, k, ea, ey, q3, q4⟩ => Calls.spliced_nil ?_))))
  subst ey
  cases l : valV kvs k with
  | some v => exact d_pop I3 ea ry l (.inr ⟨fv, rfl⟩) fun w' s4 I4 rw' => ⟨v, _, I4, rw', q3 v l _ (.putd ea) upd_same⟩
  | none => exact d_popD I3 ea ry l fun s4 I4 => ⟨z, H3, I4, rz, q4 l⟩
section
variable {K : PySem.W.Frag} {σ : L2.St} {H : Hp} {Q : VK}
theorem isD_of {a : Addr} {kvs : List (Key × V)} (h : H a = some (.dK kvs)) : IsD H a := .inl ⟨kvs, .of h⟩
theorem tyL {a : Addr} {xs : List V} (h : H a = some (.lst xs)) : tyV K "list" (.ref a) H := .inl ⟨rfl, xs, SqL.of h⟩
/-- xs.append(y) -/
theorem m_app {l : Addr} {xs : List V} {y : V} (h : H l = some (.lst xs)) (z : xs.length ≤ 1000000) (q : ∀ H', Ex [l] H H' → H' l = some (.lst (xs ++ [y])) → Q .non H') : oAppend (.ref l) [y] H Q := ⟨l, xs, y, rfl, rfl, h, z_lt z, q⟩
end
end Lc
/-! P3: cues drawn; the same. -/
namespace Lc
open PySem PySem.Spec PyProof.Rows L2
/-! ### _law_cue -/
def sp__law_cue (K : PySem.W.Frag) : Sp := fun vs H Q _ => ∃ (st : Addr) (n : Int), vs = [.ref st, .int n] ∧ DS K H st ∧ 0 ≤ n ∧ n ≤ 999 ∧ ∀ v c H', Ex [st] H H' → DS K H' st → Cue.Ok c → c.num = n → Rp H' c.py v → Q v H'
def N__law_cue : List Str := ["_law_state", "_law_number", "_law_often", "_law_beats", "_law_follow"]
def t__law_cue (K : PySem.W.Frag) (E : XK) : TS :=
  (tSeq (tAsg (tOp (oIx K) (tLstF (tCons (tC (.int 1)) (tCons (tC (.int 3)) (tCons (tC (.int 12)) tNil)))) (tCall (sp__law_drawn K) [] E (tCons (tVar 0) (tCons (tC (.int 3)) tNil)))) (gName 2))
  (tSeq (tAsg (tLstF (tCons (tOp (oIx K) (tLstF (tCons (tC (.int 0)) (tCons (tC (.int 1)) (tCons (tC (.int 4)) (tCons (tC (.int 20)) tNil))))) (tCall (sp__law_drawn K) [] E (tCons (tVar 0) (tCons (tC (.int 4)) tNil)))) (tCons (tCall (sp__law_drawn K) [] E (tCons (tVar 0) (tCons (tC (.int 21)) tNil))) tNil))) (gName 3))
  (tSeq (tAsg (tOp (oIx K) (tLstF (tCons (tC .non) (tCons (tC .non) (tCons (tOp oAdd (tC (.int 1)) (tCall (sp__law_drawn K) [] E (tCons (tVar 0) (tCons (tOp (oIx K) (tLstF (tCons (tC (.int 3)) (tCons (tC (.int 40)) tNil))) (tCall (sp__law_drawn K) [] E (tCons (tVar 0) (tCons (tC (.int 2)) tNil)))) tNil)))) tNil)))) (tCall (sp__law_drawn K) [] E (tCons (tVar 0) (tCons (tC (.int 3)) tNil)))) (gName 4))
  (tRet (tTupF (tCons (tVar 1) (tCons (tCall (sp__law_entries K) [] E (tCons (tVar 0) (tCons (tVar 2) tNil))) (tCons (tOp (oIx K) (tVar 3) (tCall (sp__law_drawn K) [] E (tCons (tVar 0) (tCons (tC (.int 2)) tNil)))) (tCons (tOp (oIx K) (tVar 3) (tC (.int 1))) (tCons (tVar 4) tNil))))))))))
theorem pure__law_cue {K : PySem.W.Frag} (vs : List V) (H : Hp) (Q : VK) (E : XK) (h : sp__law_cue K vs H Q E) : t__law_cue K E { nx := fun _ H' => Q .non H', rt := Q } (start N__law_cue vs) H := by
  obtain ⟨st, n, rfl, hds, hn0, hn1, q⟩ := h
  show t__law_cue K E _ [some (.ref st), some (.int n), none, none, none] H
  unfold t__law_cue
  wtm_at "go"
  refine pick hds rfl rfl (by decide) (by decide) fun i x H1 hx hi e1 hd1 => ?_
  obtain ⟨o, rfl⟩ : ∃ o : Int, x = .int o := by
    have hm := List.mem_of_getElem? hx
    simp only [List.mem_cons, List.not_mem_nil, or_false] at hm
    rcases hm with rfl | rfl | rfl <;> exact ⟨_, rfl⟩
  wtm_at "go"
  refine pick hd1 rfl rfl (by decide) (by decide) fun i2 x2 H2 hx2 hi2 e2 hd2 => ?_
  obtain ⟨b0, rfl, b00, b01⟩ : ∃ o : Int, x2 = .int o ∧ 0 ≤ o ∧ o ≤ 20 := by
    have hm := List.mem_of_getElem? hx2
    simp only [List.mem_cons, List.not_mem_nil, or_false] at hm
    rcases hm with rfl | rfl | rfl | rfl <;> exact ⟨_, rfl, by decide, by decide⟩
  wtm_at "go"
  refine drw hd2 (by decide) (by decide) fun b1 H3 b10 b11 e3 hd3 => ?_
  wtm_at "go"
  refine ⟨z_of (by simp), fun bl H4 hbl e4 ha4 => ?_⟩
  have hd4 := hd3.ex0 e4
  have hne := hd3.ne hbl
  wtm_at "go"
  refine pick hd4 rfl rfl (by decide) (by decide) fun i5 x5 H5 hx5 hi5 e5 hd5 => ?_
  obtain ⟨n5, rfl, n50, n51⟩ : ∃ o : Int, x5 = .int o ∧ 0 < o ∧ o ≤ 40 := by
    have hm := List.mem_of_getElem? hx5
    simp only [List.mem_cons, List.not_mem_nil, or_false] at hm
    rcases hm with rfl | rfl <;> exact ⟨_, rfl, by decide, by decide⟩
  wtm_at "go"
  refine drw hd5 n50 (by omega) fun r6 H6 r60 r61 e6 hd6 => ?_
  wtm_at "go"
  refine pick hd6 rfl rfl (by simp) (by simp) fun i7 x7 H7 hx7 hi7 e7 hd7 => ?_
  obtain ⟨f, hf, rf⟩ : ∃ f : Option Int, (∀ n, f = some n → 1 ≤ n ∧ n ≤ 40) ∧ ∀ H', Rp H' (folPy f) x7 := by
    have hm := List.mem_of_getElem? hx7
    simp only [List.mem_cons, List.not_mem_nil, or_false] at hm
    rcases hm with rfl | rfl | rfl
    · exact ⟨none, fun n h => (by cases h), fun _ => .non⟩
    · exact ⟨none, fun n h => (by cases h), fun _ => .non⟩
    · exact ⟨some (1 + r6), fun n h => (by cases h; omega), fun _ => .int⟩
  wtm_at "go"
  refine ⟨st, o, rfl, hd7, fun v es H8 e8 hd8 hes hv => ?_⟩
  wtm_at "go"
  refine drw hd8 (by decide) (by decide) fun r9 H9 r90 r91 e9 hd9 => ?_
  have ha7 : H7 bl = some (.lst [.int b0, .int b1]) := by wtm_at "hp"
  have ha9 : H9 bl = some (.lst [.int b0, .int b1]) := e9.get1 hne (e8.get1 hne ha7)
  obtain ⟨up, hup, hup0, hup1⟩ : ∃ up : Int, atI [V.int b0, .int b1] r9 = some (.int up) ∧ 0 ≤ up ∧ up ≤ 20 := by
    have : r9 = 0 ∨ r9 = 1 := by omega
    rcases this with rfl | rfl
    · exact ⟨b0, atI_0, b00, b01⟩
    · exact ⟨b1, atI_1, b10, by omega⟩
  refine a_ixL ha9 hup ?_
  wtm_at "go"
  refine a_ixL ha9 atI_1 ?_
  wtm_at "go"
  refine ⟨z_of (by simp), fun p H10 e10 ht => ?_⟩
  refine q _ ⟨n, es, up, b1, f⟩ H10 ?_ (hd9.ex0 e10) ⟨⟨hn0, hn1⟩, hes, ⟨hup0, hup1⟩, ⟨b10, by show b1 ≤ 20; omega⟩, hf⟩ rfl ?_
  · exact ((((((((e1.trans e2).trans e3).trans (Ex.any e4)).trans e5).trans e6).trans e7).trans e8).trans e9).trans (Ex.any e10)
  · exact .tup ht (.cons .int (.cons ((hv.ex e9).ex e10) (.cons .int (.cons .int (.cons (rf _) .nil)))))
/-! ### _law_cues -/
def sp__law_cues (K : PySem.W.Frag) : Sp := fun vs H Q _ => ∃ (st : Addr) (m : Int), vs = [.ref st, .int m] ∧ DS K H st ∧ 0 ≤ m ∧ m ≤ 40 ∧
  ∀ v cs H', Ex [st] H H' → DS K H' st → CuesOk (-1) cs → (cs.length : Int) ≤ m → (∀ c ∈ cs, c.num < 20 * (cs.length : Int)) → Rp H' (cuesPy cs) v → Q v H'
def N__law_cues : List Str := ["_law_state", "_law_most", "_law_found", "_law_number", "_law_k"]
def t__law_cues (K : PySem.W.Frag) (E : XK) : TS :=
  (tSeq (tPar 2 3 (tCons (tLstF tNil) (tCons (tC (.int 0)) tNil)))
  (tSeq (tFor (iRng1 (tCons (tCall (sp__law_drawn K) [] E (tCons (tVar 0) (tCons (tOp oAdd (tVar 1) (tC (.int 1))) tNil))) tNil)) (gName 4)
    (tSeq (tAsg (tOp oAdd (tVar 3) (tCall (sp__law_drawn K) [] E (tCons (tVar 0) (tCons (tOp (oIx K) (tLstF (tCons (tC (.int 3)) (tCons (tC (.int 20)) tNil))) (tCall (sp__law_drawn K) [] E (tCons (tVar 0) (tCons (tC (.int 2)) tNil)))) tNil)))) (gName 3))
  (tSeq (tDrop (tBM K "list" oAppend (tVar 2) (tCons (tCall (sp__law_cue K) [] E (tCons (tVar 0) (tCons (tVar 3) tNil))) tNil)))
  (tAsg (tOp oAdd (tVar 3) (tC (.int 1))) (gName 3)))))
  (tRet (tCB (oTuple K) (tCons (tVar 2) tNil)))))
theorem pure__law_cues {K : PySem.W.Frag} (vs : List V) (H : Hp) (Q : VK) (E : XK) (h : sp__law_cues K vs H Q E) : t__law_cues K E { nx := fun _ H' => Q .non H', rt := Q } (start N__law_cues vs) H := by
  obtain ⟨st, m, rfl, hds, hm0, hm1, q⟩ := h
  show t__law_cues K E _ [some (.ref st), some (.int m), none, none, none] H
  unfold t__law_cues
  wtm_at "go"
  refine ⟨z_of (by simp), fun l H1 hl e1 ha1 => ?_⟩
  have hd1 := hds.ex0 e1
  have hne := hds.ne hl
  wtm_at "go"
  refine drw (n := m + 1) hd1 (by omega) (by omega) fun r H2 r0 r1 e2 hd2 => ?_
  wtm_at "go"
  refine ⟨r, rfl, by omega, by omega, for_range (lo := 0) (n := r.toNat) (fun i σ H' => ∃ (nn : Int) (xs : List V) (cs : List Cue) (o : Option V), σ = [some (.ref st), some (.int m), some (.ref l), some (.int nn), o] ∧
    H' l = some (.lst xs) ∧ RpAll H' (cs.map Cue.py) xs ∧ cs.length = i ∧ CuesOk (-1) cs ∧ (∀ c ∈ cs, c.num < nn) ∧ 0 ≤ nn ∧ nn ≤ 20 * (i : Int) ∧ Ex [st] H H' ∧ DS K H' st) ?_ ?_ ?_⟩
  · exact ⟨0, [], [], none, rfl, e2.get1 hne ha1, .nil, rfl, trivial, fun c hc => (by cases hc), by omega, by omega, (Ex.any e1).trans e2, hd2⟩
  · rintro i σ H' hi ⟨nn, xs, cs, o, rfl, ha, hA, hlen, hok, hlt, hn0, hn1, e, hd⟩
    have hi40 : i < 40 := by omega
    wtm_at "go"
    refine pick hd rfl rfl (by decide) (by decide) fun i5 x5 H5 hx5 hi5 e5 hd5 => ?_
    obtain ⟨n5, rfl, n50, n51⟩ : ∃ o : Int, x5 = .int o ∧ 0 < o ∧ o ≤ 20 := by
      have hm := List.mem_of_getElem? hx5
      simp only [List.mem_cons, List.not_mem_nil, or_false] at hm
      rcases hm with rfl | rfl <;> exact ⟨_, rfl, by decide, by decide⟩
    wtm_at "go"
    refine drw hd5 n50 (by omega) fun r6 H6 r60 r61 e6 hd6 => ?_
    wtm_at "go"
    have ha6 := e6.get1 hne (e5.get1 hne ha)
    refine ⟨tyL ha6, ?_⟩
    wtm_at "go"
    refine ⟨st, nn + r6, rfl, hd6, by omega, by omega, fun v c H7 e7 hd7 hc hcn hv => ?_⟩
    wtm_at "go"
    have hl := hA.length
    rw [List.length_map] at hl
    refine m_app (e7.get1 hne ha6) (by omega) fun H8 e8 ha8 => ?_
    wtm_at "go"
    refine ⟨nn + r6 + 1, _, cs ++ [c], _, rfl, ha8, ?_, by simp [hlen], hok.snoc (fun d hd => by have := hlt d hd; omega) (by omega) hc, ?_, by omega, by omega, (((e.trans e5).trans e6).trans e7).loc1 e8 ‹_›, hd7.ex1 e8 hne.symm⟩
    · rw [List.map_append]
      exact ((((hA.ex e5).ex e6).ex e7).ex e8).snoc (hv.ex e8)
    · intro d hd
      rcases List.mem_append.mp hd with hd | hd
      · have := hlt d hd; omega
      · rw [List.mem_singleton.mp hd]; omega
  · rintro σ H' ⟨nn, xs, cs, o, rfl, ha, hA, hlen, hok, hlt, hn0, hn1, e, hd⟩
    wtm_at "go"
    refine ⟨l, _, rfl, .inl ⟨SqL.of ha, fun p H1 e1 ht => ?_⟩⟩
    refine q _ cs H1 (e.trans (Ex.any e1)) (hd.ex0 e1) hok (by omega) (fun c hc => by have := hlt c hc; omega) (.tup ht (hA.ex e1))
end Lc
/-! P4: the same; sources. -/
namespace Lc
open PySem PySem.Spec PyProof.Rows L2
/-! ### _law_same: of two that are the same data -/
def sca : PyData → Prop
  | .none => True
  | .bool _ => True
  | .int _ => True
  | .str _ => True
  | _ => False
/-- nested at most so deep -/
def Fl : Nat → PyData → Prop
  | 0, d => sca d
  | n + 1, d => sca d ∨ ∃ ds, (d = .tuple ds ∨ d = .list ds) ∧ ds.length ≤ 100000 ∧ ∀ x ∈ ds, Fl n x
theorem Fl.up : ∀ {n : Nat} {d : PyData}, Fl n d → Fl (n + 1) d
  | 0, _, h => .inl h
  | n + 1, _, h => by
    rcases h with h | ⟨ds, e, h1, h2⟩
    · exact .inl h
    · exact .inr ⟨ds, e, h1, fun x hx => Fl.up (h2 x hx)⟩
theorem Fl.le {n m : Nat} {d : PyData} (h : Fl n d) (hl : n ≤ m) : Fl m d := by
  induction hl with
  | refl => exact h
  | step _ ih => exact ih.up
def sp__law_same (K : PySem.W.Frag) (n : Nat) : Sp := fun vs H Q _ => ∃ v u d, vs = [v, u] ∧ Rq H d v ∧ Rq H d u ∧ Fl n d ∧ ∀ H', Ex [] H H' → Q (.bl true) H'
def N__law_same : List Str := ["_law_found", "_law_due", "_law_k"]
def t__law_same (R : TA → TE) (K : PySem.W.Frag) (E : XK) : TS :=
  (tSeq (tIfS (tB (tCB (oIsi2 K) (tCons (tVar 1) (tCons (tTup (tCons (tC (.ty "tuple")) (tCons (tC (.ty "list")) tNil))) tNil)))) (tSeq (tIfS (tOr (tNot (tB (tCB (oIsi2 K) (tCons (tVar 0) (tCons (tTup (tCons (tC (.ty "tuple")) (tCons (tC (.ty "list")) tNil))) tNil))))) (tTest (tOp (oNe K) (tCB (oIsi K) (tCons (tVar 0) (tCons (tC (.ty "list")) tNil))) (tCB (oIsi K) (tCons (tVar 1) (tCons (tC (.ty "list")) tNil)))))) (tRet (tC (.bl false))) tNext)
  (tSeq (tIfS (tTest (tOp (oNe K) (tCB (oLen K) (tCons (tVar 0) tNil)) (tCB (oLen K) (tCons (tVar 1) tNil)))) (tRet (tC (.bl false))) tNext)
  (tRet (tOp (oEq K) (tLc (iRng1 (tCons (tCB (oLen K) (tCons (tVar 1) tNil)) tNil)) (gName 2) (tNot (tB (R (tCons (tOp (oIx K) (tVar 0) (tVar 2)) (tCons (tOp (oIx K) (tVar 1) (tVar 2)) tNil))))) (tVar 2) [2]) (tLstF tNil))))) tNext)
  (tSeq (tIfS (tTest (tOp oIsN (tVar 1) (tC .non))) (tRet (tOp oIsN (tVar 0) (tC .non))) tNext)
  (tSeq (tIfS (tB (tCB (oIsi K) (tCons (tVar 1) (tCons (tC (.ty "str")) tNil)))) (tRet (tAndV (tCB (oIsi K) (tCons (tVar 0) (tCons (tC (.ty "str")) tNil))) (tOp (oEq K) (tVar 0) (tVar 1)))) tNext)
  (tSeq (tIfS (tOr (tB (tCB (oIsi K) (tCons (tVar 1) (tCons (tC (.ty "bool")) tNil)))) (tB (tCB (oIsi K) (tCons (tVar 0) (tCons (tC (.ty "bool")) tNil))))) (tRet (tAndV (tCB (oIsi K) (tCons (tVar 1) (tCons (tC (.ty "bool")) tNil))) (tAndV (tCB (oIsi K) (tCons (tVar 0) (tCons (tC (.ty "bool")) tNil))) (tOp (oEq K) (tVar 0) (tVar 1))))) tNext)
  (tRet (tAndV (tCB (oIsi K) (tCons (tVar 0) (tCons (tC (.ty "int")) tNil))) (tOp (oEq K) (tVar 0) (tVar 1))))))))
section
variable {K : PySem.W.Frag} {H : Hp} {Q : VK}
/-- isinstance(x, (tuple, list)), the pair just made -/
theorem q_isi2 {v : V} {T : String} {b1 b2 : Bool} (hk : Ki K H v T) (h1 : kitB T "tuple" = some b1) (h2 : kitB T "list" = some b2) {p : Addr} (hp : H p = none) (h : ∀ H', Ex [] H H' → Q (.bl (b1 || b2)) H') : oIsi2 K [v, .ref p] (upd H p (.tup [.ty "tuple", .ty "list"])) Q := by
  refine ⟨v, T, "tuple", "list", b1, b2, p, rfl, upd_same, ?_, h1, h2, h _ (.new hp)⟩
  have e : Ex [] H (upd H p (.tup [.ty "tuple", .ty "list"])) := .new hp
  cases hk with
  | non => exact .non
  | bl b => exact .bl b
  | int i => exact .int i
  | str s => exact .str s
  | tup h => exact .tup (e.isT h)
  | lst h => exact .lst (e.get0 h)
  | dic h => exact .dic (e.get0 h)
/-- [] == [], both lists -/
theorem q_nil {a b : Addr} (h1 : H a = some (.lst [])) (h2 : H b = some (.lst [])) (h : Q (.bl true) H) : oEq K (.ref a) (.ref b) H Q :=
  .inr ⟨.list [], .list [], .lst (SqL.of h1) .nil, .lst (SqL.of h2) .nil, by decide +kernel, by decide +kernel, by
    have e : PyData.eqv (.list []) (.list []) = true := by decide +kernel
    rw [e]; exact h⟩
/-- both sequences -/
theorem same_seq {R : TA → TE} {v u : V} {σ : L2.St} {ds : List PyData} {n : Nat} (hσ : σ = [some v, some u, none]) (hR : ∀ t, R t = tCall (sp__law_same K n) [] E0 t) (hl : ds.length ≤ 100000) (hf : ∀ x ∈ ds, Fl n x)
    (ix : ∀ H', Ex [] H H' → ∀ (k : Nat) (Q' : VK), k < ds.length → (∀ x, Rq H' (ds[k]?.getD .none) x → Q' x H') → oIx K v (.int (0 + k)) H' Q') (ix2 : ∀ H', Ex [] H H' → ∀ (k : Nat) (Q' : VK), k < ds.length → (∀ x, Rq H' (ds[k]?.getD .none) x → Q' x H') → oIx K u (.int (0 + k)) H' Q')
    (ln : ∀ Q' : VK, Q' (.int ds.length) H → oLen K [u] H Q') (q : ∀ H', Ex [] H H' → Q (.bl true) H') :
    tOp (oEq K) (tLc (iRng1 (tCons (tCB (oLen K) (tCons (tVar 1) tNil)) tNil)) (gName 2) (tNot (tB (R (tCons (tOp (oIx K) (tVar 0) (tVar 2)) (tCons (tOp (oIx K) (tVar 1) (tVar 2)) tNil))))) (tVar 2) [2]) (tLstF tNil) σ H Q := by
  subst hσ
  rw [hR]
  wtm_at "go"
  refine ln _ ?_
  wtm_at "go"
  refine ⟨_, rfl, by omega, by omega, ?_⟩
  have hlc := lc_rng (σ := [some v, some u, none]) (H := H) (g := gName 2) (tt := tNot (tB (tCall (sp__law_same K n) [] E0 (tCons (tOp (oIx K) (tVar 0) (tVar 2)) (tCons (tOp (oIx K) (tVar 1) (tVar 2)) tNil))))) (te := tVar 2) (vs := [2]) (lo := 0) (n := ds.length)
    (Q := fun x H1 => tLstF tNil [some v, some u, none] H1 fun y H2 => oEq K x y H2 Q) (fun D k acc H' => acc = [] ∧ Ex [] H H') (fun D H' hD e _ => ⟨rfl, e⟩) ?_ ?_
  · exact hlc
  · rintro D k acc H' hD hk ha ⟨rfl, e⟩
    show gName 2 _ [some v, some u, none] H' _
    wtm_at "go"
    refine ⟨rfl, ?_⟩
    wtm_at "go"
    refine ix H' e k _ hk fun x rx => ?_
    wtm_at "go"
    refine ix2 H' e k _ hk fun y ry => ?_
    wtm_at "go"
    refine ⟨x, y, _, rfl, rx, ry, hf _ ?_, fun H1 e1 => ?_⟩
    · rw [show ds[k]? = some ds[k] by simp [hk]]
      simp
    · wtm_at "go"
      refine b_f rfl ?_
      exact LP.skip (e1.get0 ha) ⟨rfl, e.trans e1⟩
  · rintro D acc H' hD ha ⟨rfl, e⟩
    wtm_at "go"
    refine ⟨z_of (by simp), fun p H2 hp e2 ha2 => ?_⟩
    exact q_nil (e2.get0 ha) ha2 (q H2 (e.trans e2))
end
theorem pure__law_same {K : PySem.W.Frag} {n : Nat} (R : TA → TE) (hR : ∀ m, n = m + 1 → ∀ t, R t = tCall (sp__law_same K m) [] E0 t) (vs : List V) (H : Hp) (Q : VK) (E : XK) (h : sp__law_same K n vs H Q E) : t__law_same R K E { nx := fun _ H' => Q .non H', rt := Q } (start N__law_same vs) H := by
  obtain ⟨v, u, d, rfl, rv, ru, fl, q⟩ := h
  show t__law_same R K E _ [some v, some u, none] H
  unfold t__law_same
  wtm_at "go"
  refine ⟨z_of (by simp), fun p hp => ?_⟩
  wtm_at "go"
  have q1 : Q (.bl true) (upd H p (.tup [.ty "tuple", .ty "list"])) := q _ (.new hp)
  cases d with
  | none =>
    simp only [Rq] at rv ru
    subst rv ru
    refine q_isi2 .non kb_nn_tuple kb_nn_list hp fun H1 e1 => ?_
    wtm_at "go"
    refine b_f rfl ?_
    wtm_at "go"
    refine d_t rfl ?_
    wtm_at "go"
    exact q H1 e1
  | bool b =>
    simp only [Rq] at rv ru
    subst rv ru
    refine q_isi2 (.bl b) kb_bl_tuple kb_bl_list hp fun H1 e1 => ?_
    wtm_at "go"
    refine b_f rfl ?_
    wtm_at "go"
    refine d_f (by simp) ?_
    wtm_at "go"
    refine k_isi (.bl b) kb_bl_str ?_
    wtm_at "go"
    refine b_f rfl ?_
    wtm_at "go"
    refine k_isi (.bl b) kb_bl_bool ?_
    wtm_at "go"
    refine b_t rfl ?_
    refine b_t rfl ?_
    wtm_at "go"
    refine k_isi (.bl b) kb_bl_bool ?_
    wtm_at "go"
    refine b_t rfl ?_
    wtm_at "go"
    refine k_isi (.bl b) kb_bl_bool ?_
    wtm_at "go"
    refine b_t rfl ?_
    wtm_at "go"
    simpa using q H1 e1
  | int i =>
    simp only [Rq] at rv ru
    subst rv ru
    refine q_isi2 (.int i) kb_int_tuple kb_int_list hp fun H1 e1 => ?_
    wtm_at "go"
    refine b_f rfl ?_
    wtm_at "go"
    refine d_f (by simp) ?_
    wtm_at "go"
    refine k_isi (.int i) kb_int_str ?_
    wtm_at "go"
    refine b_f rfl ?_
    wtm_at "go"
    refine k_isi (.int i) kb_int_bool ?_
    wtm_at "go"
    refine b_f rfl ?_
    wtm_at "go"
    refine k_isi (.int i) kb_int_bool ?_
    wtm_at "go"
    refine b_f rfl ?_
    wtm_at "go"
    refine k_isi (.int i) kb_int_int ?_
    wtm_at "go"
    refine b_t rfl ?_
    wtm_at "go"
    simpa using q H1 e1
  | str s =>
    simp only [Rq] at rv ru
    subst rv ru
    refine q_isi2 (.str s) kb_str_tuple kb_str_list hp fun H1 e1 => ?_
    wtm_at "go"
    refine b_f rfl ?_
    wtm_at "go"
    refine d_f (by simp) ?_
    wtm_at "go"
    refine k_isi (.str s) kb_str_str ?_
    wtm_at "go"
    refine b_t rfl ?_
    wtm_at "go"
    refine k_isi (.str s) kb_str_str ?_
    wtm_at "go"
    refine b_t rfl ?_
    wtm_at "go"
    simpa using q H1 e1
  | dict ds => simp only [Rq] at rv
  | tuple ds =>
    obtain ⟨m, rfl, hl, hf⟩ : ∃ m, n = m + 1 ∧ ds.length ≤ 100000 ∧ ∀ x ∈ ds, Fl m x := by
      cases n with
      | zero => exact fl.elim
      | succ m =>
        rcases fl with fl | ⟨es, e, h1, h2⟩
        · exact fl.elim
        · rcases e with e | e <;> cases e
          exact ⟨m, rfl, h1, h2⟩
    simp only [Rq] at rv ru
    obtain ⟨a, xs, rfl, hT, hA⟩ := rv
    obtain ⟨a', xs', rfl, hT', hA'⟩ := ru
    refine q_isi2 (.tup hT') kb_tup_tuple kb_tup_list hp fun H1 e1 => ?_
    wtm_at "go"
    refine b_t rfl ?_
    wtm_at "go"
    refine ⟨z_of (by simp), fun p1 hp1 => ?_⟩
    wtm_at "go"
    refine q_isi2 (.tup (e1.isT hT)) kb_tup_tuple kb_tup_list hp1 fun H2 e2 => ?_
    wtm_at "go"
    refine b_f rfl ?_
    wtm_at "go"
    refine k_isi (.tup (e2.isT (e1.isT hT))) kb_tup_list ?_
    wtm_at "go"
    refine k_isi (.tup (e2.isT (e1.isT hT'))) kb_tup_list ?_
    wtm_at "go"
    refine b_f rfl ?_
    wtm_at "go"
    refine l_T (e2.isT (e1.isT hT)) ?_
    wtm_at "go"
    refine l_T (e2.isT (e1.isT hT')) ?_
    wtm_at "go"
    refine d_f (by rw [hA.length, hA'.length]; simp) ?_
    refine i_next ?_
    dsimp only
    refine i_ret ?_
    have e12 := e1.trans e2
    refine same_seq (n := m) (ds := ds) rfl (hR m rfl) hl hf ?_ ?_ ?_ fun H3 e3 => q H3 (e12.trans e3)
    · intro H3 e3 k Q' hk h
      obtain ⟨x, hx, rx⟩ := hA.get' (i := k) (d := ds[k]) (by simp [hk])
      rw [show ds[k]? = some ds[k] by simp [hk]] at h
      have e13 := e12.trans e3
      exact a_ixT (e13.isT hT) (v := x) (at_of (j := k) (by omega) hx) (h x (rx.ex e13))
    · intro H3 e3 k Q' hk h
      obtain ⟨x, hx, rx⟩ := hA'.get' (i := k) (d := ds[k]) (by simp [hk])
      rw [show ds[k]? = some ds[k] by simp [hk]] at h
      have e13 := e12.trans e3
      exact a_ixT (e13.isT hT') (v := x) (at_of (j := k) (by omega) hx) (h x (rx.ex e13))
    · intro Q' h
      refine l_T (e12.isT hT') ?_
      rw [hA'.length]; exact h
  | list ds =>
    obtain ⟨m, rfl, hl, hf⟩ : ∃ m, n = m + 1 ∧ ds.length ≤ 100000 ∧ ∀ x ∈ ds, Fl m x := by
      cases n with
      | zero => exact fl.elim
      | succ m =>
        rcases fl with fl | ⟨es, e, h1, h2⟩
        · exact fl.elim
        · rcases e with e | e <;> cases e
          exact ⟨m, rfl, h1, h2⟩
    simp only [Rq] at rv ru
    obtain ⟨a, xs, rfl, hT, hA⟩ := rv
    obtain ⟨a', xs', rfl, hT', hA'⟩ := ru
    refine q_isi2 (.lst hT') kb_lst_tuple kb_lst_list hp fun H1 e1 => ?_
    wtm_at "go"
    refine b_t rfl ?_
    wtm_at "go"
    refine ⟨z_of (by simp), fun p1 hp1 => ?_⟩
    wtm_at "go"
    refine q_isi2 (.lst (e1.get0 hT)) kb_lst_tuple kb_lst_list hp1 fun H2 e2 => ?_
    wtm_at "go"
    refine b_f rfl ?_
    wtm_at "go"
    refine k_isi (.lst (e2.get0 (e1.get0 hT))) kb_lst_list ?_
    wtm_at "go"
    refine k_isi (.lst (e2.get0 (e1.get0 hT'))) kb_lst_list ?_
    wtm_at "go"
    refine b_f rfl ?_
    wtm_at "go"
    refine l_L (e2.get0 (e1.get0 hT)) ?_
    wtm_at "go"
    refine l_L (e2.get0 (e1.get0 hT')) ?_
    wtm_at "go"
    refine d_f (by rw [hA.length, hA'.length]; simp) ?_
    refine i_next ?_
    dsimp only
    refine i_ret ?_
    have e12 := e1.trans e2
    refine same_seq (n := m) (ds := ds) rfl (hR m rfl) hl hf ?_ ?_ ?_ fun H3 e3 => q H3 (e12.trans e3)
    · intro H3 e3 k Q' hk h
      obtain ⟨x, hx, rx⟩ := hA.get' (i := k) (d := ds[k]) (by simp [hk])
      rw [show ds[k]? = some ds[k] by simp [hk]] at h
      have e13 := e12.trans e3
      exact a_ixL (e13.get0 hT) (v := x) (at_of (j := k) (by omega) hx) (h x (rx.ex e13))
    · intro H3 e3 k Q' hk h
      obtain ⟨x, hx, rx⟩ := hA'.get' (i := k) (d := ds[k]) (by simp [hk])
      rw [show ds[k]? = some ds[k] by simp [hk]] at h
      have e13 := e12.trans e3
      exact a_ixL (e13.get0 hT') (v := x) (at_of (j := k) (by omega) hx) (h x (rx.ex e13))
    · intro Q' h
      refine l_L (e12.get0 hT') ?_
      rw [hA'.length]; exact h
end Lc
/-! P5: sources, a cue's place, a light. -/
namespace Lc
open PySem PySem.Spec PyProof.Rows L2
section
variable {K : PySem.W.Frag} {H : Hp} {σ : L2.St}
theorem ixN_in {n : Nat} {i : Int} (h0 : 0 ≤ i) (h1 : i < n) : ixN n i = some i.toNat := by unfold ixN; rw [if_pos h0, if_pos h1]
theorem atI_in {α : Type} {xs : List α} {i : Int} {x : α} (h0 : 0 ≤ i) (h : xs[i.toNat]? = some x) : atI xs i = some x := by
  unfold atI
  rw [ixN_in h0 (by have := (List.getElem?_eq_some_iff.mp h).1; omega)]
  exact h
/-- a pair of a light and a source, into two names -/
theorem got_ent {e : Ent} {x : V} {i j : Nat} {Q : L2.St → Hp → Prop} (r : Rp H (Ent.py e) x) (h : ∀ w, Rp H e.2.py w → Q ((σ.set i (some (.int e.1))).set j (some w)) H) : gTup K 2 (gCons (gName i) (gCons (gName j) gNil)) x σ H Q := by
  obtain ⟨T, ys, rfl, hT, hA⟩ := Rp.tup_inv r
  obtain ⟨y1, r1, rfl, h1, hA⟩ := hA.cons_inv
  obtain ⟨y2, r2, rfl, h2, hA⟩ := hA.cons_inv
  have e := hA.nil_inv
  subst e
  simp only [Rp] at h1
  subst h1
  exact ⟨T, _, rfl, hT.sq, rfl, _, _, rfl, _, _, rfl, rfl, h _ h2⟩
theorem Ex.sub {W W' : List Addr} {H H1 H2 : Hp} (a : Ex W H H1) (b : Ex W' H1 H2) (h : ∀ l ∈ W', H l = none) : Ex W H H2 := a.loc b fun l hl => .inr (h l hl)
end
/-! ### sources -/
def sp_sources (K : PySem.W.Frag) : Sp := fun vs H Q _ => ∃ v cs, vs = [v] ∧ Rp H (cuesPy cs) v ∧ CuesOk (-1) cs ∧ cs.length ≤ 1000 ∧
  ∀ a ps H', (∀ p ∈ a :: ps, H p = none) → (a :: ps).Nodup → Ex [] H H' → H' a = some (.lst (ps.map V.ref)) → RowsAt H' ps (rows cs) → Q (.ref a) H'
def N_sources : List Str := ["cues", "found", "here", "cue", "light", "what"]
def t_sources (K : PySem.W.Frag) (E : XK) : TS :=
  (tSeq (tAsg (tLstF tNil) (gName 1))
  (tSeq (tAsg (tOp oMul (tLstF (tCons (tC (.int 0)) tNil)) (tC (.int 12))) (gName 2))
  (tSeq (tFor (iTup K (tVar 0)) (gName 3)
    (tSeq (tAsg (tCB (oList K) (tCons (tVar 2) tNil)) (gName 2))
  (tSeq (tFor (iTup K (tOp (oIx K) (tVar 3) (tC (.int 1)))) (gTup K 2 (gCons (gName 4) (gCons (gName 5) gNil)))
    (tAsg (tVar 5) (gSub (tVar 2) (tVar 4) oSet)))
  (tDrop (tBM K "list" oAppend (tVar 1) (tCons (tVar 2) tNil))))))
  (tRet (tVar 1)))))
theorem get_cue {cs : List Cue} {i : Nat} {d : PyData} (h : (cs.map Cue.py)[i]? = some d) : ∃ c, cs[i]? = some c ∧ d = c.py := by
  rw [List.getElem?_map] at h
  cases e : cs[i]? with
  | none => rw [e] at h; cases h
  | some c => rw [e] at h; exact ⟨c, rfl, (Option.some.inj h).symm⟩
theorem get_ent {es : List Ent} {i : Nat} {d : PyData} (h : (es.map Ent.py)[i]? = some d) : ∃ c, es[i]? = some c ∧ d = Ent.py c := by
  rw [List.getElem?_map] at h
  cases e : es[i]? with
  | none => rw [e] at h; cases h
  | some c => rw [e] at h; exact ⟨c, rfl, (Option.some.inj h).symm⟩
theorem take_snoc {α : Type} {l : List α} {i : Nat} {x : α} (h : l[i]? = some x) : l.take (i + 1) = l.take i ++ [x] := by rw [List.take_succ, h, Option.toList_some]
theorem run_snoc {g : Row} {es : List Ent} {e : Ent} (h : 0 ≤ e.1) : run g (es ++ [e]) = fun k => if k = e.1.toNat then e.2 else run g es k := by
  funext k
  unfold run
  rw [look_snoc]
  by_cases c : k = e.1.toNat
  · rw [if_pos c, if_pos (by omega)]; rfl
  · rw [if_neg c, if_neg (by omega)]
theorem pure_sources {K : PySem.W.Frag} (vs : List V) (H : Hp) (Q : VK) (E : XK) (h : sp_sources K vs H Q E) : t_sources K E { nx := fun _ H' => Q .non H', rt := Q } (start N_sources vs) H := by
  obtain ⟨v, cs, rfl, r, hok, hlen, q⟩ := h
  obtain ⟨A, xs, rfl, hT, hA⟩ := Rp.tup_inv r
  show t_sources K E _ [some (.ref A), none, none, none, none, none] H
  unfold t_sources
  wtm_at "go"
  refine ⟨z_of (by simp), fun a H1 ha e1 ha1 => ?_⟩
  wtm_at "go"
  refine ⟨z_of (by simp), fun b H2 hb e2 hb2 => ?_⟩
  wtm_at "go"
  refine a_rep hb2 (by decide) (by decide) (by simp) fun h H3 hh e3 hh3 => ?_
  have e13 := (e1.trans e2).trans e3
  wtm_at "go"
  refine ⟨A, rfl, ⟨xs, (e13.isT hT).sq⟩, for_tup (K := K) (a := A) (xs := xs) (fun i σ H' => ∃ (ps : List Addr) (h : Addr) (ys : List V) (o3 o4 o5 : Option V), σ = [some (.ref A), some (.ref a), some (.ref h), o3, o4, o5] ∧
    H' a = some (.lst (ps.map V.ref)) ∧ RowsAt H' ps (rowsF row0 (cs.take i)) ∧ H' h = some (.lst ys) ∧ RowV H' ys (endF row0 (cs.take i)) ∧ h ≠ a ∧ (∀ p ∈ a :: ps, H p = none) ∧ (a :: ps).Nodup ∧ Ex [] H H') ?_ ?_ ?_ ?_⟩
  · refine ⟨[], h, _, _, _, _, rfl, e3.get0 (e2.get0 ha1), .nil, hh3, RowV.zero, ?_, ?_, by simp, e13⟩
    · rintro rfl
      rw [e2.get0 ha1] at hh; cases hh
    · intro p hp; rw [List.mem_singleton.mp hp]; exact ha
  · rintro i σ H' _ ⟨ps, h, ys, o3, o4, o5, rfl, _, _, _, _, _, _, _, e⟩
    exact (e.isT hT).sq
  · rintro i x σ H' hx ⟨ps, h, ys, o3, o4, o5, rfl, ha', hR, hh', hV, hne, hfr, hnd, e⟩
    obtain ⟨d, hd, rx⟩ := hA.get hx
    obtain ⟨c, hc, rfl⟩ := get_cue hd
    have rx' : Rp H' c.py x := rx.ex e
    have hcok := (hok.mem c (List.mem_of_getElem? hc)).2
    wtm_at "go"
    refine ⟨h, ys, rfl, .inl (SqL.of hh'), fun h2 H4 hh2 e4 hh4 => ?_⟩
    have hh20 : H h2 = none := e.al _ hh2
    have hne2 : h2 ≠ a := fun z => by rw [z, ha'] at hh2; cases hh2
    have hnp : h2 ∉ ps := fun z => by obtain ⟨zs, hz⟩ := hR.alive z; rw [hz] at hh2; cases hh2
    wtm_at "go"
    refine r_ix (rx'.ex e4) ix1 fun y ry => ?_
    obtain ⟨B, zs, rfl, hTB, hAB⟩ := ry.tup_inv
    refine ⟨B, rfl, ⟨zs, hTB.sq⟩, for_tup (K := K) (a := B) (xs := zs) (fun j σ H5 => ∃ (ws : List V) (o4 o5 : Option V), σ = [some (.ref A), some (.ref a), some (.ref h2), some x, o4, o5] ∧
      H5 h2 = some (.lst ws) ∧ RowV H5 ws (run (endF row0 (cs.take i)) (c.ents.take j)) ∧ Ex [h2] H4 H5) ?_ ?_ ?_ ?_⟩
    · exact ⟨ys, _, _, rfl, hh4, hV.ex e4, .refl⟩
    · rintro j σ H5 _ ⟨ws, o4, o5, rfl, _, _, e5⟩
      exact (e5.isT hTB).sq
    · rintro j y σ H5 hy ⟨ws, o4, o5, rfl, hw, hV5, e5⟩
      obtain ⟨d, hd, ry⟩ := hAB.get hy
      obtain ⟨en, hen, rfl⟩ := get_ent hd
      have hb := hcok.ents.bounds en (List.mem_of_getElem? hen)
      refine got_ent (ry.ex e5) fun w rw_ => ?_
      dsimp only [List.set]
      wtm_at "go"
      refine s_lst hw (ixN_in hb.1 (by rw [hV5.len]; omega)) fun H6 e6 hw6 => ?_
      refine ⟨_, _, _, rfl, hw6, ?_, e5.trans e6⟩
      rw [take_snoc hen, run_snoc hb.1]
      exact (hV5.ex e6).set (by omega) (rw_.ex e6)
    · rintro σ H5 ⟨ws, o4, o5, rfl, hw, hV5, e5⟩
      have e45 : Ex [] H' H5 := e4.loc1 e5 hh2
      wtm_at "go"
      refine ⟨tyL (e45.get0 ha'), ?_⟩
      wtm_at "go"
      have hl : ps.length ≤ 1000 := by
        rw [hR.1, rowsF_length, List.length_take]; omega
      refine m_app (e45.get0 ha') (by simp; omega) fun H6 e6 ha6 => ?_
      wtm_at "go"
      rw [hAB.length, List.length_map, List.take_length] at hV5
      refine ⟨ps ++ [h2], h2, ws, _, _, _, rfl, by simpa using ha6, ?_, e6.get1 hne2 hw, ?_, hne2, ?_, ?_, (e.trans e45).loc1 e6 ha⟩
      · rw [take_snoc hc, rowsF_snoc]
        exact ((hR.ex0 e45).ex1 e6 (fun z => (List.nodup_cons.mp hnd).1 z)).snoc (e6.get1 hne2 hw) (hV5.ex e6)
      · rw [take_snoc hc, endF_snoc]; exact hV5.ex e6
      · intro p hp
        rcases List.mem_cons.mp hp with rfl | hp
        · exact ha
        · rcases List.mem_append.mp hp with hp | hp
          · exact hfr p (by simp [hp])
          · rw [List.mem_singleton.mp hp]; exact hh20
      · rw [← List.cons_append, List.nodup_append]
        refine ⟨hnd, by simp, fun p hp r hr => ?_⟩
        rw [List.mem_singleton.mp hr]
        rcases List.mem_cons.mp hp with rfl | hp
        · exact hne2.symm
        · exact fun z => hnp (z ▸ hp)
  · rintro σ H' ⟨ps, h, ys, o3, o4, o5, rfl, ha', hR, hh', hV, hne, hfr, hnd, e⟩
    wtm_at "go"
    rw [hA.length, List.length_map, List.take_length] at hR
    exact q a ps H' hfr hnd e ha' hR
/-! ### need_light, index_of -/
def sp_need_light (K : PySem.W.Frag) : Sp := fun vs H Q _ => ∃ i : Int, vs = [.int i] ∧ 0 ≤ i ∧ i ≤ 11 ∧ Q .non H
def N_need_light : List Str := ["light"]
def t_need_light (r_BadLight : TA → TS) (K : PySem.W.Frag) (E : XK) : TS :=
  (tIfS (tNot (tB (tCall (sp_is_number K) [] E (tCons (tVar 0) (tCons (tC (.int 0)) (tCons (tOp oSub (tC (.int 12)) (tC (.int 1))) tNil)))))) (r_BadLight (tCons (tC (.str "no light")) tNil)) tNext)
theorem pure_need_light {K : PySem.W.Frag} (r_BadLight : TA → TS) (vs : List V) (H : Hp) (Q : VK) (E : XK) (h : sp_need_light K vs H Q E) : t_need_light r_BadLight K E { nx := fun _ H' => Q .non H', rt := Q } (start N_need_light vs) H := by
  obtain ⟨i, rfl, h0, h1, q⟩ := h
  show t_need_light r_BadLight K E _ [some (.int i)] H
  unfold t_need_light
  wtm_at "go"
  refine ⟨.int i, .int i, 0, 12 - 1, rfl, .int, ?_⟩
  wtm_at "go"
  refine b_f (by simp [isNum]; omega) ?_
  wtm_at "go"
  exact q
def sp_index_of (K : PySem.W.Frag) : Sp := fun vs H Q _ => ∃ v cs k c, vs = [v, .int c.num] ∧ Rp H (cuesPy cs) v ∧ CuesOk (-1) cs ∧ cs.length ≤ 1000 ∧ cs[k]? = some c ∧ ∀ H', Ex [] H H' → Q (.int (k : Nat)) H'
def N_index_of : List Str := ["cues", "number", "found", "k"]
def t_index_of (r_NoCue : TA → TS) (K : PySem.W.Frag) (E : XK) : TS :=
  (tSeq (tAsg (tLc (iRng1 (tCons (tCB (oLen K) (tCons (tVar 0) tNil)) tNil)) (gName 3) (tTest (tOp (oEq K) (tOp (oIx K) (tOp (oIx K) (tVar 0) (tVar 3)) (tC (.int 0))) (tVar 1))) (tVar 3) [3]) (gName 2))
  (tSeq (tIfS (tOr (tTest (tOp (oEq K) (tVar 2) (tLstF tNil))) (tB (tCB (oIsi K) (tCons (tVar 1) (tCons (tC (.ty "bool")) tNil))))) (r_NoCue (tCons (tC (.str "no such cue")) tNil)) tNext)
  (tRet (tOp (oIx K) (tVar 2) (tC (.int 0))))))
theorem r_ixc {K : PySem.W.Frag} {H : Hp} {Q : VK} {cs : List Cue} {v : V} {i : Int} {c : Cue} (r : Rp H (cuesPy cs) v) (h0 : 0 ≤ i) (hc : cs[i.toNat]? = some c) (h : ∀ x, Rp H c.py x → Q x H) : oIx K v (.int i) H Q :=
  r_ix r (atI_in h0 (by rw [List.getElem?_map, hc]; rfl)) h
theorem r_lenc {K : PySem.W.Frag} {H : Hp} {Q : VK} {cs : List Cue} {v : V} (r : Rp H (cuesPy cs) v) (h : Q (.int cs.length) H) : oLen K [v] H Q := r_len r (by rw [List.length_map]; exact h)
theorem pure_index_of {K : PySem.W.Frag} (r_NoCue : TA → TS) (vs : List V) (H : Hp) (Q : VK) (E : XK) (h : sp_index_of K vs H Q E) : t_index_of r_NoCue K E { nx := fun _ H' => Q .non H', rt := Q } (start N_index_of vs) H := by
  obtain ⟨v, cs, k, c, rfl, r, hok, hlen, hk, q⟩ := h
  show t_index_of r_NoCue K E _ [some v, some (.int c.num), none, none] H
  unfold t_index_of
  wtm_at "go"
  refine r_lenc r ?_
  wtm_at "go"
  refine ⟨_, rfl, by omega, by omega, ?_⟩
  refine lc_rng (fun D j acc H' => acc = (if k < j then [V.int (k : Nat)] else []) ∧ Ex [] H H') ?_ ?_ ?_
  · exact fun D H' hD e _ => ⟨by rw [if_neg (by omega)], e⟩
  · rintro D j acc H' hD hj ha ⟨rfl, e⟩
    have hj' : j < cs.length := by omega
    wtm_at "go"
    refine ⟨rfl, ?_⟩
    wtm_at "go"
    refine r_ixc (c := cs[j]) (r.ex e) (by omega) (by simp [show ((0 : Int) + (j : Nat)).toNat = j by omega, hj']) fun x rx => ?_
    wtm_at "go"
    refine r_ix rx ix0 fun y ry => ?_
    simp only [Rp] at ry
    subst ry
    wtm_at "go"
    refine d_2 (fun he => ?_) (fun he => ?_)
    · have hjk : j = k := hok.inj (show cs[j]? = some cs[j] by simp [hj']) hk he
      subst hjk
      wtm_at "go"
      refine LP.add ha (by split <;> simp) fun H1 e1 ha1 => ⟨?_, e.loc1 e1 hD⟩
      rw [if_neg (by omega), if_pos (by omega)]
      show [V.int (0 + (j : Nat))] = _
      rw [Int.zero_add]
    · have hjk : j ≠ k := fun z => by
        subst z
        rw [show cs[j]? = some cs[j] by simp [hj']] at hk
        exact he (by rw [Option.some.inj hk])
      refine LP.skip ha ⟨?_, e⟩
      by_cases z : k < j
      · rw [if_pos z, if_pos (by omega)]
      · rw [if_neg z, if_neg (by omega)]
  · rintro D acc H' hD ha ⟨rfl, e⟩
    have hk' : k < cs.length := (List.getElem?_eq_some_iff.mp hk).1
    rw [if_pos (by omega)] at ha
    wtm_at "go"
    refine ⟨z_of (by simp), fun p H2 hp e2 hp2 => ?_⟩
    refine .inr ⟨.list [.int (k : Nat)], .list [], .lst (SqL.of (e2.get0 ha)) (.cons (.int _) .nil), .lst (SqL.of hp2) .nil, shaped_of rfl (by show max 0 0 + 1 ≤ 64; decide), by decide +kernel, ?_⟩
    wtm_at "go"
    refine b_f rfl ?_
    wtm_at "go"
    refine k_isi (.int _) kb_int_bool ?_
    wtm_at "go"
    refine b_f rfl ?_
    wtm_at "go"
    refine a_ixL (e2.get0 ha) atI_0 ?_
    exact q H2 (e.trans e2)
end Lc
/-! P6: slices and sums of data; entries told anew; lists led. -/
namespace Lc
open PySem PySem.Spec PyProof.Rows L2
section
variable {K : PySem.W.Frag} {H : Hp} {Q : VK}
/-! ### data: slices, sums -/
def cutD {α : Type} (ds : List α) (lo hi : Option Int) : List α := (ds.drop (HT.sIx ds.length 0 lo)).take (HT.sIx ds.length ds.length hi - HT.sIx ds.length 0 lo)
theorem r_sl {ds : List PyData} {v : V} {lo hi : Option Int} (r : Rp H (.tuple ds) v) (h : ∀ x H', Ex [] H H' → Rp H' (.tuple (cutD ds lo hi)) x → Q x H') : oSl K v lo hi H Q := by
  obtain ⟨a, xs, rfl, hT, hA⟩ := r.tup_inv
  refine .inr (.inl ⟨a, xs, rfl, hT, fun p H' e ht => h _ H' e (.tup ht ?_)⟩)
  unfold cutV cutD
  rw [hA.length]
  exact ((hA.ex e).drop _).take _
theorem r_add {ds es : List PyData} {v u : V} (r : Rp H (.tuple ds) v) (s : Rp H (.tuple es) u) (z : ds.length + es.length ≤ 1000000) (h : ∀ x H', Ex [] H H' → Rp H' (.tuple (ds ++ es)) x → Q x H') : oAdd v u H Q := by
  obtain ⟨a, xs, rfl, hT, hA⟩ := r.tup_inv
  obtain ⟨b, ys, rfl, hT', hA'⟩ := s.tup_inv
  exact a_tup hT hT' (z_of (by rw [hA.length, hA'.length]; exact z)) fun p H' e ht => h _ H' e (.tup ht ((hA.ex e).append (hA'.ex e)))
/-- tuple(l), l a list of data -/
theorem r_tuple {ds : List PyData} {a : Addr} {xs : List V} (h1 : H a = some (.lst xs)) (hA : RpAll H ds xs) (h : ∀ x H', Ex [] H H' → Rp H' (.tuple ds) x → Q x H') : oTuple K [.ref a] H Q :=
  ⟨a, xs, rfl, .inl ⟨SqL.of h1, fun p H' e ht => h _ H' e (.tup ht (hA.ex e))⟩⟩
/-- (x, ..) -/
theorem r_mk {ds : List PyData} {xs : List V} (hA : RpAll H ds xs) (z : xs.length ≤ 1000000) (h : ∀ x H', Ex [] H H' → Rp H' (.tuple ds) x → Q x H') : xs.length ≤ sizeLine ∧ Tup H xs Q :=
  ⟨z_of z, fun p H' e ht => h _ H' e (.tup ht (hA.ex e))⟩
end
theorem Src.eqv (s t : Src) : PyData.eqv s.py t.py = decide (s = t) := by
  cases s with
  | lv n => cases t with
    | lv m => simp [Src.py, PyData.eqv]; rfl
    | pt m => simp [Src.py, PyData.eqv]
  | pt n => cases t with
    | lv m => simp [Src.py, PyData.eqv]
    | pt m =>
      have e : PyData.eqv (Src.pt n).py (Src.pt m).py = (PyData.eqv (.str "part") (.str "part") && (PyData.eqv (.int n) (.int m) && true)) := rfl
      rw [e, eqv_part]
      simp [PyData.eqv]; rfl
/-! ### a cue's parts -/
theorem cut2 {α : Type} {a b c d e : α} : cutD [a, b, c, d, e] (some 2) none = [c, d, e] := rfl
/-! ### with_entries -/
def Cue.with (c : Cue) (f : Nat → Option Src) : Cue := { c with ents := entsOf f }
def sp_with_entries (K : PySem.W.Frag) : Sp := fun vs H Q _ => ∃ v d c kvs f, vs = [v, .ref d] ∧ Rp H (Cue.py c) v ∧ H d = some (.dK kvs) ∧ DRep H kvs f ∧ ∀ w H', Ex [] H H' → Rp H' (c.with f).py w → Q w H'
def N_with_entries : List Str := ["cue", "entries", "light"]
def t_with_entries (K : PySem.W.Frag) (E : XK) : TS :=
  (tRet (tOp oAdd (tTupF (tCons (tOp (oIx K) (tVar 0) (tC (.int 0))) (tCons (tCB (oTuple K) (tCons (tLc (iList K (tCB oSorted (tCons (tVar 1) tNil))) (gName 2) tYes (tTupF (tCons (tVar 2) (tCons (tOp (oIx K) (tVar 1) (tVar 2)) tNil))) [2]) tNil)) tNil))) (tSl (oSl K) (tVar 0) (tPart (tC (.int 2))) tNoPart)))
theorem lits_mem {f : Nat → Option Src} {i : Int} (h : i ∈ lits f) : ∃ k s, k < 12 ∧ i = (k : Nat) ∧ f k = some s := by
  obtain ⟨k, hk, rfl⟩ := List.mem_map.mp h
  obtain ⟨h1, h2⟩ := List.mem_filter.mp hk
  obtain ⟨s, e⟩ := Option.isSome_iff_exists.mp h2
  exact ⟨k, s, List.mem_range.mp h1, rfl, e⟩
theorem pure_with_entries {K : PySem.W.Frag} (vs : List V) (H : Hp) (Q : VK) (E : XK) (h : sp_with_entries K vs H Q E) : t_with_entries K E { nx := fun _ H' => Q .non H', rt := Q } (start N_with_entries vs) H := by
  obtain ⟨v, d, c, kvs, f, rfl, r, hd, hD, q⟩ := h
  show t_with_entries K E _ [some v, some (.ref d), none] H
  unfold t_with_entries
  wtm_at "go"
  refine r_ix r ix0 fun x0 r0 => ?_
  simp only [Rp] at r0
  subst r0
  wtm_at "go"
  refine r_sorted hd hD fun p H1 hp e1 ha1 => ?_
  wtm_at "go"
  refine ⟨p, rfl, ⟨_, SqL.of ha1⟩, lc_rps0 (walk_list (xs := (lits f).map V.int)) ((entsOf f).map Ent.py) (by rw [entsOf_lits]; simp) ?_ (fun _ => rfl) (fun H' e => SqL.of (e.get0 ha1)) ?_ ?_⟩
  · rw [List.length_map]
    unfold lits
    rw [List.length_map]
    exact Nat.le_trans (List.length_filter_le _ _) (by simp)
  · intro k x H' dd Q' hx hdd e qq
    obtain ⟨i, hi, rfl⟩ : ∃ i, (lits f)[k]? = some i ∧ x = V.int i := by
      rw [List.getElem?_map] at hx
      cases z : (lits f)[k]? with
      | none => rw [z] at hx; cases hx
      | some n => rw [z] at hx; exact ⟨n, rfl, (Option.some.inj hx).symm⟩
    obtain ⟨j, s, hj, rfl, hs⟩ := lits_mem (List.mem_of_getElem? hi)
    have hdd' : dd = Ent.py ((j : Int), s) := by
      rw [entsOf_lits, List.getElem?_map, List.getElem?_map, hi] at hdd
      have := (Option.some.inj hdd).symm
      rw [this]
      simp [hs]
    subst hdd'
    obtain ⟨w, hw, rw_⟩ := (hD.ex (e1.trans e)).yes j hj s hs
    show tTupF _ [some v, some (.ref d), some (.int (j : Nat))] H' Q'
    wtm_at "go"
    refine a_ixDi (e.get0 (e1.get0 hd)) hw ?_
    wtm_at "go"
    exact r_mk (.cons .int (.cons rw_ .nil)) (by simp) fun x H4 e4 r4 => qq x H4 e4 r4
  · intro D acc H2 hD2 ha2 e2 hA2
    refine r_tuple ha2 hA2 fun x H3 e3 r3 => ?_
    wtm_at "go"
    refine r_mk (.cons .int (.cons r3 .nil)) (by simp) fun y H4 e4 r4 => ?_
    have e14 := ((e1.trans e2).trans e3).trans e4
    wtm_at "go"
    refine r_sl (r.ex e14) fun z H5 e5 r5 => ?_
    rw [cut2] at r5
    refine r_add (r4.ex e5) r5 (by simp) fun x' H6 e6 r6 => ?_
    exact q x' H6 ((e14.trans e5).trans e6) r6
/-! ### led -/
def ledF (c : Cue) (here w : Row) : Nat → Option Src := fun l => if (look c.ents l).isSome = true ∨ w l ≠ here l then some (w l) else none
def ledM : Row → List Cue → List Row → List Cue
  | here, c :: cs, w :: ws => c.with (ledF c here w) :: ledM w cs ws
  | _, _, _ => []
theorem ledM_snoc : ∀ {here : Row} {cs : List Cue} {ws : List Row} {c : Cue} {w : Row}, cs.length = ws.length → ledM here (cs ++ [c]) (ws ++ [w]) = ledM here cs ws ++ [c.with (ledF c (ws.getLast?.getD here) w)]
  | here, [], [], c, w, _ => rfl
  | here, c' :: cs, w' :: ws, c, w, h => by
    have ih := ledM_snoc (here := w') (cs := cs) (ws := ws) (c := c) (w := w) (by simpa using h)
    simp only [List.cons_append, ledM, ih]
    congr 4
    cases ws with
    | nil => rfl
    | cons a r => simp [List.getLast?_cons]
  | _, [], _ :: _, _, _, h => by simp at h
  | _, _ :: _, [], _, _, h => by simp at h
theorem ledM_length : ∀ {here : Row} {cs : List Cue} {ws : List Row}, cs.length = ws.length → (ledM here cs ws).length = cs.length
  | _, [], [], _ => rfl
  | _, _ :: _, _ :: _, h => by simp [ledM, ledM_length (by simpa using h)]
  | _, [], _ :: _, h => by simp at h
  | _, _ :: _, [], h => by simp at h
def sp_led (K : PySem.W.Frag) : Sp := fun vs H Q _ => ∃ v W ps cs gs, vs = [v, .ref W] ∧ Rp H (cuesPy cs) v ∧ (∀ c ∈ cs, EntsOk (-1) c.ents) ∧ cs.length ≤ 1000 ∧ H W = some (.lst (ps.map V.ref)) ∧ RowsAt H ps gs ∧ gs.length = cs.length ∧
  ∀ w H', Ex [] H H' → Rp H' (cuesPy (ledM row0 cs gs)) w → Q w H'
def N_led : List Str := ["cues", "wished", "found", "here", "k", "entries", "light"]
def t_led (K : PySem.W.Frag) (E : XK) : TS :=
  (tSeq (tAsg (tLstF tNil) (gName 2))
  (tSeq (tAsg (tOp oMul (tLstF (tCons (tC (.int 0)) tNil)) (tC (.int 12))) (gName 3))
  (tSeq (tFor (iRng1 (tCons (tCB (oLen K) (tCons (tVar 0) tNil)) tNil)) (gName 4)
    (tSeq (tAsg tDNewF (gName 5))
  (tSeq (tFor (iRng1 (tCons (tC (.int 12)) tNil)) (gName 6)
    (tIfS (tOr (tTest (tOp (oIn K) (tVar 6) (tCB (oDict K) (tCons (tOp (oIx K) (tOp (oIx K) (tVar 0) (tVar 4)) (tC (.int 1))) tNil)))) (tTest (tOp (oNe K) (tOp (oIx K) (tOp (oIx K) (tVar 1) (tVar 4)) (tVar 6)) (tOp (oIx K) (tVar 3) (tVar 6))))) (tAsg (tOp (oIx K) (tOp (oIx K) (tVar 1) (tVar 4)) (tVar 6)) (gSub (tVar 5) (tVar 6) oSet)) tNext))
  (tSeq (tDrop (tBM K "list" oAppend (tVar 2) (tCons (tCall (sp_with_entries K) [] E (tCons (tOp (oIx K) (tVar 0) (tVar 4)) (tCons (tVar 5) tNil))) tNil)))
  (tAsg (tOp (oIx K) (tVar 1) (tVar 4)) (gName 3))))))
  (tRet (tCB (oTuple K) (tCons (tVar 2) tNil))))))
theorem r_ixrows {K : PySem.W.Frag} {H : Hp} {Q : VK} {W : Addr} {ps : List Addr} {gs : List Row} {i : Int} {g : Row} (hW : H W = some (.lst (ps.map V.ref))) (hR : RowsAt H ps gs) (h0 : 0 ≤ i) (hg : gs[i.toNat]? = some g)
    (h : ∀ p xs, p ∈ ps → H p = some (.lst xs) → RowV H xs g → Q (.ref p) H) : oIx K (.ref W) (.int i) H Q := by
  obtain ⟨p, xs, a, b, c⟩ := hR.get hg
  exact a_ixL hW (v := .ref p) (atI_in h0 (by rw [List.getElem?_map, a]; rfl)) (h p xs (List.mem_of_getElem? a) b c)
theorem r_ixrow {K : PySem.W.Frag} {H : Hp} {Q : VK} {p : Addr} {xs : List V} {i : Int} {g : Row} (hp : H p = some (.lst xs)) (hV : RowV H xs g) (h0 : 0 ≤ i) (h1 : i < 12) (h : ∀ x, Rp H (g i.toNat).py x → Q x H) : oIx K (.ref p) (.int i) H Q := by
  obtain ⟨x, a, b⟩ := hV.at_ i.toNat (by omega)
  exact a_ixL hp (v := x) (atI_in h0 a) (h x b)
theorem pure_led {K : PySem.W.Frag} (vs : List V) (H : Hp) (Q : VK) (E : XK) (h : sp_led K vs H Q E) : t_led K E { nx := fun _ H' => Q .non H', rt := Q } (start N_led vs) H := by
  obtain ⟨v, W, ps, cs, gs, rfl, r, hok, hlen, hW, hR, hgl, q⟩ := h
  show t_led K E _ [some v, some (.ref W), none, none, none, none, none] H
  unfold t_led
  wtm_at "go"
  refine ⟨z_of (by simp), fun a H1 ha e1 ha1 => ?_⟩
  wtm_at "go"
  refine ⟨z_of (by simp), fun b H2 hb e2 hb2 => ?_⟩
  wtm_at "go"
  refine a_rep hb2 (by decide) (by decide) (by simp) fun h H3 hh e3 hh3 => ?_
  have e13 := (e1.trans e2).trans e3
  wtm_at "go"
  refine r_lenc (r.ex e13) ?_
  wtm_at "go"
  refine ⟨_, rfl, by omega, by omega, for_range (lo := 0) (n := cs.length) (fun i σ H' => ∃ (h : Addr) (ys xs : List V) (o4 o5 o6 : Option V), σ = [some v, some (.ref W), some (.ref a), some (.ref h), o4, o5, o6] ∧
    H' a = some (.lst xs) ∧ RpAll H' ((ledM row0 (cs.take i) (gs.take i)).map Cue.py) xs ∧ H' h = some (.lst ys) ∧ RowV H' ys ((gs.take i).getLast?.getD row0) ∧ h ≠ a ∧ Ex [] H H') ?_ ?_ ?_⟩
  · refine ⟨h, _, [], _, _, _, rfl, e3.get0 (e2.get0 ha1), .nil, hh3, RowV.zero, ?_, e13⟩
    rintro rfl
    rw [e2.get0 ha1] at hh; cases hh
  · rintro i σ H' hi ⟨h, ys, xs, o4, o5, o6, rfl, ha', hA, hh', hV, hne, e⟩
    have hig : i < gs.length := by omega
    have hc : cs[i]? = some cs[i] := by simp [hi]
    have hg : gs[i]? = some gs[i] := by simp [hig]
    have hi0 : ((0 : Int) + (i : Nat)).toNat = i := by omega
    wtm_at "go"
    intro d H4 hd e4 hd4
    have hda : d ≠ a := fun z => by rw [z, ha'] at hd; cases hd
    have hdh : d ≠ h := fun z => by rw [z, hh'] at hd; cases hd
    have hdW : d ≠ W := fun z => by rw [z, e.get0 hW] at hd; cases hd
    have hdp : d ∉ ps := fun z => by obtain ⟨zs, hz⟩ := (hR.ex0 e).alive z; rw [hz] at hd; cases hd
    wtm_at "go"
    refine ⟨12, rfl, by decide, by decide, for_range (lo := 0) (n := 12) (fun j σ H5 => ∃ (kvs : List (Key × V)) (o6 : Option V), σ = [some v, some (.ref W), some (.ref a), some (.ref h), some (.int (0 + (i : Nat))), some (.ref d), o6] ∧
      H5 d = some (.dK kvs) ∧ DRep H5 kvs (fun l => if l < j then ledF cs[i] ((gs.take i).getLast?.getD row0) gs[i] l else none) ∧ Ex [d] H4 H5) ?_ ?_ ?_⟩
    · exact ⟨[], _, rfl, hd4, DRep.nil.congr fun k _ => (by rw [if_neg (by omega)]), .refl⟩
    · rintro j σ H5 hj ⟨kvs, o6, rfl, hd5, hD5, e5⟩
      have e45 : Ex [] H' H5 := e4.loc1 e5 hd
      have e05 := e.trans e45
      have hj12 : j < 12 := hj
      have hj0 : ((0 : Int) + (j : Nat)).toNat = j := by omega
      wtm_at "go"
      refine r_ixc (c := cs[i]) (r.ex e05) (by omega) (by rw [hi0]; exact hc) fun x rx => ?_
      wtm_at "go"
      refine r_ix rx ix1 fun y ry => ?_
      refine r_dict ry (hok _ (List.mem_of_getElem? hc)).bounds fun p kvs6 H6 hp e6 hp6 hD6 => ?_
      have hdp6 : d ≠ p := fun z => by rw [← z, hd5] at hp; cases hp
      refine a_inDi hp6 ?_
      wtm_at "go"
      have hsome := hD6.some_iff (k := j) (by omega)
      have hF1 : ledF cs[i] ((gs.take i).getLast?.getD row0) gs[i] j = some (gs[i] j) → ∀ k, k < 12 → (if k = j then some (gs[i] j) else if k < j then ledF cs[i] ((gs.take i).getLast?.getD row0) gs[i] k else none) = if k < j + 1 then ledF cs[i] ((gs.take i).getLast?.getD row0) gs[i] k else none := by
        intro hb k hk
        by_cases c1 : k = j
        · subst c1
          rw [if_pos rfl, if_pos (Nat.lt_succ_self _), hb]
        · rw [if_neg c1]
          by_cases c2 : k < j
          · rw [if_pos c2, if_pos (Nat.lt_succ_of_lt c2)]
          · rw [if_neg c2, if_neg (show ¬ k < j + 1 by omega)]
      have hF0 : ledF cs[i] ((gs.take i).getLast?.getD row0) gs[i] j = none → ∀ k, k < 12 → (if k < j then ledF cs[i] ((gs.take i).getLast?.getD row0) gs[i] k else none) = if k < j + 1 then ledF cs[i] ((gs.take i).getLast?.getD row0) gs[i] k else none := by
        intro hb k hk
        by_cases c1 : k = j
        · subst c1
          rw [if_neg (Nat.lt_irrefl _), if_pos (Nat.lt_succ_self _), hb]
        · by_cases c2 : k < j
          · rw [if_pos c2, if_pos (Nat.lt_succ_of_lt c2)]
          · rw [if_neg c2, if_neg (show ¬ k < j + 1 by omega)]
      have e06 := e05.trans e6
      have told : ledF cs[i] ((gs.take i).getLast?.getD row0) gs[i] j = some (gs[i] j) → ∀ D : Ends, (∀ H7 kvs7, Ex [d] H6 H7 → H7 d = some (.dK kvs7) → DRep H7 kvs7 (fun l => if l < j + 1 then ledF cs[i] ((gs.take i).getLast?.getD row0) gs[i] l else none) →
          D.nx [some v, some (.ref W), some (.ref a), some (.ref h), some (.int (0 + (i : Nat))), some (.ref d), some (.int (0 + (j : Nat)))] H7) →
          tAsg (tOp (oIx K) (tOp (oIx K) (tVar 1) (tVar 4)) (tVar 6)) (gSub (tVar 5) (tVar 6) oSet) D [some v, some (.ref W), some (.ref a), some (.ref h), some (.int (0 + (i : Nat))), some (.ref d), some (.int (0 + (j : Nat)))] H6 := by
        intro hl De hDe
        wtm_at "go"
        refine r_ixrows (e06.get0 hW) (hR.ex0 e06) (by omega) (by rw [hi0]; exact hg) fun p2 zs _ hz hzV => ?_
        wtm_at "go"
        refine r_ixrow hz hzV (by omega) (by omega) fun w rw_ => ?_
        rw [hj0] at rw_
        wtm_at "go"
        refine .inr ⟨d, kvs, Sum.inl ((j : Nat) : Int), rfl, by show V.int (0 + (j : Nat)) = V.int (j : Nat); rw [Int.zero_add], e6.get0 hd5, z_lt (by have := hD5.length; omega), fun H7 e7 hd7 => ?_⟩
        refine hDe H7 _ e7 hd7 ?_
        refine ((((hD5.ex e6).ex e7).put (k := j) (s := gs[i] j) (by omega) (rw_.ex e7))).congr (hF1 hl)
      refine b_2 (fun hin => ?_) (fun hin => ?_)
      · refine told ?_ _ fun H7 kvs7 e7 hd7 hD7 => ⟨kvs7, _, rfl, hd7, hD7, e5.trans ((Ex.any e6).trans e7)⟩
        exact if_pos (.inl (by rw [← hsome, ← Int.zero_add ((j : Nat) : Int)]; exact hin))
      · wtm_at "go"
        refine r_ixrows (e06.get0 hW) (hR.ex0 e06) (by omega) (by rw [hi0]; exact hg) fun p2 zs _ hz hzV => ?_
        wtm_at "go"
        refine r_ixrow hz hzV (by omega) (by omega) fun w rw_ => ?_
        wtm_at "go"
        refine r_ixrow ((e45.trans e6).get0 hh') (hV.ex (e45.trans e6)) (by omega) (by omega) fun w2 rw2 => ?_
        rw [hj0] at rw_ rw2
        refine r_ne rw_ rw2 (shaped_src _) (shaped_src _) ?_
        rw [Src.eqv]
        wtm_at "go"
        have hno : (look cs[i].ents j).isSome = false := by rw [← hsome, ← Int.zero_add ((j : Nat) : Int)]; exact hin
        refine b_2 (fun hne2 => ?_) (fun hne2 => ?_)
        · refine told ?_ _ fun H7 kvs7 e7 hd7 hD7 => ⟨kvs7, _, rfl, hd7, hD7, e5.trans ((Ex.any e6).trans e7)⟩
          unfold ledF
          rw [if_pos (.inr (by simpa using hne2))]
        · wtm_at "go"
          refine ⟨kvs, _, rfl, e6.get0 hd5, ?_, e5.trans (Ex.any e6)⟩
          refine (hD5.ex e6).congr (hF0 ?_)
          unfold ledF
          rw [if_neg]
          rw [hno]
          simpa using hne2
    · rintro σ H5 ⟨kvs, o6, rfl, hd5, hD5, e5⟩
      have e45 : Ex [] H' H5 := e4.loc1 e5 hd
      have e05 := e.trans e45
      wtm_at "go"
      refine ⟨tyL (e45.get0 ha'), ?_⟩
      wtm_at "go"
      refine r_ixc (c := cs[i]) (r.ex e05) (by omega) (by rw [hi0]; exact hc) fun x rx => ?_
      wtm_at "go"
      refine ⟨x, d, cs[i], kvs, ledF cs[i] ((gs.take i).getLast?.getD row0) gs[i], rfl, rx, hd5, hD5.congr fun k hk => (by rw [if_pos hk]), fun w H6 e6 hw => ?_⟩
      wtm_at "go"
      have hl := hA.length
      rw [List.length_map, ledM_length (by simp; omega), List.length_take] at hl
      refine m_app (e6.get0 (e45.get0 ha')) (by omega) fun H7 e7 ha7 => ?_
      have e57 := e6.any.trans e7
      have e07 : Ex [] H H7 := (e05.trans e6).loc1 e7 ha
      have hWa : W ≠ a := fun z => by rw [← z, hW] at ha; cases ha
      have hap : a ∉ ps := fun z => by obtain ⟨zs, hz⟩ := hR.alive z; rw [hz] at ha; cases ha
      wtm_at "go"
      refine r_ixrows (e07.get0 hW) (hR.ex0 e07) (by omega) (by rw [hi0]; exact hg) fun p2 zs hp2 hz hzV => ?_
      wtm_at "go"
      refine ⟨p2, zs, _, _, _, _, rfl, ha7, ?_, hz, ?_, fun z => hap (z ▸ hp2), e07⟩
      · rw [take_snoc hc, take_snoc hg, ledM_snoc (by simp; omega), List.map_append]
        exact ((((hA.ex e45).ex e6).ex e7)).snoc (hw.ex e7)
      · have : (gs.take i ++ [gs[i]]).getLast?.getD row0 = gs[i] := by rw [List.getLast?_concat]; rfl
        rw [take_snoc hg, this]; exact hzV
  · rintro σ H' ⟨h, ys, xs, o4, o5, o6, rfl, ha', hA, hh', hV, hne, e⟩
    wtm_at "go"
    rw [List.take_length, ← hgl, List.take_length] at hA
    exact r_tuple ha' hA fun x H2 e2 r2 => q x H2 (e.trans e2) r2
end Lc
/-! P7: source, blocked, tidied; what the laws look up. -/
namespace Lc
open PySem PySem.Spec PyProof.Rows L2
/-- a promise that is kept by another -/
def Le (a b : Sp) : Prop := ∀ vs H Q E, a vs H Q E → b vs H Q E
theorem Le.rfl {a : Sp} : Le a a := fun _ _ _ _ h => h
section
variable {K : PySem.W.Frag}
/-- a good list is let by -/
theorem ok_need_cues {H : Hp} {v : V} {cs : List Cue} {Q : VK} {E : XK} (r : Rp H (cuesPy cs) v) (hok : CuesOk (-1) cs) (hl : cs.length ≤ 40) (q : ∀ H', Ex [] H H' → Q .non H') : sp_need_cues K ([v] ++ []) H Q E :=
  ⟨v, _, rfl, r, shaped_cues cs, hok.not_bad (by omega), q⟩
end
theorem row_at {cs : List Cue} {k : Nat} {c : Cue} (h : cs[k]? = some c) : (rows cs)[k]? = some (endF row0 (cs.take (k + 1))) := rowsF_get (List.getElem?_eq_some_iff.mp h).1
/-! ### source -/
def sp_source (K : PySem.W.Frag) : Sp := fun vs H Q _ => ∃ v cs k c l, vs = [v, .int (Cue.num c), .int l] ∧ Rp H (cuesPy cs) v ∧ CuesOk (-1) cs ∧ cs.length ≤ 40 ∧ cs[(k : Nat)]? = some c ∧ 0 ≤ l ∧ l ≤ 11 ∧ ∀ w H', Ex [] H H' → Rp H' (endF row0 (cs.take (k + 1)) l.toNat).py w → Q w H'
def N_source : List Str := ["cues", "number", "light", "index"]
def t_source (c_need_cues : Sp) (c_index_of : Sp) (c_need_light : Sp) (K : PySem.W.Frag) (E : XK) : TS :=
  (tSeq (tDrop (tCall c_need_cues [] E (tCons (tVar 0) tNil)))
  (tSeq (tAsg (tCall c_index_of [] E (tCons (tVar 0) (tCons (tVar 1) tNil))) (gName 3))
  (tSeq (tDrop (tCall c_need_light [] E (tCons (tVar 2) tNil)))
  (tRet (tOp (oIx K) (tOp (oIx K) (tCall (sp_sources K) [] E (tCons (tVar 0) tNil)) (tVar 3)) (tVar 2))))))
theorem pure_source {K : PySem.W.Frag} {c_need_cues c_index_of c_need_light : Sp} (h1 : Le (sp_need_cues K) c_need_cues) (h2 : Le (sp_index_of K) c_index_of) (h3 : Le (sp_need_light K) c_need_light) (vs : List V) (H : Hp) (Q : VK) (E : XK) (h : sp_source K vs H Q E) : t_source c_need_cues c_index_of c_need_light K E { nx := fun _ H' => Q .non H', rt := Q } (start N_source vs) H := by
  obtain ⟨v, cs, k, c, l, rfl, r, hok, hlen, hk, hl0, hl1, q⟩ := h
  show t_source _ _ _ K E _ [some v, some (.int c.num), some (.int l), none] H
  unfold t_source
  wtm_at "go"
  refine h1 _ _ _ _ (ok_need_cues r hok hlen fun H1 e1 => ?_)
  wtm_at "go"
  refine h2 _ _ _ _ ⟨v, cs, k, c, rfl, r.ex e1, hok, by omega, hk, fun H2 e2 => ?_⟩
  wtm_at "go"
  refine h3 _ _ _ _ ⟨l, rfl, hl0, hl1, ?_⟩
  wtm_at "go"
  refine ⟨v, cs, rfl, (r.ex e1).ex e2, hok, by omega, fun a ps H3 _ _ e3 ha hR => ?_⟩
  wtm_at "go"
  refine r_ixrows ha hR (by omega) (by simpa using row_at hk) fun p xs _ hp hV => ?_
  wtm_at "go"
  exact r_ixrow hp hV hl0 (by omega) fun x rx => q x H3 ((e1.trans e2).trans e3) rx
/-! ### blocked -/
def blockM (cs : List Cue) (k : Nat) (c : Cue) : List Cue := cs.take k ++ [c.with fun l => some (endF row0 (cs.take (k + 1)) l)] ++ cs.drop (k + 1)
def sp_blocked (K : PySem.W.Frag) : Sp := fun vs H Q _ => ∃ v cs k c, vs = [v, .int (Cue.num c)] ∧ Rp H (cuesPy cs) v ∧ CuesOk (-1) cs ∧ cs.length ≤ 40 ∧ cs[(k : Nat)]? = some c ∧ ∀ w H', Ex [] H H' → Rp H' (cuesPy (blockM cs k c)) w → Q w H'
def N_blocked : List Str := ["cues", "number", "index", "here", "cue", "light"]
def t_blocked (c_need_cues : Sp) (c_index_of : Sp) (K : PySem.W.Frag) (E : XK) : TS :=
  (tSeq (tDrop (tCall c_need_cues [] E (tCons (tVar 0) tNil)))
  (tSeq (tAsg (tCall c_index_of [] E (tCons (tVar 0) (tCons (tVar 1) tNil))) (gName 2))
  (tSeq (tAsg (tOp (oIx K) (tCall (sp_sources K) [] E (tCons (tVar 0) tNil)) (tVar 2)) (gName 3))
  (tSeq (tAsg (tCall (sp_with_entries K) [] E (tCons (tOp (oIx K) (tVar 0) (tVar 2)) (tCons (tCB (oDict K) (tCons (tLc (iRng1 (tCons (tC (.int 12)) tNil)) (gName 5) tYes (tTupF (tCons (tVar 5) (tCons (tOp (oIx K) (tVar 3) (tVar 5)) tNil))) [5]) tNil)) tNil))) (gName 4))
  (tRet (tOp oAdd (tOp oAdd (tSl (oSl K) (tVar 0) tNoPart (tPart (tVar 2))) (tTupF (tCons (tVar 4) tNil))) (tSl (oSl K) (tVar 0) (tPart (tOp oAdd (tVar 2) (tC (.int 1)))) tNoPart)))))))
theorem cut_take {α : Type} {ds : List α} {k : Nat} (h : k ≤ ds.length) : cutD ds none (some (k : Int)) = ds.take k := by
  unfold cutD
  rw [HT.sIx_none, HT.sIx_nat, Nat.min_eq_left h]
  simp
theorem cut_drop {α : Type} {ds : List α} {k : Nat} (h : k ≤ ds.length) : cutD ds (some (k : Int)) none = ds.drop k := by
  unfold cutD
  rw [HT.sIx_none, HT.sIx_nat, Nat.min_eq_left h]
  rw [← List.length_drop, List.take_length]
theorem rowEnts (g : Row) : ((List.range 12).map fun l : Nat => (((l : Nat) : Int), g l)) = entsOf fun l => some (g l) := by
  unfold entsOf entsR
  rw [show List.range' 0 12 = List.range 12 from rfl]
  induction List.range 12 with
  | nil => rfl
  | cons a r ih => simp only [List.map_cons, List.filterMap_cons, Option.map_some, ih]
theorem pure_blocked {K : PySem.W.Frag} {c_need_cues c_index_of : Sp} (h1 : Le (sp_need_cues K) c_need_cues) (h2 : Le (sp_index_of K) c_index_of) (vs : List V) (H : Hp) (Q : VK) (E : XK) (h : sp_blocked K vs H Q E) : t_blocked c_need_cues c_index_of K E { nx := fun _ H' => Q .non H', rt := Q } (start N_blocked vs) H := by
  obtain ⟨v, cs, k, c, rfl, r, hok, hlen, hk, q⟩ := h
  have hk' : k < cs.length := (List.getElem?_eq_some_iff.mp hk).1
  show t_blocked _ _ K E _ [some v, some (.int c.num), none, none, none, none] H
  unfold t_blocked
  wtm_at "go"
  refine h1 _ _ _ _ (ok_need_cues r hok hlen fun H1 e1 => ?_)
  wtm_at "go"
  refine h2 _ _ _ _ ⟨v, cs, k, c, rfl, r.ex e1, hok, by omega, hk, fun H2 e2 => ?_⟩
  wtm_at "go"
  refine ⟨v, cs, rfl, (r.ex e1).ex e2, hok, by omega, fun a ps H3 _ _ e3 ha hR => ?_⟩
  wtm_at "go"
  refine r_ixrows ha hR (by omega) (by simpa using row_at hk) fun p xs _ hp hV => ?_
  have e13 := (e1.trans e2).trans e3
  wtm_at "go"
  refine r_ixc (c := c) (r.ex e13) (by omega) (by simpa using hk) fun x rx => ?_
  wtm_at "go"
  refine ⟨12, rfl, by decide, by decide, lc_rps0 walk_rngF (((List.range 12).map fun l : Nat => (((l : Nat) : Int), endF row0 (cs.take (k + 1)) l)).map Ent.py) (by simp) (by decide) (fun _ => rfl) (fun _ _ => trivial) ?_ ?_⟩
  · intro j y H' d Q' hy hd e qq
    subst hy
    have hj : j < 12 := by
      have := (List.getElem?_eq_some_iff.mp hd).1
      simpa using this
    have hd' : d = Ent.py ((j : Int), endF row0 (cs.take (k + 1)) j) := by
      rw [List.getElem?_map, List.getElem?_map, List.getElem?_range hj] at hd
      exact (Option.some.inj hd).symm
    subst hd'
    show tTupF _ [some v, some (.int c.num), some (.int (k : Nat)), some (.ref p), none, some (.int (0 + (j : Nat)))] H' Q'
    wtm_at "go"
    refine r_ixrow (e.get0 hp) (hV.ex e) (by omega) (by omega) fun w rw_ => ?_
    rw [show ((0 : Int) + (j : Nat)).toNat = j by omega] at rw_
    wtm_at "go"
    refine r_mk (.cons (by rw [Int.zero_add]; exact .int) (.cons rw_ .nil)) (by simp) fun x H4 e4 r4 => qq x H4 e4 r4
  · intro D acc H4 hD ha4 e4 hA
    rw [rowEnts] at hA
    have ok : ∀ l, (endF row0 (cs.take (k + 1)) l).Ok := endF_ok row0_ok (hok.take _)
    refine r_dictL ha4 hA ?_ fun d kvs H5 hd e5 hd5 hD5 => ?_
    · exact (entsOf_ok fun l _ s hs => by cases hs; exact ok l).bounds
    wtm_at "go"
    refine ⟨x, d, c, kvs, _, rfl, (rx.ex e4).ex e5, hd5, hD5, fun w H6 e6 hw => ?_⟩
    have e16 := ((e13.trans e4).trans e5).trans e6
    wtm_at "go"
    refine r_sl (r.ex e16) fun y H7 e7 r7 => ?_
    rw [cut_take (by simp; omega)] at r7
    wtm_at "go"
    refine r_mk (.cons (hw.ex e7) .nil) (by simp) fun z H8 e8 r8 => ?_
    refine r_add (r7.ex e8) r8 (by simp; omega) fun y2 H9 e9 r9 => ?_
    have e19 := ((e16.trans e7).trans e8).trans e9
    wtm_at "go"
    refine r_sl (r.ex e19) fun y3 H10 e10 r10 => ?_
    rw [show ((k : Nat) : Int) + 1 = ((k + 1 : Nat) : Int) by omega, cut_drop (by simp; omega)] at r10
    refine r_add (r9.ex e10) r10 (by simp; omega) fun y4 H11 e11 r11 => ?_
    refine q y4 H11 ((e19.trans e10).trans e11) ?_
    have : (c.with fun l => look (entsOf fun l => some (endF row0 (cs.take (k + 1)) l)) l) = c.with fun l => some (endF row0 (cs.take (k + 1)) l) := by
      unfold Cue.with
      rw [entsOf_congr fun l hl => look_entsOf hl]
    unfold cuesPy blockM
    rw [List.map_append, List.map_append, List.map_take, List.map_drop, ← this]
    exact r11
/-! ### tidied -/
def Cue.bare (c : Cue) : Cue := { c with ents := [] }
def tidyM (cs : List Cue) : List Cue := ledM row0 (cs.map Cue.bare) (rows cs)
def sp_tidied (K : PySem.W.Frag) : Sp := fun vs H Q _ => ∃ v cs, vs = [v] ∧ Rp H (cuesPy cs) v ∧ CuesOk (-1) cs ∧ cs.length ≤ 40 ∧ ∀ w H', Ex [] H H' → Rp H' (cuesPy (tidyM cs)) w → Q w H'
def N_tidied : List Str := ["cues", "bare", "cue"]
def t_tidied (c_need_cues : Sp) (K : PySem.W.Frag) (E : XK) : TS :=
  (tSeq (tDrop (tCall c_need_cues [] E (tCons (tVar 0) tNil)))
  (tSeq (tAsg (tCB (oTuple K) (tCons (tLc (iTup K (tVar 0)) (gName 2) tYes (tCall (sp_with_entries K) [] E0 (tCons (tVar 2) (tCons tDNewF tNil))) [2]) tNil)) (gName 1))
  (tRet (tCall (sp_led K) [] E (tCons (tVar 1) (tCons (tCall (sp_sources K) [] E (tCons (tVar 0) tNil)) tNil))))))
theorem with_none (c : Cue) : (c.with fun _ => none) = c.bare := by
  unfold Cue.with Cue.bare entsOf entsR
  congr 1
theorem pure_tidied {K : PySem.W.Frag} {c_need_cues : Sp} (h1 : Le (sp_need_cues K) c_need_cues) (vs : List V) (H : Hp) (Q : VK) (E : XK) (h : sp_tidied K vs H Q E) : t_tidied c_need_cues K E { nx := fun _ H' => Q .non H', rt := Q } (start N_tidied vs) H := by
  obtain ⟨v, cs, rfl, r, hok, hlen, q⟩ := h
  show t_tidied _ K E _ [some v, none, none] H
  unfold t_tidied
  wtm_at "go"
  refine h1 _ _ _ _ (ok_need_cues r hok hlen fun H1 e1 => ?_)
  wtm_at "go"
  obtain ⟨A, xs, rfl, hT, hA⟩ := Rp.tup_inv (r.ex e1)
  have hl := hA.length
  rw [List.length_map] at hl
  refine ⟨A, rfl, ⟨xs, hT.sq⟩, lc_rps0 (walk_tup (xs := xs)) ((cs.map Cue.bare).map Cue.py) (by simp [hl]) (by omega) (fun _ => rfl) (fun H' e => (e.isT hT).sq) ?_ ?_⟩
  · intro j y H' d Q' hy hd e qq
    obtain ⟨d2, hd2, ry⟩ := hA.get hy
    obtain ⟨c, hc, rfl⟩ := get_cue hd2
    have hd' : d = c.bare.py := by
      rw [List.getElem?_map, List.getElem?_map, hc] at hd
      exact (Option.some.inj hd).symm
    subst hd'
    show tCall _ _ _ _ [some (.ref A), none, some y] H' Q'
    wtm_at "go"
    intro p H2 hp e2 hp2
    wtm_at "go"
    refine ⟨y, p, c, [], fun _ => none, rfl, (ry.ex e).ex e2, hp2, .nil, fun w H3 e3 hw => qq w H3 (e2.trans e3) ?_⟩
    rw [with_none] at hw
    exact hw
  · intro D acc H2 hD ha2 e2 hA2
    refine r_tuple ha2 hA2 fun x H3 e3 r3 => ?_
    have e13 := (e1.trans e2).trans e3
    wtm_at "go"
    refine ⟨.ref A, cs, rfl, r.ex e13, hok, by omega, fun a ps H4 _ _ e4 ha hR => ?_⟩
    wtm_at "go"
    refine ⟨x, a, ps, cs.map Cue.bare, rows cs, rfl, r3.ex e4, fun c hc => ?_, by simp; omega, ha, hR, by rw [rows_length]; simp, fun w H5 e5 hw => q w H5 ((e13.trans e4).trans e5) hw⟩
    obtain ⟨c', _, rfl⟩ := List.mem_map.mp hc
    exact trivial
/-! ### _law_source -/
def sp__law_source (K : PySem.W.Frag) : Sp := fun vs H Q _ => ∃ v cs k l, vs = [v, .int k, .int l] ∧ Rp H (cuesPy cs) v ∧ CuesOk (-1) cs ∧ -1 ≤ k ∧ k < cs.length ∧ 0 ≤ l ∧ l ≤ 11 ∧ ∀ w H', Ex [] H H' → Rp H' (endF row0 (cs.take (k + 1).toNat) l.toNat).py w → Q w H'
def N__law_source : List Str := ["_law_cues_here", "_law_k", "_law_light", "_law_found", "_law_cue_here"]
def t__law_source (K : PySem.W.Frag) (E : XK) : TS :=
  (tSeq (tAsg (tC (.int 0)) (gName 3))
  (tSeq (tFor (iTup K (tSl (oSl K) (tVar 0) tNoPart (tPart (tOp oAdd (tVar 1) (tC (.int 1)))))) (gName 4)
    (tAsg (tDGet2 (tCB (oDict K) (tCons (tOp (oIx K) (tVar 4) (tC (.int 1))) tNil)) (tVar 2) (tVar 3)) (gName 3)))
  (tRet (tVar 3))))
theorem pure__law_source {K : PySem.W.Frag} (vs : List V) (H : Hp) (Q : VK) (E : XK) (h : sp__law_source K vs H Q E) : t__law_source K E { nx := fun _ H' => Q .non H', rt := Q } (start N__law_source vs) H := by
  obtain ⟨v, cs, k, l, rfl, r, hok, hk0, hk1, hl0, hl1, q⟩ := h
  show t__law_source K E _ [some v, some (.int k), some (.int l), none, none] H
  unfold t__law_source
  wtm_at "go"
  refine r_sl r fun y H1 e1 r1 => ?_
  rw [show k + 1 = ((k + 1).toNat : Int) by omega, cut_take (by simp; omega), ← List.map_take] at r1
  obtain ⟨A, xs, rfl, hT, hA⟩ := Rp.tup_inv r1
  refine ⟨A, rfl, ⟨xs, hT.sq⟩, for_tup (K := K) (a := A) (xs := xs) (fun i σ H' => ∃ (w : V) (o : Option V), σ = [some v, some (.int k), some (.int l), some w, o] ∧ Rp H' (endF row0 ((cs.take (k + 1).toNat).take i) l.toNat).py w ∧ Ex [] H1 H') ?_ ?_ ?_ ?_⟩
  · exact ⟨_, _, rfl, .int, .refl⟩
  · rintro i σ H' _ ⟨w, o, rfl, _, e⟩
    exact (e.isT hT).sq
  · rintro i x σ H' hx ⟨w, o, rfl, hw, e⟩
    obtain ⟨d, hd, rx⟩ := hA.get hx
    obtain ⟨c, hc, rfl⟩ := get_cue hd
    have hcok := ((hok.take _).mem c (List.mem_of_getElem? hc)).2
    wtm_at "go"
    refine r_ix (rx.ex e) ix1 fun y ry => ?_
    refine r_dict ry hcok.ents.bounds fun p kvs H2 hp e2 hp2 hD => ?_
    refine ⟨p, rfl, isD_of hp2, ?_⟩
    wtm_at "go"
    refine ⟨_, (show V.int l = kV (.inl (l.toNat : Int)) by show V.int l = V.int (l.toNat : Int); rw [show ((l.toNat : Nat) : Int) = l by omega]) ▸ DGet.k hp2, ?_⟩
    wtm_at "go"
    refine ⟨_, _, rfl, ?_, e.trans e2⟩
    rw [take_snoc hc, endF_snoc]
    unfold run
    cases z : look c.ents l.toNat with
    | none => rw [hD.no l.toNat (by omega) z]; exact hw.ex e2
    | some s =>
      obtain ⟨x, a, b⟩ := hD.yes l.toNat (by omega) s z
      rw [a]; exact b
  · rintro σ H' ⟨w, o, rfl, hw, e⟩
    wtm_at "go"
    rw [hA.length, List.length_map, List.take_length] at hw
    exact q w H' (e1.trans e) hw
/-! ### _law_sources -/
def sp__law_sources (K : PySem.W.Frag) : Sp := fun vs H Q _ => ∃ v cs, vs = [v] ∧ Rp H (cuesPy cs) v ∧ CuesOk (-1) cs ∧ cs.length ≤ 1000 ∧
  ∀ a ps H', (∀ p ∈ a :: ps, H p = none) → (a :: ps).Nodup → Ex [] H H' → H' a = some (.lst (ps.map V.ref)) → RowsAt H' ps (rows cs) → Q (.ref a) H'
def N__law_sources : List Str := ["_law_cues_here", "_law_found", "_law_here", "_law_cue_here", "_law_told", "_law_light"]
def t__law_sources (K : PySem.W.Frag) (E : XK) : TS :=
  (tSeq (tAsg (tTupF (tCons (tLstF tNil) (tCons (tOp oMul (tLstF (tCons (tC (.int 0)) tNil)) (tC (.int 12))) tNil))) (gTup K 2 (gCons (gName 1) (gCons (gName 2) gNil))))
  (tSeq (tFor (iTup K (tVar 0)) (gName 3)
    (tSeq (tAsg (tCB (oDict K) (tCons (tOp (oIx K) (tVar 3) (tC (.int 1))) tNil)) (gName 4))
  (tSeq (tAsg (tLc (iRng1 (tCons (tC (.int 12)) tNil)) (gName 5) tYes (tDGet2 (tVar 4) (tVar 5) (tOp (oIx K) (tVar 2) (tVar 5))) [5]) (gName 2))
  (tDrop (tBM K "list" oAppend (tVar 1) (tCons (tVar 2) tNil))))))
  (tRet (tVar 1))))
theorem RowV.of_all {H : Hp} {xs : List V} {g : Row} (h : RpAll H (rowPy g) xs) : RowV H xs g := by
  refine ⟨by rw [h.length, rowPy_length], fun l hl => ?_⟩
  exact h.get' (d := (g l).py) (by simp only [rowPy, List.getElem?_map]; rw [List.getElem?_range hl]; rfl)
theorem pure__law_sources {K : PySem.W.Frag} (vs : List V) (H : Hp) (Q : VK) (E : XK) (h : sp__law_sources K vs H Q E) : t__law_sources K E { nx := fun _ H' => Q .non H', rt := Q } (start N__law_sources vs) H := by
  obtain ⟨v, cs, rfl, r, hok, hlen, q⟩ := h
  obtain ⟨A, xs, rfl, hT, hA⟩ := Rp.tup_inv r
  show t__law_sources K E _ [some (.ref A), none, none, none, none, none] H
  unfold t__law_sources
  wtm_at "go"
  refine ⟨z_of (by simp), fun a H1 ha e1 ha1 => ?_⟩
  wtm_at "go"
  refine ⟨z_of (by simp), fun b H2 hb e2 hb2 => ?_⟩
  wtm_at "go"
  refine a_rep hb2 (by decide) (by decide) (by simp) fun h H3 hh e3 hh3 => ?_
  wtm_at "go"
  refine ⟨z_of (by simp), fun tp H4 e4 ht4 => ?_⟩
  refine ⟨tp, _, rfl, ht4.sq, rfl, _, _, rfl, _, _, rfl, rfl, ?_⟩
  dsimp only [List.set]
  have e14 := ((e1.trans e2).trans e3).trans e4
  wtm_at "go"
  refine ⟨A, rfl, ⟨xs, (e14.isT hT).sq⟩, for_tup (K := K) (a := A) (xs := xs) (fun i σ H' => ∃ (ps : List Addr) (h : Addr) (ys : List V) (o3 o4 o5 : Option V), σ = [some (.ref A), some (.ref a), some (.ref h), o3, o4, o5] ∧
    H' a = some (.lst (ps.map V.ref)) ∧ RowsAt H' ps (rowsF row0 (cs.take i)) ∧ H' h = some (.lst ys) ∧ RowV H' ys (endF row0 (cs.take i)) ∧ h ≠ a ∧ (∀ p ∈ a :: ps, H p = none) ∧ (a :: ps).Nodup ∧ Ex [] H H') ?_ ?_ ?_ ?_⟩
  · refine ⟨[], h, _, _, _, _, rfl, e4.get0 (e3.get0 (e2.get0 ha1)), .nil, e4.get0 hh3, RowV.zero, ?_, ?_, by simp, e14⟩
    · rintro rfl
      rw [e2.get0 ha1] at hh; cases hh
    · intro p hp; rw [List.mem_singleton.mp hp]; exact ha
  · rintro i σ H' _ ⟨ps, h, ys, o3, o4, o5, rfl, _, _, _, _, _, _, _, e⟩
    exact (e.isT hT).sq
  · rintro i x σ H' hx ⟨ps, h, ys, o3, o4, o5, rfl, ha', hR, hh', hV, hne, hfr, hnd, e⟩
    obtain ⟨d, hd, rx⟩ := hA.get hx
    obtain ⟨c, hc, rfl⟩ := get_cue hd
    have rx' : Rp H' c.py x := rx.ex e
    have hcok := (hok.mem c (List.mem_of_getElem? hc)).2
    wtm_at "go"
    refine r_ix rx' ix1 fun y ry => ?_
    refine r_dict ry hcok.ents.bounds fun p kvs H5 hp e5 hp5 hD5 => ?_
    wtm_at "go"
    refine ⟨12, rfl, by decide, by decide, lc_rps0 walk_rngF (rowPy (run (endF row0 (cs.take i)) c.ents)) (by rw [rowPy_length]; rfl) (by decide) (fun _ => rfl) (fun _ _ => trivial) ?_ ?_⟩
    · intro j y H6 d Q' hy hd e6 qq
      subst hy
      have hj : j < 12 := by
        have := (List.getElem?_eq_some_iff.mp hd).1
        rwa [rowPy_length] at this
      have hd' : d = (run (endF row0 (cs.take i)) c.ents j).py := by
        simp only [rowPy, List.getElem?_map] at hd
        rw [List.getElem?_range hj] at hd
        exact (Option.some.inj hd).symm
      subst hd'
      show tDGet2 _ _ _ [some (.ref A), some (.ref a), some (.ref h), some x, some (.ref p), some (.int (0 + (j : Nat)))] H6 Q'
      wtm_at "go"
      refine ⟨p, rfl, isD_of (e6.get0 hp5), ?_⟩
      wtm_at "go"
      refine r_ixrow (e6.get0 (e5.get0 hh')) ((hV.ex e5).ex e6) (by omega) (by omega) fun w rw_ => ?_
      rw [show ((0 : Int) + (j : Nat)).toNat = j by omega] at rw_
      refine ⟨_, (show V.int (0 + (j : Nat)) = kV (.inl (j : Int)) by show V.int (0 + (j : Nat)) = V.int (j : Int); rw [Int.zero_add]) ▸ DGet.k (e6.get0 hp5), ?_⟩
      refine qq _ H6 .refl ?_
      unfold run
      cases z : look c.ents j with
      | none => rw [hD5.no j hj z]; exact rw_
      | some s =>
        obtain ⟨x, a, b⟩ := (hD5.ex e6).yes j hj s z
        rw [a]; exact b
    · intro D acc H6 hD hacc e6 hA6
      have hV6 := RowV.of_all hA6
      have hDa : D ≠ a := fun z => by rw [z, e5.get0 ha'] at hD; cases hD
      have hDp : D ∉ ps := fun z => by obtain ⟨zs, hz⟩ := (hR.ex0 e5).alive z; rw [hz] at hD; cases hD
      have hD0 : H D = none := e.al _ (e5.al _ hD)
      have e56 := e5.trans e6
      wtm_at "go"
      refine ⟨tyL (e56.get0 ha'), ?_⟩
      wtm_at "go"
      have hl : ps.length ≤ 1000 := by
        rw [hR.1, rowsF_length, List.length_take]; omega
      refine m_app (e56.get0 ha') (by simp; omega) fun H7 e7 ha7 => ?_
      wtm_at "go"
      refine ⟨ps ++ [D], D, acc, _, _, _, rfl, by simpa using ha7, ?_, e7.get1 hDa hacc, ?_, hDa, ?_, ?_, (e.trans e56).loc1 e7 ha⟩
      · rw [take_snoc hc, rowsF_snoc]
        exact ((hR.ex0 e56).ex1 e7 (fun z => (List.nodup_cons.mp hnd).1 z)).snoc (e7.get1 hDa hacc) (hV6.ex e7)
      · rw [take_snoc hc, endF_snoc]; exact hV6.ex e7
      · intro p hp
        rcases List.mem_cons.mp hp with rfl | hp
        · exact ha
        · rcases List.mem_append.mp hp with hp | hp
          · exact hfr p (by simp [hp])
          · rw [List.mem_singleton.mp hp]; exact hD0
      · rw [← List.cons_append, List.nodup_append]
        refine ⟨hnd, by simp, fun p hp r hr => ?_⟩
        rw [List.mem_singleton.mp hr]
        rcases List.mem_cons.mp hp with rfl | hp
        · exact hDa.symm
        · exact fun z => hDp (z ▸ hp)
  · rintro σ H' ⟨ps, h, ys, o3, o4, o5, rfl, ha', hR, hh', hV, hne, hfr, hnd, e⟩
    wtm_at "go"
    rw [hA.length, List.length_map, List.take_length] at hR
    exact q a ps H' hfr hnd e ha' hR
end Lc
/-! P8: edits. -/
namespace Lc
open PySem PySem.Spec PyProof.Rows L2
structure Edit where
  num : Int
  light : Int
  src : Option Src
def optPy : Option Src → PyData
  | none => .none
  | some s => s.py
def Edit.py (e : Edit) : PyData := .tuple [.int e.num, .int e.light, optPy e.src]
structure Edit.Ok (cs : List Cue) (e : Edit) : Prop where
  num : ∃ c ∈ cs, c.num = e.num
  light : 0 ≤ e.light ∧ e.light ≤ 11
  src : ∀ s, e.src = some s → s.Ok
/-- which cue has a number -/
def placeOf (cs : List Cue) (n : Int) : Nat := cs.findIdx fun c => decide (c.num = n)
theorem place_at {cs : List Cue} {k : Nat} {c : Cue} (hok : CuesOk (-1) cs) (h : cs[k]? = some c) : placeOf cs c.num = k := by
  unfold placeOf
  have hx : ∃ x ∈ cs, decide (x.num = c.num) = true := ⟨c, List.mem_of_getElem? h, by simp⟩
  have hj : (cs.findIdx fun d => decide (d.num = c.num)) < cs.length := List.findIdx_lt_length_of_exists hx
  have hp := List.findIdx_getElem (w := hj)
  have hg : cs[cs.findIdx fun d => decide (d.num = c.num)]? = some cs[cs.findIdx fun d => decide (d.num = c.num)] := by simp [hj]
  exact hok.inj hg h (by simpa using hp)
theorem place_of {cs : List Cue} {n : Int} (hok : CuesOk (-1) cs) (h : ∃ c ∈ cs, c.num = n) : ∃ c, cs[placeOf cs n]? = some c ∧ c.num = n := by
  obtain ⟨c, hc, rfl⟩ := h
  obtain ⟨k, hk, e⟩ := List.mem_iff_getElem.mp hc
  have : cs[k]? = some c := by rw [List.getElem?_eq_getElem hk, e]
  exact ⟨c, by rw [place_at hok this]; exact this, rfl⟩
theorem RpAll.ints_inv {H : Hp} : ∀ {is : List Int} {xs : List V}, RpAll H (is.map .int) xs → xs = is.map V.int
  | [], _, h => h.nil_inv
  | i :: is, _, h => by
    obtain ⟨x, r, rfl, h1, h2⟩ := h.cons_inv
    simp only [Rp] at h1
    subst h1
    rw [RpAll.ints_inv h2]; rfl
theorem inV_nums {cs : List Cue} {n : Int} (h : ∃ c ∈ cs, c.num = n) : inV (.int n) ((cs.map Cue.num).map V.int) = true := by
  obtain ⟨c, hc, rfl⟩ := h
  unfold inV
  rw [List.any_eq_true]
  exact ⟨.int c.num, List.mem_map_of_mem (List.mem_map_of_mem hc), by simp [eqV]⟩
theorem flat_ints (is : List Int) : (is.map V.int).all flatV = true := by
  rw [List.all_eq_true]
  intro x hx
  obtain ⟨i, _, rfl⟩ := List.mem_map.mp hx
  rfl
theorem opt_lay (o : Option Src) : (optPy o).canLay0 = true ∧ (optPy o).depth ≤ 1 := by
  cases o with
  | none => exact ⟨rfl, Nat.zero_le _⟩
  | some s => exact s.lay
theorem shaped_opt (o : Option Src) : SeqAt.shaped (optPy o) = true := shaped_of (opt_lay o).1 (by have := (opt_lay o).2; omega)
/-! ### need_edits -/
def sp_need_edits (K : PySem.W.Frag) : Sp := fun vs H Q _ => ∃ (v : V) (ed : Addr) (xs : List V) (cs : List Cue) (es : List Edit), vs = [v, .ref ed] ∧ Rp H (cuesPy cs) v ∧ CuesOk (-1) cs ∧ cs.length ≤ 1000 ∧ H ed = some (.lst xs) ∧ RpAll H (es.map Edit.py) xs ∧ es.length ≤ 1000 ∧ (∀ e ∈ es, Edit.Ok cs e) ∧
  ∀ a H', H a = none → Ex [] H H' → H' a = some (.lst ((es.map fun e => ((placeOf cs e.num : Nat) : Int)).map V.int)) → Q (.ref a) H'
def N_need_edits : List Str := ["cues", "edits", "numbers", "number", "one", "good", "cue"]
def t_need_edits (r_BadEdit : TA → TS) (K : PySem.W.Frag) (E : XK) : TS :=
  (tSeq (tAsg (tLc (iTup K (tVar 0)) (gName 6) tYes (tOp (oIx K) (tVar 6) (tC (.int 0))) [6]) (gName 2))
  (tSeq (tFor (iEnumA K (tCons (tVar 1) tNil)) (gTup K 2 (gCons (gName 3) (gCons (gName 4) gNil)))
    (tSeq (tAsg (tAndV (tCB (oIsi K) (tCons (tVar 4) (tCons (tC (.ty "tuple")) tNil))) (tAndV (tOp (oEq K) (tCB (oLen K) (tCons (tVar 4) tNil)) (tC (.int 3))) (tAndV (tCall (sp_is_number K) [] E (tCons (tOp (oIx K) (tVar 4) (tC (.int 0))) (tCons (tC (.int 0)) (tCons (tC (.int 999)) tNil)))) (tOp (oIn K) (tOp (oIx K) (tVar 4) (tC (.int 0))) (tVar 2))))) (gName 5))
  (tIfS (tOr (tNot (tB (tVar 5))) (tOr (tNot (tB (tCall (sp_is_number K) [] E (tCons (tOp (oIx K) (tVar 4) (tC (.int 1))) (tCons (tC (.int 0)) (tCons (tOp oSub (tC (.int 12)) (tC (.int 1))) tNil)))))) (tNot (tOr (tTest (tOp oIsN (tOp (oIx K) (tVar 4) (tC (.int 2))) (tC .non))) (tB (tCall (sp_is_what K) [] E (tCons (tOp (oIx K) (tVar 4) (tC (.int 2))) tNil))))))) (r_BadEdit (tCons (tVar 3) tNil)) tNext)))
  (tRet (tLc (iList K (tVar 1)) (gName 4) tYes (tBM K "list" (rIndex K) (tVar 2) (tCons (tOp (oIx K) (tVar 4) (tC (.int 0))) tNil)) [4]))))
theorem get_edit {es : List Edit} {i : Nat} {d : PyData} (h : (es.map Edit.py)[i]? = some d) : ∃ c, es[i]? = some c ∧ d = Edit.py c := by
  rw [List.getElem?_map] at h
  cases e : es[i]? with
  | none => rw [e] at h; cases h
  | some c => rw [e] at h; exact ⟨c, rfl, (Option.some.inj h).symm⟩
theorem pure_need_edits {K : PySem.W.Frag} (r_BadEdit : TA → TS) (vs : List V) (H : Hp) (Q : VK) (E : XK) (h : sp_need_edits K vs H Q E) : t_need_edits r_BadEdit K E { nx := fun _ H' => Q .non H', rt := Q } (start N_need_edits vs) H := by
  obtain ⟨v, ed, xs, cs, es, rfl, r, hok, hlen, hed, hE, hel, heo, q⟩ := h
  obtain ⟨A, ys, rfl, hT, hA⟩ := Rp.tup_inv r
  have hl := hA.length
  rw [List.length_map] at hl
  show t_need_edits _ K E _ [some (.ref A), some (.ref ed), none, none, none, none, none] H
  unfold t_need_edits
  wtm_at "go"
  refine ⟨A, rfl, ⟨ys, hT.sq⟩, lc_rps0 (walk_tup (xs := ys)) ((cs.map Cue.num).map .int) (by simp [hl]) (by omega) (fun _ => rfl) (fun H' e => (e.isT hT).sq) ?_ ?_⟩
  · intro j y H' d Q' hy hd e qq
    obtain ⟨d2, hd2, ry⟩ := hA.get hy
    obtain ⟨c, hc, rfl⟩ := get_cue hd2
    have hd' : d = .int c.num := by
      rw [List.getElem?_map, List.getElem?_map, hc] at hd
      exact (Option.some.inj hd).symm
    subst hd'
    show tOp _ _ _ [some (.ref A), some (.ref ed), none, none, none, none, some y] H' Q'
    wtm_at "go"
    refine r_ix (ry.ex e) ix0 fun z rz => ?_
    exact qq z H' .refl rz
  intro D acc H1 hD ha1 e1 hA1
  have hacc := hA1.ints_inv
  subst hacc
  wtm_at "go"
  have hxl := hE.length
  rw [List.length_map] at hxl
  refine ⟨ed, xs, rfl, .inl ⟨SqL.of (e1.get0 hed), for_enumL (K := K) (a := ed) (xs := xs) (fun i σ H' => ∃ (o3 o4 o5 : Option V), σ = [some (.ref A), some (.ref ed), some (.ref D), o3, o4, o5, none] ∧ Ex [] H1 H') ⟨_, _, _, rfl, .refl⟩ ?_ ?_ ?_⟩⟩
  · rintro i σ H' _ ⟨o3, o4, o5, rfl, e⟩
    exact SqL.of (e.get0 (e1.get0 hed))
  · rintro i x σ H2 H3 hx ⟨o3, o4, o5, rfl, e2⟩ e3
    obtain ⟨d, hd, rx⟩ := hE.get hx
    obtain ⟨en, hen, rfl⟩ := get_edit hd
    have hen_ok := heo en (List.mem_of_getElem? hen)
    have e13 := (e1.trans e2).trans e3
    have rx := rx.ex e13
    obtain ⟨cc, hcc, hcn⟩ := hen_ok.num
    have hccok := (hok.mem cc hcc).2.num
    dsimp only [List.set]
    wtm_at "go"
    refine r_tup rx ?_
    wtm_at "go"
    refine b_t rfl ?_
    wtm_at "go"
    refine r_len rx ?_
    wtm_at "go"
    refine d_t rfl ?_
    wtm_at "go"
    refine r_ix rx ix0 fun x0 r0 => ?_
    wtm_at "go"
    refine ⟨x0, _, 0, 999, rfl, r0, ?_⟩
    refine ⟨true, by simp [isNum]; omega, ?_⟩
    refine b_t rfl ?_
    wtm_at "go"
    refine r_ix rx ix0 fun x1 r1 => ?_
    simp only [Rp] at r1
    subst r1
    wtm_at "go"
    refine .inl ⟨D, _, rfl, .inl (SqL.of ((e2.trans e3).get0 ha1)), rfl, flat_ints _, ?_⟩
    rw [if_neg Bool.false_ne_true, inV_nums hen_ok.num]
    wtm_at "go"
    refine b_f rfl ?_
    wtm_at "go"
    refine r_ix rx ix1 fun x2 r2 => ?_
    wtm_at "go"
    refine ⟨x2, _, 0, 12 - 1, rfl, r2, ?_⟩
    wtm_at "go"
    refine b_f (by have := hen_ok.light; simp [isNum]; omega) ?_
    wtm_at "go"
    refine r_ix rx ix2 fun x3 r3 => ?_
    wtm_at "go"
    have fin : ∃ (o3 o4 o5 : Option V), [some (V.ref A), some (V.ref ed), some (V.ref D), some (V.int (i : Nat)), some x, some (V.bl true), none] = [some (V.ref A), some (V.ref ed), some (V.ref D), o3, o4, o5, none] ∧ Ex [] H1 H3 := ⟨_, _, _, rfl, e2.trans e3⟩
    refine d_2 (fun hn => ?_) (fun hn => ?_)
    · wtm_at "go"
      refine b_f rfl ?_
      wtm_at "go"
      exact fin
    · wtm_at "go"
      refine r_ix rx ix2 fun x4 r4 => ?_
      wtm_at "go"
      refine ⟨x4, _, rfl, r4, shaped_opt _, ?_⟩
      wtm_at "go"
      cases z : en.src with
      | none =>
        rw [z] at r3
        simp only [optPy, Rp] at r3
        exact absurd r3 hn
      | some s =>
        refine b_f (by rw [show optPy (some s) = s.py from rfl, Src.what (hen_ok.src s z)]; rfl) ?_
        wtm_at "go"
        exact fin
  · rintro σ H2 ⟨o3, o4, o5, rfl, e2⟩
    wtm_at "go"
    refine ⟨ed, rfl, ⟨xs, SqL.of (e2.get0 (e1.get0 hed))⟩, lc_rps0 (walk_list (xs := xs)) ((es.map fun e => ((placeOf cs e.num : Nat) : Int)).map .int) (by simp [hxl]) (by omega) (fun _ => rfl) (fun H' e => SqL.of (e.get0 (e2.get0 (e1.get0 hed)))) ?_ ?_⟩
    · intro j y H' d Q' hy hd e qq
      obtain ⟨d2, hd2, ry⟩ := hE.get hy
      obtain ⟨en, hen, rfl⟩ := get_edit hd2
      have hen_ok := heo en (List.mem_of_getElem? hen)
      have hd' : d = .int (placeOf cs en.num : Nat) := by
        rw [List.getElem?_map, List.getElem?_map, hen] at hd
        exact (Option.some.inj hd).symm
      subst hd'
      have e12 := (e1.trans e2).trans e
      show tBM _ _ _ _ _ [some (.ref A), some (.ref ed), some (.ref D), o3, some y, o5, none] H' Q'
      wtm_at "go"
      have hD' := (e2.trans e).get0 ha1
      refine ⟨tyL hD', ?_⟩
      wtm_at "go"
      refine r_ix (ry.ex e12) ix0 fun z rz => ?_
      simp only [Rp] at rz
      subst rz
      wtm_at "go"
      obtain ⟨c, hc, hcn⟩ := place_of hok hen_ok.num
      refine ⟨D, _, .int en.num, placeOf cs en.num, .int en.num, rfl, rfl, SqL.of hD', rfl, flat_ints _, ?_, by simp [eqV], ?_, qq _ H' .refl .int⟩
      · rw [List.getElem?_map, List.getElem?_map, hc, ← hcn]; rfl
      · intro m z' hm hz'
        rw [List.getElem?_map, List.getElem?_map] at hz'
        cases w : cs[m]? with
        | none => rw [w] at hz'; cases hz'
        | some c' =>
          rw [w] at hz'
          cases hz'
          have : c'.num ≠ en.num := fun q => by
            have := hok.inj w hc (q.trans hcn.symm)
            omega
          simpa [eqV] using this
    · intro D2 acc H3 hD2 ha3 e3 hA3
      have hacc := hA3.ints_inv
      subst hacc
      exact q D2 H3 ((e1.trans e2).al _ hD2) ((e1.trans e2).trans e3) ha3
/-! ### changed -/
def Edit.on (e : Edit) (f : Nat → Option Src) : Nat → Option Src := fun l => if l = e.light.toNat then e.src else f l
def editsF (n : Int) (es : List Edit) (f : Nat → Option Src) : Nat → Option Src := es.foldl (fun f e => if e.num = n then e.on f else f) f
theorem editsF_snoc {n : Int} {es : List Edit} {e : Edit} {f : Nat → Option Src} : editsF n (es ++ [e]) f = if e.num = n then e.on (editsF n es f) else editsF n es f := by simp [editsF, List.foldl_append]
def changeM (cs : List Cue) (es : List Edit) : List Cue := cs.map fun c => c.with (editsF c.num es (look c.ents))
/-- dicts, each of its own -/
def DictsAt (H : Hp) (ps : List Addr) (fs : List (Nat → Option Src)) : Prop := ps.length = fs.length ∧ ∀ (i : Nat) f, fs[i]? = some f → ∃ p kvs, ps[i]? = some p ∧ H p = some (.dK kvs) ∧ DRep H kvs f
theorem DictsAt.ex {W : List Addr} {H H' : Hp} {ps : List Addr} {gs : List (Nat → Option Src)} (e : Ex W H H') (n : ∀ p ∈ ps, p ∉ W) (h : DictsAt H ps gs) : DictsAt H' ps gs :=
  ⟨h.1, fun i g hg => let ⟨p, xs, a, b, c⟩ := h.2 i g hg; ⟨p, xs, a, e.get (n p (List.mem_of_getElem? a)) b, c.ex e⟩⟩
theorem DictsAt.ex0 {H H' : Hp} {ps : List Addr} {gs : List (Nat → Option Src)} (e : Ex [] H H') (h : DictsAt H ps gs) : DictsAt H' ps gs := h.ex e fun _ _ z => nomatch z
theorem DictsAt.nil {H : Hp} : DictsAt H [] [] := ⟨rfl, fun i g h => by simp at h⟩
theorem DictsAt.snoc {H : Hp} {ps : List Addr} {gs : List (Nat → Option Src)} {p : Addr} {xs : List (Key × V)} {g : Nat → Option Src} (h : DictsAt H ps gs) (hp : H p = some (.dK xs)) (r : DRep H xs g) : DictsAt H (ps ++ [p]) (gs ++ [g]) := by
  refine ⟨by simp [h.1], fun i g' hg => ?_⟩
  by_cases c : i < gs.length
  · rw [List.getElem?_append_left c] at hg
    obtain ⟨p', xs', a, b⟩ := h.2 i g' hg
    exact ⟨p', xs', by rw [List.getElem?_append_left (by rw [h.1]; exact c)]; exact a, b⟩
  · have hi : i = gs.length := by
      have := (List.getElem?_eq_some_iff.mp hg).1
      simp at this; omega
    subst hi
    have e : g' = g := by
      rw [List.getElem?_append_right (Nat.le_refl _)] at hg
      simpa using hg.symm
    subst e
    exact ⟨p, xs, by rw [← h.1, List.getElem?_append_right (Nat.le_refl _)]; simp, hp, r⟩
theorem DictsAt.alive {H : Hp} {ps : List Addr} {gs : List (Nat → Option Src)} (h : DictsAt H ps gs) {p : Addr} (hp : p ∈ ps) : ∃ xs, H p = some (.dK xs) := by
  obtain ⟨i, hi, e⟩ := List.mem_iff_getElem.mp hp
  have hi' : i < gs.length := by rw [← h.1]; exact hi
  obtain ⟨q, xs, a, b, _⟩ := h.2 i gs[i] (by simp [hi'])
  rw [List.getElem?_eq_getElem hi, e] at a
  cases a
  exact ⟨xs, b⟩
theorem DictsAt.put {H H' : Hp} {ps : List Addr} {gs : List (Nat → Option Src)} {k : Nat} {p : Addr} {xs : List (Key × V)} {g : Nat → Option Src} (h : DictsAt H ps gs) (nd : ps.Nodup) (hk : ps[k]? = some p) (e : Ex [p] H H') (hp : H' p = some (.dK xs)) (r : DRep H' xs g) : DictsAt H' ps (gs.set k g) := by
  refine ⟨by simp [h.1], fun i g' hg => ?_⟩
  by_cases c : k = i
  · subst c
    have hkl : k < gs.length := by rw [← h.1]; exact (List.getElem?_eq_some_iff.mp hk).1
    rw [List.getElem?_set_self hkl] at hg
    cases hg
    exact ⟨p, xs, hk, hp, r⟩
  · rw [List.getElem?_set_ne c] at hg
    obtain ⟨p', xs', a, b, d⟩ := h.2 i g' hg
    have hne : p' ≠ p := fun z => by
      subst z
      exact c (nd_ix nd hk a)
    exact ⟨p', xs', a, e.get1 hne b, d.ex e⟩
def sp_changed (K : PySem.W.Frag) : Sp := fun vs H Q _ => ∃ (v : V) (ed : Addr) (xs : List V) (cs : List Cue) (es : List Edit), vs = [v, .ref ed] ∧ Rp H (cuesPy cs) v ∧ CuesOk (-1) cs ∧ cs.length ≤ 40 ∧ H ed = some (.lst xs) ∧ RpAll H (es.map Edit.py) xs ∧ es.length ≤ 1000 ∧ (∀ e ∈ es, Edit.Ok cs e) ∧
  ∀ w H', Ex [] H H' → Rp H' (cuesPy (changeM cs es)) w → Q w H'
def N_changed : List Str := ["cues", "edits", "places", "found", "place", "one", "cue", "k"]
def t_changed (c_need_cues : Sp) (c_need_edits : Sp) (K : PySem.W.Frag) (E : XK) : TS :=
  (tSeq (tDrop (tCall c_need_cues [] E (tCons (tVar 0) tNil)))
  (tSeq (tAsg (tCall c_need_edits [] E (tCons (tVar 0) (tCons (tVar 1) tNil))) (gName 2))
  (tSeq (tAsg (tLc (iTup K (tVar 0)) (gName 6) tYes (tCB (oDict K) (tCons (tOp (oIx K) (tVar 6) (tC (.int 1))) tNil)) [6]) (gName 3))
  (tSeq (tFor (iZip K (tCons (tVar 2) (tCons (tVar 1) tNil))) (gTup K 2 (gCons (gName 4) (gCons (gName 5) gNil)))
    (tIfS (tTest (tOp oIsN (tOp (oIx K) (tVar 5) (tC (.int 2))) (tC .non))) (tDrop (tDPopF (tOp (oIx K) (tVar 3) (tVar 4)) (tOp (oIx K) (tVar 5) (tC (.int 1))) (tC .non))) (tAsg (tOp (oIx K) (tVar 5) (tC (.int 2))) (gSub (tOp (oIx K) (tVar 3) (tVar 4)) (tOp (oIx K) (tVar 5) (tC (.int 1))) oSet))))
  (tRet (tCB (oTuple K) (tCons (tLc (iRng1 (tCons (tCB (oLen K) (tCons (tVar 0) tNil)) tNil)) (gName 7) tYes (tCall (sp_with_entries K) [] E0 (tCons (tOp (oIx K) (tVar 0) (tVar 7)) (tCons (tOp (oIx K) (tVar 3) (tVar 7)) tNil))) [7]) tNil)))))))
theorem step_edits {cs : List Cue} {es : List Edit} {i : Nat} {e : Edit} {c : Cue} (hok : CuesOk (-1) cs) (he : es[i]? = some e) (hc : cs[placeOf cs e.num]? = some c) (hn : c.num = e.num) :
    (cs.map fun c => editsF c.num (es.take i) (look c.ents)).set (placeOf cs e.num) (e.on (editsF c.num (es.take i) (look c.ents))) = cs.map fun c => editsF c.num (es.take (i + 1)) (look c.ents) := by
  refine List.ext_getElem? fun k => ?_
  by_cases z : placeOf cs e.num = k
  · subst z
    rw [List.getElem?_set_self (by rw [List.length_map]; exact (List.getElem?_eq_some_iff.mp hc).1), List.getElem?_map, hc]
    simp only [Option.map_some]
    rw [take_snoc he, editsF_snoc, if_pos hn.symm]
  · rw [List.getElem?_set_ne z, List.getElem?_map, List.getElem?_map]
    cases w : cs[k]? with
    | none => rfl
    | some c' =>
      simp only [Option.map_some]
      rw [take_snoc he, editsF_snoc, if_neg]
      exact fun q => z (hok.inj hc w (hn.trans q))
theorem pure_changed {K : PySem.W.Frag} {c_need_cues c_need_edits : Sp} (h1 : Le (sp_need_cues K) c_need_cues) (h2 : Le (sp_need_edits K) c_need_edits) (vs : List V) (H : Hp) (Q : VK) (E : XK) (h : sp_changed K vs H Q E) : t_changed c_need_cues c_need_edits K E { nx := fun _ H' => Q .non H', rt := Q } (start N_changed vs) H := by
  obtain ⟨v, ed, xs, cs, es, rfl, r, hok, hlen, hed, hE, hel, heo, q⟩ := h
  show t_changed _ _ K E _ [some v, some (.ref ed), none, none, none, none, none, none] H
  unfold t_changed
  wtm_at "go"
  refine h1 _ _ _ _ (ok_need_cues r hok hlen fun H1 e1 => ?_)
  wtm_at "go"
  refine h2 _ _ _ _ ⟨v, ed, xs, cs, es, rfl, r.ex e1, hok, by omega, e1.get0 hed, hE.ex e1, hel, heo, fun pl H2 hpl e2 ha2 => ?_⟩
  have e12 := e1.trans e2
  obtain ⟨A, ys, rfl, hT, hA⟩ := Rp.tup_inv (r.ex e12)
  have hl := hA.length
  rw [List.length_map] at hl
  wtm_at "go"
  refine ⟨A, rfl, ⟨ys, hT.sq⟩, lc_tpl (a := A) (xs := ys) (fun D k acc H' => ∃ ps : List Addr, acc = ps.map V.ref ∧ (∀ p ∈ ps, H2 p = none) ∧ ps.Nodup ∧ D ∉ ps ∧ DictsAt H' ps ((cs.take k).map fun c => look c.ents) ∧ Ex [] H2 H') ?_ ?_ ?_ ?_⟩
  · exact fun D H' hD e _ => ⟨[], rfl, fun p hp => (nomatch hp), List.nodup_nil, by simp, by simpa using DictsAt.nil, e⟩
  · rintro D k acc H' hD hk ⟨ps, _, _, _, _, _, e⟩
    exact (e.isT hT).sq
  · rintro D k acc H' y hD hy hacc ⟨ps, rfl, hfr, hnd, hDp, hds, e⟩
    obtain ⟨d2, hd2, ry⟩ := hA.get hy
    obtain ⟨c, hc, rfl⟩ := get_cue hd2
    have hcok := (hok.mem c (List.mem_of_getElem? hc)).2
    have hkl : k < cs.length := (List.getElem?_eq_some_iff.mp hc).1
    wtm_at "go"
    refine ⟨rfl, ?_⟩
    wtm_at "go"
    refine b_t rfl ?_
    wtm_at "go"
    refine r_ix (ry.ex e) ix1 fun z rz => ?_
    refine r_dict rz hcok.ents.bounds fun p kvs H3 hp e3 hp3 hD3 => ?_
    have hpD : p ≠ D := fun w => by rw [w, hacc] at hp; cases hp
    have hpp : p ∉ ps := fun w => by obtain ⟨zs, hz⟩ := hds.alive w; rw [hz] at hp; cases hp
    have hpl := hds.1
    rw [List.length_map, List.length_take] at hpl
    refine LP.add (e3.get0 hacc) (by simp; omega) fun H4 e4 ha4 => ?_
    refine ⟨ps ++ [p], by simp, ?_, ?_, ?_, ?_, (e.trans e3).loc1 e4 hD⟩
    · intro w hw
      rcases List.mem_append.mp hw with hw | hw
      · exact hfr w hw
      · rw [List.mem_singleton.mp hw]; exact e.al _ hp
    · rw [List.nodup_append]
      exact ⟨hnd, by simp, fun a ha b hb => by rw [List.mem_singleton.mp hb]; exact fun w => hpp (w ▸ ha)⟩
    · rw [List.mem_append]
      rintro (w | w)
      · exact hDp w
      · exact hpD (List.mem_singleton.mp w).symm
    · rw [take_snoc hc, List.map_append]
      refine ((hds.ex0 e3).ex e4 fun w hw z => ?_).snoc (e4.get1 hpD hp3) (hD3.ex e4)
      rw [List.mem_singleton.mp z] at hw
      exact hDp hw
  · rintro D acc H3 hD hacc ⟨ps, rfl, hfr, hnd, hDp, hds, e⟩
    rw [hl, List.take_length] at hds
    have e13 := e12.trans e
    wtm_at "go"
    have hxl := hE.length
    rw [List.length_map] at hxl
    refine ⟨pl, ed, _, xs, rfl, SqL.of (e.get0 ha2), SqL.of (e13.get0 hed), for_zip2 (K := K) (a := pl) (b := ed) (xs := (es.map fun e => ((placeOf cs e.num : Nat) : Int)).map V.int) (ys := xs) (by rw [List.length_map, List.length_map]; exact hxl.symm) (fun i σ H' => ∃ (o4 o5 : Option V), σ = [some (.ref A), some (.ref ed), some (.ref pl), some (.ref D), o4, o5, none, none] ∧
      DictsAt H' ps (cs.map fun c => editsF c.num (es.take i) (look c.ents)) ∧ Ex ps H3 H') ?_ ?_ ?_ ?_⟩
    · exact ⟨_, _, rfl, hds, .refl⟩
    · rintro i σ H' _ ⟨o4, o5, rfl, _, e4⟩
      have n1 : pl ∉ ps := fun w => by have := hfr _ w; rw [ha2] at this; cases this
      have n2 : ed ∉ ps := fun w => by have := hfr _ w; rw [e12.get0 hed] at this; cases this
      exact ⟨SqL.of (e4.get n1 (e.get0 ha2)), SqL.of (e4.get n2 (e13.get0 hed))⟩
    · rintro i x y σ H4 H5 hx hy ⟨o4, o5, rfl, hd4, e4⟩ e5
      obtain ⟨d2, hd2, ry⟩ := hE.get hy
      obtain ⟨en, hen, rfl⟩ := get_edit hd2
      have hen_ok := heo en (List.mem_of_getElem? hen)
      have hx' : x = .int (placeOf cs en.num : Nat) := by
        rw [List.getElem?_map, List.getElem?_map, hen] at hx
        exact (Option.some.inj hx).symm
      subst hx'
      obtain ⟨c, hc, hcn⟩ := place_of hok hen_ok.num
      have hd5 := hd4.ex0 e5
      have ry5 := ((ry.ex e13).ex e4).ex e5
      obtain ⟨p, kvs, hp, hpk, hDr⟩ := hd5.2 (placeOf cs en.num) (editsF c.num (es.take i) (look c.ents)) (by rw [List.getElem?_map, hc]; rfl)
      have hDps : D ∉ ps := hDp
      have hDl : H5 D = some (.lst (ps.map V.ref)) := e5.get0 (e4.get hDps hacc)
      have hix : atI (ps.map V.ref) ((placeOf cs en.num : Nat) : Int) = some (.ref p) := atI_in (by omega) (by rw [Int.toNat_natCast, List.getElem?_map, hp]; rfl)
      have hpm := List.mem_of_getElem? hp
      have hl0 := hen_ok.light
      have hle : ((en.light.toNat : Nat) : Int) = en.light := by omega
      have e35 : Ex ps H3 H5 := e4.trans e5.any
      have fin : ∀ H6 kvs', Ex [p] H5 H6 → H6 p = some (.dK kvs') → DRep H6 kvs' (en.on (editsF c.num (es.take i) (look c.ents))) → DictsAt H6 ps (cs.map fun c => editsF c.num (es.take (i + 1)) (look c.ents)) ∧ Ex ps H3 H6 := by
        intro H6 kvs' e6 hp6 hD6
        refine ⟨?_, e35.trans (e6.mono fun b hb => by rw [List.mem_singleton.mp hb]; exact hpm)⟩
        rw [← step_edits hok hen hc hcn]
        exact hd5.put hnd hp e6 hp6 hD6
      dsimp only [List.set]
      wtm_at "go"
      refine r_ix ry5 ix2 fun x2 r2 => ?_
      wtm_at "go"
      refine d_2 (fun hn => ?_) (fun hn => ?_)
      · subst hn
        have hsn : en.src = none := by
          cases z : en.src with
          | none => rfl
          | some s => rw [z] at r2; cases s <;> simp [optPy, Src.py, Rp] at r2
        wtm_at "go"
        refine a_ixL hDl hix ?_
        refine ⟨p, rfl, isD_of hpk, ?_⟩
        wtm_at "go"
        refine r_ix ry5 ix1 fun x1 r1 => ?_
        simp only [Rp] at r1
        subst r1
        wtm_at "go"
        have hon : en.on (editsF c.num (es.take i) (look c.ents)) = fun j => if j = en.light.toNat then none else editsF c.num (es.take i) (look c.ents) j := by unfold Edit.on; rw [hsn]
        refine ⟨kvs, .inl en.light, hpk, rfl, fun w hw H6 e6 hp6 => ?_, fun hw => ?_⟩
        · have := (hDr.ex e6).drop (k := en.light.toNat)
          rw [hle] at this
          exact ⟨_, _, rfl, fin H6 _ e6 hp6 (by rw [hon]; exact this)⟩
        · refine ⟨_, _, rfl, fin H5 _ .refl hpk ?_⟩
          rw [hon]
          refine hDr.congr fun k hk => ?_
          by_cases z : k = en.light.toNat
          · rw [if_pos z, z]
            cases w : editsF c.num (es.take i) (look c.ents) en.light.toNat with
            | none => rfl
            | some s =>
              obtain ⟨x, a, _⟩ := hDr.yes en.light.toNat (by omega) s w
              rw [hle, hw] at a; cases a
          · rw [if_neg z]
      · obtain ⟨s, hs⟩ : ∃ s, en.src = some s := by
          cases z : en.src with
          | none => rw [z] at r2; simp only [optPy, Rp] at r2; exact absurd r2 hn
          | some s => exact ⟨s, rfl⟩
        wtm_at "go"
        refine r_ix ry5 ix2 fun x3 r3 => ?_
        rw [hs] at r3
        wtm_at "go"
        refine a_ixL hDl hix ?_
        wtm_at "go"
        refine r_ix ry5 ix1 fun x1 r1 => ?_
        simp only [Rp] at r1
        subst r1
        refine .inr ⟨p, kvs, .inl en.light, rfl, rfl, hpk, z_lt (by have := hDr.length; omega), fun H6 e6 hp6 => ?_⟩
        have := (hDr.ex e6).put (k := en.light.toNat) (s := s) (x := x3) (by omega) ((show Rp H5 s.py x3 from r3).ex e6)
        rw [hle] at this
        refine ⟨_, _, rfl, fin H6 _ e6 hp6 ?_⟩
        unfold Edit.on
        rw [hs]; exact this
    · rintro σ H4 ⟨o4, o5, rfl, hd4, e4⟩
      rw [List.length_map, List.length_map, List.take_length] at hd4
      have hDps : D ∉ ps := hDp
      have hDl : H4 D = some (.lst (ps.map V.ref)) := e4.get hDps hacc
      have e04 : Ex [] H H4 := e13.sub e4 fun l hl => e12.al _ (hfr l hl)
      have r4 := r.ex e04
      wtm_at "go"
      refine r_lenc r4 ?_
      wtm_at "go"
      refine ⟨_, rfl, by omega, by omega, lc_rps0 walk_rngF ((changeM cs es).map Cue.py) (by simp [changeM]) (by omega) (fun _ => rfl) (fun _ _ => trivial) ?_ ?_⟩
      · intro j y H5 d Q' hy hd e5 qq
        subst hy
        have hj : j < cs.length := by
          have := (List.getElem?_eq_some_iff.mp hd).1
          simpa [changeM] using this
        have hc : cs[j]? = some cs[j] := by simp [hj]
        have hd' : d = (cs[j].with (editsF cs[j].num es (look cs[j].ents))).py := by
          unfold changeM at hd
          rw [List.getElem?_map, List.getElem?_map, hc] at hd
          exact (Option.some.inj hd).symm
        subst hd'
        obtain ⟨p, kvs, hp, hpk, hDr⟩ := hd4.2 j (editsF cs[j].num es (look cs[j].ents)) (by rw [List.getElem?_map, hc]; rfl)
        have hj0 : ((0 : Int) + (j : Nat)).toNat = j := by omega
        show tCall _ _ _ _ [some (.ref A), some (.ref ed), some (.ref pl), some (.ref D), o4, o5, none, some (.int (0 + (j : Nat)))] H5 Q'
        wtm_at "go"
        refine r_ixc (c := cs[j]) (r4.ex e5) (by omega) (by rw [hj0]; exact hc) fun x rx => ?_
        wtm_at "go"
        refine a_ixL (e5.get0 hDl) (v := .ref p) (atI_in (by omega) (by rw [hj0, List.getElem?_map, hp]; rfl)) ?_
        wtm_at "go"
        exact ⟨x, p, cs[j], kvs, _, rfl, rx, e5.get0 hpk, hDr.ex e5, fun w H6 e6 hw => qq w H6 e6 hw⟩
      · intro D2 acc H5 hD2 ha5 e5 hA5
        refine r_tuple ha5 hA5 fun x H6 e6 r6 => q x H6 ((e04.trans e5).trans e6) r6
end Lc
/-! M3: lists led, tidied, blocked, changed: the mathematics. -/
namespace Lc
open PySem PySem.Spec PyProof.Rows L2
/-- nothing beyond the twelfth light -/
def Lim (g : Row) : Prop := ∀ l, 12 ≤ l → g l = .lv 0
theorem row0_lim : Lim row0 := fun _ _ => rfl
theorem run_lim {g : Row} {es : List Ent} (hg : Lim g) (h : EntsOk (-1) es) : Lim (run g es) := fun l hl => by
  unfold run
  cases e : look es l with
  | none => exact hg l hl
  | some s => have := h.look_lt e; omega
theorem endF_lim : ∀ {g : Row} {cs : List Cue} {l : Int}, Lim g → CuesOk l cs → Lim (endF g cs)
  | _, [], _, hg, _ => hg
  | g, c :: cs, _, hg, h => endF_lim (g := run g c.ents) (run_lim hg h.2.1.ents) h.2.2
theorem rows_lim {cs : List Cue} {l : Int} (h : CuesOk l cs) : ∀ g ∈ rows cs, Lim g := fun g hg => by
  obtain ⟨i, hi, e⟩ := List.mem_iff_getElem.mp hg
  have h1 : i < cs.length := by rw [← rows_length]; exact hi
  have h2 : (rows cs)[i]? = some g := by rw [List.getElem?_eq_getElem hi, e]
  rw [show rows cs = rowsF row0 cs from rfl, rowsF_get h1] at h2
  cases h2
  exact endF_lim row0_lim (h.take _)
theorem look_entsOf_out {f : Nat → Option Src} {l : Nat} (h : 12 ≤ l) : look (entsOf f) l = none := by
  unfold entsOf
  rw [look_entsR, if_neg (by omega)]
/-- a cue led stands as wished -/
theorem run_led {c : Cue} {here w : Row} (hh : Lim here) (hw : Lim w) : run here (c.with (ledF c here w)).ents = w := by
  funext l
  unfold run Cue.with
  by_cases h : l < 12
  · rw [look_entsOf h]
    unfold ledF
    by_cases z : (look c.ents l).isSome = true ∨ w l ≠ here l
    · rw [if_pos z]; rfl
    · rw [if_neg z]
      have : w l = here l := Classical.byContradiction fun q => z (.inr q)
      exact this.symm
  · rw [look_entsOf_out (by omega), Option.getD_none, hh l (by omega), hw l (by omega)]
theorem rows_led : ∀ {here : Row} {cs : List Cue} {ws : List Row}, cs.length = ws.length → Lim here → (∀ w ∈ ws, Lim w) → rowsF here (ledM here cs ws) = ws
  | _, [], [], _, _, _ => rfl
  | here, c :: cs, w :: ws, h, hh, hw => by
    have hl := hw w (by simp)
    simp only [ledM, rowsF, run_led hh hl]
    rw [rows_led (by simpa using h) hl fun x hx => hw x (by simp [hx])]
  | _, [], _ :: _, h, _, _ => by simp at h
  | _, _ :: _, [], h, _, _ => by simp at h
/-- number, up, down, follow -/
def Cue.hdr (c : Cue) : PyData := .tuple [.int c.num, .int c.up, .int c.down, folPy c.fol]
theorem with_hdr {c : Cue} {f : Nat → Option Src} : (c.with f).hdr = c.hdr := rfl
theorem led_hdr : ∀ {here : Row} {cs : List Cue} {ws : List Row}, cs.length = ws.length → (ledM here cs ws).map Cue.hdr = cs.map Cue.hdr
  | _, [], [], _ => rfl
  | _, _ :: _, _ :: _, h => by simp [ledM, led_hdr (by simpa using h), with_hdr]
  | _, [], _ :: _, h => by simp at h
  | _, _ :: _, [], h => by simp at h
theorem bare_bare (c : Cue) (f : Nat → Option Src) : (c.with f).bare = c.bare := rfl
theorem led_bare : ∀ {here : Row} {cs : List Cue} {ws : List Row}, cs.length = ws.length → (ledM here cs ws).map Cue.bare = cs.map Cue.bare
  | _, [], [], _ => rfl
  | _, _ :: _, _ :: _, h => by simp [ledM, led_bare (by simpa using h), bare_bare]
  | _, [], _ :: _, h => by simp at h
  | _, _ :: _, [], h => by simp at h
/-- times and numbers in order -/
structure Cue.Ok0 (c : Cue) : Prop where
  num : 0 ≤ c.num ∧ c.num ≤ 999
  up : 0 ≤ c.up ∧ c.up ≤ 20
  down : 0 ≤ c.down ∧ c.down ≤ 20
  fol : ∀ n, c.fol = some n → 1 ≤ n ∧ n ≤ 40
theorem Cue.Ok.ok0 {c : Cue} (h : c.Ok) : c.Ok0 := ⟨h.num, h.up, h.down, h.fol⟩
theorem Cue.Ok0.with {c : Cue} (h : c.Ok0) {f : Nat → Option Src} (hf : ∀ k, k < 12 → ∀ s, f k = some s → s.Ok) : (c.with f).Ok := ⟨h.num, entsOf_ok hf, h.up, h.down, h.fol⟩
theorem ledF_ok {c : Cue} {here w : Row} (hw : ∀ k, (w k).Ok) : ∀ k, k < 12 → ∀ s, ledF c here w k = some s → s.Ok := fun k _ s h => by
  unfold ledF at h
  split at h
  · cases h; exact hw k
  · cases h
def CuesOk0 : Int → List Cue → Prop
  | _, [] => True
  | l, c :: r => l < c.num ∧ c.Ok0 ∧ CuesOk0 c.num r
theorem CuesOk.ok0 : ∀ {l : Int} {cs : List Cue}, CuesOk l cs → CuesOk0 l cs
  | _, [], _ => trivial
  | _, _ :: _, h => ⟨h.1, h.2.1.ok0, h.2.2.ok0⟩
theorem CuesOk0.bare : ∀ {l : Int} {cs : List Cue}, CuesOk0 l cs → CuesOk0 l (cs.map Cue.bare)
  | _, [], _ => trivial
  | _, _ :: _, h => ⟨h.1, ⟨h.2.1.num, h.2.1.up, h.2.1.down, h.2.1.fol⟩, CuesOk0.bare h.2.2⟩
theorem led_ok : ∀ {l : Int} {here : Row} {cs : List Cue} {ws : List Row}, CuesOk0 l cs → (∀ w ∈ ws, ∀ k, (w k).Ok) → CuesOk l (ledM here cs ws)
  | _, _, c :: cs, w :: ws, h, hw => ⟨h.1, h.2.1.with (ledF_ok (hw w (by simp))), led_ok h.2.2 fun x hx => hw x (by simp [hx])⟩
  | _, _, [], _, _, _ => by simp [ledM, CuesOk]
  | _, _, _ :: _, [], _, _ => by simp [ledM, CuesOk]
/-! ### tidied -/
section
variable {cs : List Cue}
theorem tidy_length (cs : List Cue) : (tidyM cs).length = cs.length := by
  unfold tidyM
  rw [ledM_length (by simp [rows_length])]
  simp
theorem tidy_ok (h : CuesOk (-1) cs) : CuesOk (-1) (tidyM cs) := led_ok h.ok0.bare (rows_ok h)
theorem tidy_rows (h : CuesOk (-1) cs) : rows (tidyM cs) = rows cs := rows_led (by simp [rows_length]) row0_lim (rows_lim h)
theorem map_bare2 (cs : List Cue) : (cs.map Cue.bare).map Cue.bare = cs.map Cue.bare := by
  rw [List.map_map]; rfl
theorem tidy_bare (cs : List Cue) : (tidyM cs).map Cue.bare = cs.map Cue.bare := by
  unfold tidyM
  rw [led_bare (by simp [rows_length]), map_bare2]
theorem tidy_tidy (h : CuesOk (-1) cs) : tidyM (tidyM cs) = tidyM cs := by
  rw [tidyM, tidy_bare, tidy_rows h]; rfl
theorem tidy_hdr (cs : List Cue) : (tidyM cs).map Cue.hdr = cs.map Cue.hdr := by
  unfold tidyM
  rw [led_hdr (by simp [rows_length]), List.map_map]; rfl
/-- the same rows: the same row at each cue -/
theorem rows_take {a b : List Cue} (h : rows a = rows b) {k : Nat} (hk : k < a.length) : endF row0 (a.take (k + 1)) = endF row0 (b.take (k + 1)) := by
  have hl : a.length = b.length := by rw [← rows_length (cs := a), h, rows_length]
  have h1 := rowsF_get (g := row0) (cs := a) hk
  have h2 := rowsF_get (g := row0) (cs := b) (k := k) (by omega)
  rw [show rowsF row0 a = rowsF row0 b from h, h2] at h1
  exact (Option.some.inj h1).symm
theorem endF_take {g : Row} {k : Nat} {c : Cue} (hk : cs[k]? = some c) : endF g (cs.take (k + 1)) = run (endF g (cs.take k)) c.ents := by rw [take_snoc hk, endF_snoc]
/-- each cue of a led list, by what stood ahead -/
theorem led_get : ∀ {here : Row} {cs : List Cue} {ws : List Row} {k : Nat} {c : Cue} {w : Row}, cs[k]? = some c → ws[k]? = some w → (ledM here cs ws)[k]? = some (c.with (ledF c ((ws.take k).getLast?.getD here) w))
  | here, c' :: cs, w' :: ws, 0, c, w, h1, h2 => by
    cases h1; cases h2; rfl
  | here, c' :: cs, w' :: ws, k + 1, c, w, h1, h2 => by
    have ih := led_get (here := w') (cs := cs) (ws := ws) (k := k) (by simpa using h1) (by simpa using h2)
    simp only [ledM, List.getElem?_cons_succ, ih, List.take_succ_cons, List.getLast?_cons, Option.getD_some]
  | _, [], _, _, _, _, h1, _ => by simp at h1
  | _, _ :: _, [], _, _, _, _, h2 => by simp at h2
theorem rows_last {k : Nat} (hk : k ≤ cs.length) : ((rows cs).take k).getLast?.getD row0 = endF row0 (cs.take k) := by
  cases k with
  | zero => rfl
  | succ k =>
    have h : (rows cs)[k]? = some (endF row0 (cs.take (k + 1))) := rowsF_get (by omega)
    rw [take_snoc h, List.getLast?_concat]; rfl
/-- what a tidied cue tells is other than what stood ahead -/
theorem tidy_told (h : CuesOk (-1) cs) {k : Nat} {c : Cue} (hk : (tidyM cs)[k]? = some c) {e : Ent} (he : e ∈ c.ents) : endF row0 ((tidyM cs).take k) e.1.toNat ≠ e.2 := by
  have hkl : k < cs.length := by rw [← tidy_length]; exact (List.getElem?_eq_some_iff.mp hk).1
  have hc : (cs.map Cue.bare)[k]? = some cs[k].bare := by simp [hkl]
  have hw : (rows cs)[k]? = some (endF row0 (cs.take (k + 1))) := rowsF_get hkl
  have hg := led_get (here := row0) hc hw
  rw [show ledM row0 (cs.map Cue.bare) (rows cs) = tidyM cs from rfl, hk] at hg
  have hc' := Option.some.inj hg
  have hlook := ((tidy_ok h).mem c (List.mem_of_getElem? hk)).2.ents.look_of (by omega) he
  have hb := ((tidy_ok h).mem c (List.mem_of_getElem? hk)).2.ents.bounds e he
  rw [hc'] at hlook
  have hx : look (cs[k].bare.with (ledF cs[k].bare (((rows cs).take k).getLast?.getD row0) (endF row0 (cs.take (k + 1))))).ents e.1.toNat = ledF cs[k].bare (((rows cs).take k).getLast?.getD row0) (endF row0 (cs.take (k + 1))) e.1.toNat := look_entsOf (by omega)
  rw [hx, rows_last (by omega)] at hlook
  have ht : endF row0 ((tidyM cs).take k) = endF row0 (cs.take k) := by
    cases k with
    | zero => rfl
    | succ k => exact rows_take (tidy_rows h) (by rw [tidy_length]; omega)
  rw [ht]
  unfold ledF at hlook
  split at hlook
  · rename_i z
    rcases z with z | z
    · cases z
    · rw [← Option.some.inj hlook]; exact fun q => z q.symm
  · cases hlook
end
/-! ### changed -/
theorem with_look {c : Cue} (h : EntsOk (-1) c.ents) : c.with (look c.ents) = c := by
  unfold Cue.with
  rw [entsOf_look h]
theorem editsF_none {n : Int} {es : List Edit} {f : Nat → Option Src} (h : ∀ e ∈ es, e.num ≠ n) : editsF n es f = f := by
  induction es generalizing f with
  | nil => rfl
  | cons e r ih =>
    unfold editsF
    rw [List.foldl_cons, if_neg (h e (by simp))]
    exact ih fun x hx => h x (by simp [hx])
theorem editsF_ok {n : Int} {es : List Edit} {f : Nat → Option Src} (hf : ∀ k s, f k = some s → s.Ok) (he : ∀ e ∈ es, ∀ s, e.src = some s → s.Ok) : ∀ k s, editsF n es f k = some s → s.Ok := by
  induction es generalizing f with
  | nil => exact hf
  | cons e r ih =>
    unfold editsF
    rw [List.foldl_cons]
    refine ih (f := if e.num = n then e.on f else f) (fun k s h => ?_) fun x hx => he x (by simp [hx])
    split at h
    · unfold Edit.on at h
      split at h
      · exact he e (by simp) s h
      · exact hf k s h
    · exact hf k s h
theorem change_ok : ∀ {l : Int} {cs : List Cue} {es : List Edit}, CuesOk l cs → (∀ e ∈ es, ∀ s, e.src = some s → s.Ok) → CuesOk l (changeM cs es)
  | _, [], _, _, _ => trivial
  | _, c :: cs, es, h, he => ⟨h.1, h.2.1.ok0.with (fun k _ => editsF_ok (fun k s q => h.2.1.ents.look_ok q) he k), change_ok h.2.2 he⟩
theorem change_length (cs : List Cue) (es : List Edit) : (changeM cs es).length = cs.length := by simp [changeM]
/-- one entry left out: what stood ahead is seen -/
theorem change_out {cs : List Cue} (h : CuesOk (-1) cs) {k : Nat} {c : Cue} (hk : cs[k]? = some c) {l : Int} (hl0 : 0 ≤ l) (hl1 : l ≤ 11) :
    endF row0 ((changeM cs [⟨c.num, l, none⟩]).take (k + 1)) l.toNat = endF row0 (cs.take k) l.toNat := by
  have hpre : (changeM cs [⟨c.num, l, none⟩]).take k = cs.take k := by
    refine List.ext_getElem? fun i => ?_
    rw [List.getElem?_take, List.getElem?_take]
    by_cases z : i < k
    · rw [if_pos z, if_pos z]
      unfold changeM
      rw [List.getElem?_map]
      cases w : cs[i]? with
      | none => rfl
      | some d =>
        have hn : d.num < c.num := CuesOk.lt cs h z w hk
        rw [Option.map_some, editsF_none (fun e he => by rw [List.mem_singleton.mp he]; show c.num ≠ d.num; omega), with_look (h.mem d (List.mem_of_getElem? w)).2.ents]
    · rw [if_neg z, if_neg z]
  have hat : (changeM cs [⟨c.num, l, none⟩])[k]? = some (c.with (editsF c.num [⟨c.num, l, none⟩] (look c.ents))) := by
    unfold changeM
    rw [List.getElem?_map, hk]; rfl
  rw [endF_take hat, hpre]
  have hx : look (c.with (editsF c.num [⟨c.num, l, none⟩] (look c.ents))).ents l.toNat = editsF c.num [⟨c.num, l, none⟩] (look c.ents) l.toNat := look_entsOf (by omega)
  unfold run
  rw [hx]
  unfold editsF
  rw [List.foldl_cons, if_pos rfl]
  show Option.getD (if l.toNat = l.toNat then none else _) _ = _
  rw [if_pos rfl]; rfl
/-! ### blocked -/
theorem block_length {cs : List Cue} {k : Nat} {c : Cue} (hk : cs[k]? = some c) : (blockM cs k c).length = cs.length := by
  have := (List.getElem?_eq_some_iff.mp hk).1
  unfold blockM
  simp; omega
theorem block_set {cs : List Cue} {k : Nat} {c : Cue} (hk : cs[k]? = some c) : blockM cs k c = cs.set k (c.with fun l => some (endF row0 (cs.take (k + 1)) l)) := by
  have h := (List.getElem?_eq_some_iff.mp hk).1
  unfold blockM
  rw [List.set_eq_take_append_cons_drop, if_pos h]
  simp
theorem CuesOk.set : ∀ {l : Int} {cs : List Cue} {k : Nat} {c d : Cue}, CuesOk l cs → cs[k]? = some c → d.num = c.num → d.Ok → CuesOk l (cs.set k d)
  | l, x :: r, 0, c, d, h, hc, hn, hd => by
    have e : x = c := by simpa using hc
    subst e
    exact ⟨by rw [hn]; exact h.1, hd, by rw [hn]; exact h.2.2⟩
  | l, x :: r, k + 1, c, d, h, hc, hn, hd => ⟨h.1, h.2.1, h.2.2.set (by simpa using hc) hn hd⟩
  | _, [], _, _, _, _, hc, _, _ => by simp at hc
theorem block_ok {cs : List Cue} {k : Nat} {c : Cue} (h : CuesOk (-1) cs) (hk : cs[k]? = some c) : CuesOk (-1) (blockM cs k c) := by
  rw [block_set hk]
  refine h.set hk rfl ((h.mem c (List.mem_of_getElem? hk)).2.ok0.with fun l _ s hs => ?_)
  cases hs
  exact endF_ok row0_ok (h.take _) l
/-! ### rows compared -/
theorem eqvAll_false : ∀ {xs ys : List PyData} {i : Nat} {x y : PyData}, xs[i]? = some x → ys[i]? = some y → PyData.eqv x y = false → PyData.eqvAll xs ys = false
  | x' :: xs, y' :: ys, 0, x, y, h1, h2, h => by
    cases h1; cases h2
    simp [PyData.eqvAll, h]
  | x' :: xs, y' :: ys, i + 1, x, y, h1, h2, h => by
    have := eqvAll_false (xs := xs) (ys := ys) (i := i) (by simpa using h1) (by simpa using h2) h
    simp [PyData.eqvAll, this]
  | [], _, _, _, _, h1, _, _ => by simp at h1
  | _ :: _, [], _, _, _, _, h2, _ => by simp at h2
theorem rowPy_at {g : Row} {l : Nat} (h : l < 12) : (rowPy g)[l]? = some (g l).py := by
  simp only [rowPy, List.getElem?_map]
  rw [List.getElem?_range h]; rfl
theorem rows_ne {gs hs : List Row} {k l : Nat} {g h : Row} (hg : gs[k]? = some g) (hh : hs[k]? = some h) (hl : l < 12) (hne : g l ≠ h l) : PyData.eqv (rowsPy gs) (rowsPy hs) = false := by
  have e1 : PyData.eqv (.list (rowPy g)) (.list (rowPy h)) = false := eqvAll_false (rowPy_at hl) (rowPy_at hl) (by rw [Src.eqv]; simpa using hne)
  exact eqvAll_false (i := k) (x := .list (rowPy g)) (y := .list (rowPy h)) (by rw [List.getElem?_map, hg]; rfl) (by rw [List.getElem?_map, hh]; rfl) e1
theorem row_lay (g : Row) : (PyData.list (rowPy g)).canLay0 = true ∧ (PyData.list (rowPy g)).depth ≤ 2 := by
  refine ⟨lay_all fun d hd => ?_, Nat.succ_le_succ (depth_all fun d hd => ?_)⟩ <;>
  · obtain ⟨e, _, rfl⟩ := List.mem_map.mp hd
    first | exact (g e).lay.1 | exact (g e).lay.2
theorem rows_lay (gs : List Row) : (rowsPy gs).canLay0 = true ∧ (rowsPy gs).depth ≤ 3 := by
  refine ⟨lay_all fun d hd => ?_, Nat.succ_le_succ (depth_all fun d hd => ?_)⟩ <;>
  · obtain ⟨e, _, rfl⟩ := List.mem_map.mp hd
    first | exact (row_lay e).1 | exact (row_lay e).2
theorem shaped_rows (gs : List Row) : SeqAt.shaped (rowsPy gs) = true := shaped_of (rows_lay gs).1 (by have := (rows_lay gs).2; omega)
/-! ### nothing -/
theorem eqv_nil (ds : List PyData) : PyData.eqv (.tuple ds) (.tuple []) = ds.isEmpty := by
  cases ds <;> simp [PyData.eqv, PyData.eqvAll]
theorem shaped_nil : SeqAt.shaped (.tuple []) = true := by decide +kernel
/-! ### how deep -/
theorem Fl.src (s : Src) : Fl 1 s.py := by
  cases s with
  | lv n => exact .inl trivial
  | pt n => exact .inr ⟨_, .inl rfl, by simp, fun x hx => by
      simp only [List.mem_cons, List.not_mem_nil, or_false] at hx
      rcases hx with rfl | rfl <;> exact trivial⟩
theorem Fl.row (g : Row) : Fl 2 (.list (rowPy g)) := .inr ⟨_, .inr rfl, by rw [rowPy_length]; omega, fun x hx => by
  obtain ⟨l, _, rfl⟩ := List.mem_map.mp hx
  exact Fl.src _⟩
theorem Fl.rows {gs : List Row} (h : gs.length ≤ 1000) : Fl 3 (rowsPy gs) := .inr ⟨_, .inr rfl, by rw [List.length_map]; omega, fun x hx => by
  obtain ⟨l, _, rfl⟩ := List.mem_map.mp hx
  exact Fl.row _⟩
theorem Fl.fol (f : Option Int) : sca (folPy f) := by cases f <;> exact trivial
theorem ents_length : ∀ {l : Int} {es : List Ent}, EntsOk l es → -1 ≤ l → l ≤ 11 → (es.length : Int) ≤ 11 - l
  | l, [], h, hl, hm => by simp; omega
  | l, e :: r, h, hl, hm => by
    have := h.1
    have h2 := h.2.1
    have ih := ents_length h.2.2.2 (by omega) h2
    rw [List.length_cons]
    omega
theorem Fl.ent (e : Ent) : Fl 2 (Ent.py e) := .inr ⟨_, .inl rfl, by simp, fun x hx => by
  simp only [List.mem_cons, List.not_mem_nil, or_false] at hx
  rcases hx with rfl | rfl
  · exact .inl trivial
  · exact Fl.src _⟩
theorem Fl.cue {c : Cue} (h : EntsOk (-1) c.ents) : Fl 4 c.py := .inr ⟨_, .inl rfl, by simp, fun x hx => by
  simp only [List.mem_cons, List.not_mem_nil, or_false] at hx
  rcases hx with rfl | rfl | rfl | rfl | rfl
  · exact .inl trivial
  · refine .inr ⟨_, .inl rfl, ?_, fun x hx => ?_⟩
    · have := ents_length h (by omega) (by omega)
      rw [List.length_map]; omega
    · obtain ⟨e, _, rfl⟩ := List.mem_map.mp hx
      exact Fl.ent e
  · exact .inl trivial
  · exact .inl trivial
  · exact .inl (Fl.fol _)⟩
theorem Fl.cues {cs : List Cue} (h : CuesOk (-1) cs) (hl : cs.length ≤ 1000) : Fl 5 (cuesPy cs) := .inr ⟨_, .inl rfl, by rw [List.length_map]; omega, fun x hx => by
  obtain ⟨c, hc, rfl⟩ := List.mem_map.mp hx
  exact Fl.cue (h.mem c hc).2.ents⟩
end Lc
/-! Lc8: texts: split, join; words of numbers. -/
namespace Lc
open PySem PySem.Spec PyProof.Rows L2 TL
def oJoin (K : PySem.W.Frag) : V → List V → Hp → VK → Prop := fun x xs H Q => ∃ (a : Str) (p : Addr) (ys : List Str), x = .str a ∧ xs = [.ref p] ∧ SqL K H p (ys.map V.str) ∧ (ys.map (·.length)).sum + ys.length * a.length ≤ 16777216 ∧ Q (.str (Str.join a ys)) H
theorem mx_join {X : Cx} : MtR X "str.join" (oJoin X.K) := fun pins s σ H x xs v us Q I rx rs ⟨a, p, ys, e1, e2, hp, hz, h⟩ =>
  mt_join pins s σ H x xs v us Q I rx rs ⟨a, p, ys, e1, e2, .inl hp, hz, by rw [join_eq]; exact h⟩
def oSplit : V → List V → Hp → VK → Prop := fun x xs H Q => ∃ a b : Str, x = .str a ∧ xs = [.str b] ∧ (b.length == 0) = false ∧ a.length ≤ 1000000 ∧ New H (.lst ((Txt.split a b).map V.str)) Q
theorem mx_split {X : Cx} : MtR X "str.split" oSplit := fun pins s σ H x xs v us Q I rx rs ⟨a, b, e1, e2, hb, hz, h⟩ =>
  mt_split pins s σ H x xs v us Q I rx rs ⟨a, b, e1, e2, hb, by rw [sizeLine_eq]; omega, fun p hp => h.of p hp⟩
/-! ### words of numbers -/
def isDig (c : Nat) : Bool := decide (48 ≤ c) && decide (c ≤ 57)
/-- a number of one to three figures without a needless 0 -/
def numOf (cs : List Nat) : Option Nat := if 1 ≤ cs.length ∧ cs.length ≤ 3 ∧ cs.all isDig = true ∧ (cs = [48] ∨ cs.head? ≠ some 48) then some (NumText.digitsVal cs) else none
def optV : Option Nat → V
  | none => .non
  | some n => .int (n : Nat)
def optD : Option Nat → PyData
  | none => .none
  | some n => .int (n : Nat)
theorem optRp {H : Hp} {o : Option Nat} : Rp H (optD o) (optV o) := by cases o <;> simp [optD, optV, Rp]
/-- plain signs -/
def Asc (z : Str) : Prop := ∀ c ∈ tl z, c < 128
theorem all_dig {cs : List Nat} (h : cs.all isDig = true) : NumText.AllDigits cs := fun c hc => by
  have := List.all_eq_true.mp h c hc
  simpa [isDig] using this
theorem dig_all {cs : List Nat} (h : NumText.AllDigits cs) : cs.all isDig = true := by
  rw [List.all_eq_true]
  intro c hc
  have := h c hc
  simp [isDig, this.1, this.2]
theorem numL_head {n : Nat} (h : n ≠ 0) : (numL n).head? ≠ some 48 := by
  induction n using Nat.strongRecOn with
  | _ n ih =>
    by_cases c : n < 10
    · rw [numL_lt c]; simp; omega
    · rw [numL_step (by omega), List.head?_append]
      have h1 := ih (n / 10) (by omega) (by omega)
      cases e : (numL (n / 10)).head? with
      | none => exact absurd (List.head?_eq_none_iff.mp e) (numL_ne _)
      | some x => rw [e] at h1; simpa using h1
theorem numOf_num {n : Nat} (h : n < 1000) : numOf (numL n) = some n := by
  unfold numOf
  have h1 : 1 ≤ (numL n).length := by
    have := numL_ne n
    cases e : numL n with
    | nil => exact absurd e this
    | cons _ _ => simp
  have h2 := numL_len (n := n) (k := 3) (by decide) (by simpa using h)
  have h3 : numL n = [48] ∨ (numL n).head? ≠ some 48 := by
    by_cases c : n = 0
    · subst c; exact .inl (by rw [numL_lt (by decide)])
    · exact .inr (numL_head c)
  rw [if_pos ⟨h1, h2, dig_all (numL_digits n), h3⟩, numL_val]
def numS (i : Int) : Str := toString i
theorem tl_numS {i : Int} (h : 0 ≤ i) : tl (numS i) = numL i.toNat := by
  have := tl_num i.toNat
  rw [show ((i.toNat : Nat) : Int) = i by omega] at this
  exact this
theorem log_small {i : Int} (h0 : 0 ≤ i) (h1 : i < 100000) : i.natAbs.log2 < 1920 := by
  have h3 : i.natAbs < 2 ^ 1920 := by
    have : i.natAbs < 100000 := by omega
    exact Nat.lt_of_lt_of_le this (by decide)
  by_cases z : i.natAbs = 0
  · rw [z]; decide
  · exact (Nat.log2_lt z).mpr h3
theorem numS_len {i : Int} (h0 : 0 ≤ i) (h1 : i < 1000) : (numS i).length ≤ 3 := by
  rw [len_tl, tl_numS h0]
  exact numL_len (by decide) (by have : i.toNat < 1000 := by omega
                                 simpa using this)
theorem numS_free {i : Int} (h0 : 0 ≤ i) {s : Nat} (h : s < 48 ∨ 57 < s) : s ∉ tl (numS i) := by rw [tl_numS h0]; exact numL_free h
theorem numOf_numS {i : Int} (h0 : 0 ≤ i) (h1 : i < 1000) : numOf (tl (numS i)) = some i.toNat := by rw [tl_numS h0]; exact numOf_num (by omega)
theorem numS_asc {i : Int} (h0 : 0 ≤ i) : Asc (numS i) := fun c hc => by
  rw [tl_numS h0] at hc
  have := numL_digits i.toNat c hc
  omega
end Lc
/-! P9: words, rows and texts. -/
namespace Lc
open PySem PySem.Spec PyProof.Rows L2 TL
/-! ### number_of -/
def sp_number_of (K : PySem.W.Frag) : Sp := fun vs H Q _ => ∃ z, vs = [.str z] ∧ Asc z ∧ z.length ≤ 100000 ∧ ∀ H', Ex [] H H' → Q (optV (numOf (tl z))) H'
def N_number_of : List Str := ["word", "sign"]
def t_number_of (K : PySem.W.Frag) (E : XK) : TS :=
  (tSeq (tIfS (tOr (tNot (tTest (tChain oLe oLe (tC (.int 1)) (tCB (oLen K) (tCons (tVar 0) tNil)) (tC (.int 3))))) (tTest (tOp (oNe K) (tLc (iStr (tVar 0)) (gName 1) (tTest (tOp (oNotIn K) (tVar 1) (tC (.str "0123456789")))) (tVar 1) [1]) (tLstF tNil)))) (tRet (tC .non)) tNext)
  (tRet (tIf (tOr (tTest (tOp (oEq K) (tVar 0) (tC (.str "0")))) (tTest (tOp (oNe K) (tOp (oIx K) (tVar 0) (tC (.int 0))) (tC (.str "0"))))) (tCB oInt (tCons (tVar 0) tNil)) (tC .non))))
theorem figs_tl : (Str.ofString "0123456789").cps.toList = [48, 49, 50, 51, 52, 53, 54, 55, 56, 57] := by decide +kernel
theorem figs_mem {c : Nat} : (c ∈ (Str.ofString "0123456789").cps.toList) ↔ isDig c = true := by
  rw [figs_tl]
  simp only [isDig, List.mem_cons, List.not_mem_nil, or_false, Bool.and_eq_true, decide_eq_true_eq]
  omega
theorem zero_tl : tl (Str.ofString "0") = [48] := by decide +kernel
theorem str_one (z : Str) (c : Nat) (h : tl z = [c]) : z = ⟨#[c]⟩ := ext_tl (by rw [h])
theorem one_ne {c d : Nat} : (⟨#[c]⟩ : Str) = ⟨#[d]⟩ ↔ c = d := ⟨fun e => by injection e with e; simpa using e, fun e => by rw [e]⟩
theorem zero_eq : Str.ofString "0" = ⟨#[48]⟩ := ext_tl (by rw [zero_tl])
theorem strs_lay {cs : List Nat} (h : ∀ c ∈ cs, c < 128) : (PyData.list (cs.map fun c => PyData.str ⟨#[c]⟩)).canLay0 = true := lay_all fun d hd => by
  obtain ⟨c, hc, rfl⟩ := List.mem_map.mp hd
  have := h c hc
  show PyData.strOk ⟨#[c]⟩ = true
  simp [PyData.strOk]; omega
theorem strs_depth (cs : List Nat) : (PyData.list (cs.map fun c => PyData.str ⟨#[c]⟩)).depth ≤ 1 := Nat.succ_le_succ (depth_all fun d hd => by
  obtain ⟨c, hc, rfl⟩ := List.mem_map.mp hd
  exact Nat.le_refl _)
theorem eqv_nilL (ds : List PyData) : PyData.eqv (.list ds) (.list []) = ds.isEmpty := by
  cases ds <;> simp [PyData.eqv, PyData.eqvAll]
theorem shaped_nilL : SeqAt.shaped (.list []) = true := by decide +kernel
theorem dp_strs {K : PySem.W.Frag} {H : Hp} : ∀ cs : List Nat, DpAll K H (cs.map fun c => V.str ⟨#[c]⟩) (cs.map fun c => PyData.str ⟨#[c]⟩)
  | [] => .nil
  | _ :: cs => .cons (.str _) (dp_strs cs)
theorem pure_number_of {K : PySem.W.Frag} (vs : List V) (H : Hp) (Q : VK) (E : XK) (h : sp_number_of K vs H Q E) : t_number_of K E { nx := fun _ H' => Q .non H', rt := Q } (start N_number_of vs) H := by
  obtain ⟨z, rfl, hasc, hlen, q⟩ := h
  show t_number_of K E _ [some (.str z), none] H
  unfold t_number_of
  wtm_at "go"
  refine l_S (z_of (by omega)) ?_
  wtm_at "go"
  have hl : z.length = (tl z).length := len_tl z
  have bad : ¬ (1 ≤ (tl z).length ∧ (tl z).length ≤ 3 ∧ (tl z).all isDig = true ∧ (tl z = [48] ∨ (tl z).head? ≠ some 48)) → numOf (tl z) = none := fun h => if_neg h
  refine d_2 (fun h1 => ?_) (fun h1 => ?_)
  · wtm_at "go"
    refine b_2 (fun h2 => ?_) (fun h2 => ?_)
    rotate_left
    · have h2 : (z.length : Int) ≤ 3 := by simpa using h2
      wtm_at "go"
      refine ⟨z, rfl, ?_⟩
      have hlc := lc_walk (σ := [some (.str z), none]) (H := H) (g := gName 1) (tt := tTest (tOp (oNotIn K) (tVar 1) (tC (.str "0123456789")))) (te := tVar 1) (vs := [1]) (walk_str (z := z))
        (Q := fun x H1 => tLstF tNil [some (.str z), none] H1 fun y H2 => oNe K x y H2 fun v H3 => ∃ k, v = .bl k ∧ if k = true then tRet (tC .non) { nx := fun _ H' => Q .non H', rt := Q } [some (.str z), none] H3 else
          (tNext { nx := tRet (tIf (tOr (tTest (tOp (oEq K) (tVar 0) (tC (.str "0")))) (tTest (tOp (oNe K) (tOp (oIx K) (tVar 0) (tC (.int 0))) (tC (.str "0"))))) (tCB oInt (tCons (tVar 0) tNil)) (tC .non)) { nx := fun _ H' => Q .non H', rt := Q }, rt := Q } [some (.str z), none] H3))
        (fun D k acc H' => acc = (((tl z).take k).filter fun c => !isDig c).map (fun c => V.str ⟨#[c]⟩) ∧ Ex [] H H') ?_ (fun _ _ _ _ _ _ _ => trivial) ?_ ?_
      · exact hlc
      · exact fun D H' hD e _ => ⟨by simp, e⟩
      · rintro D k acc H' x hD hk ⟨c, hc, rfl⟩ ha ⟨rfl, e⟩
        show gName 1 _ [some (.str z), none] H' _
        have hck : (tl z)[k]? = some c := by
          rw [← hc]; simp [tl]
        wtm_at "go"
        refine ⟨rfl, ?_⟩
        wtm_at "go"
        refine .inr (.inr (.inl ⟨c, _, rfl, rfl, ?_⟩))
        wtm_at "go"
        have hdec : decide (c ∈ (Str.ofString "0123456789").cps.toList) = isDig c := by
          rw [Bool.eq_iff_iff, decide_eq_true_eq]; exact figs_mem
        rw [hdec]
        refine b_2 (fun hb => ?_) (fun hb => ?_)
        · wtm_at "go"
          refine LP.add ha ?_ fun H1 e1 ha1 => ⟨?_, e.loc1 e1 hD⟩
          · rw [List.length_map]
            exact Nat.le_trans (List.length_filter_le _ _) (by rw [List.length_take]; omega)
          · rw [take_snoc hck, List.filter_append, List.map_append]
            simp [hb]
        · refine LP.skip ha ⟨?_, e⟩
          rw [take_snoc hck, List.filter_append, List.map_append]
          simp [hb]
      · rintro D acc H' hD ha ⟨hacc, e⟩
        have hsz : z.cps.size = (tl z).length := by simp [tl]
        rw [hsz, List.take_length] at hacc
        subst hacc
        wtm_at "go"
        refine ⟨z_of (by simp), fun p H2 hp e2 hp2 => ?_⟩
        refine .inr ⟨.list ((((tl z)).filter fun c => !isDig c).map fun c => PyData.str ⟨#[c]⟩), .list [], .lst (SqL.of (e2.get0 ha)) (dp_strs _), .lst (SqL.of hp2) .nil, shaped_of (strs_lay fun c hc => hasc c (List.mem_filter.mp hc).1) (by have := strs_depth ((tl z).filter fun c => !isDig c); omega), shaped_nilL, ?_⟩
        rw [eqv_nilL]
        refine ⟨_, rfl, ?_⟩
        have e02 := e.trans e2
        refine b_2 (fun hb => ?_) (fun hb => ?_)
        · wtm_at "go"
          have : numOf (tl z) = none := bad fun ⟨_, _, h3, _⟩ => by
            have hf : (tl z).filter (fun c => !isDig c) = [] := by
              rw [List.filter_eq_nil_iff]
              intro c hc
              simp [List.all_eq_true.mp h3 c hc]
            rw [hf] at hb; simp at hb
          have q2 := q H2 e02
          rw [this] at q2
          exact q2
        · have h3 : (tl z).all isDig = true := by
            rw [List.all_eq_true]
            intro c hc
            cases hcd : isDig c with
            | true => rfl
            | false =>
              have hm : c ∈ (tl z).filter fun c => !isDig c := List.mem_filter.mpr ⟨hc, by simp [hcd]⟩
              cases w : (tl z).filter fun c => !isDig c with
              | nil => rw [w] at hm; cases hm
              | cons _ _ => rw [w] at hb; simp at hb
          have hint : intText? z = some ((NumText.digitsVal (tl z) : Nat) : Int) := PySem.intText_digits (all_dig h3) (by intro w; have w : tl z = [] := w; rw [hl, w] at h1; simp at h1) (by omega)
          have good : (tl z = [48] ∨ (tl z).head? ≠ some 48) → ∀ D : Ends, (∀ v, v = optV (numOf (tl z)) → D.rt v H2) → tCB oInt (tCons (tVar 0) tNil) [some (.str z), none] H2 D.rt := by
            intro h4 De hDe
            wtm_at "go"
            refine .inr ⟨z, _, rfl, hint, by omega, hDe _ ?_⟩
            unfold numOf
            rw [if_pos ⟨by omega, by omega, h3, h4⟩]; rfl
          wtm_at "go"
          refine d_2 (fun hz => ?_) (fun hz => ?_)
          · refine b_t rfl ?_
            refine good (.inl (by rw [hz]; exact zero_tl)) { nx := fun _ H' => Q .non H', rt := Q } fun v hv => by rw [hv]; exact q H2 e02
          · wtm_at "go"
            cases w : tl z with
            | nil => rw [hl, w] at h1; simp at h1
            | cons c r =>
              refine .inr (.inr (.inl ⟨z, 0, c, rfl, rfl, z_of (by omega), ?_, ?_⟩))
              · show atI (tl z) 0 = some c
                rw [w]; exact ix0
              · wtm_at "go"
                rw [zero_eq]
                refine d_2 (fun hc => ?_) (fun hc => ?_)
                · refine good (.inr ?_) { nx := fun _ H' => Q .non H', rt := Q } fun v hv => by rw [hv]; exact q H2 e02
                  rw [w]
                  simp
                  exact fun z => hc (one_ne.mpr z)
                · have hc48 : c = 48 := one_ne.mp (Classical.byContradiction fun q => hc q)
                  have : numOf (tl z) = none := bad fun ⟨_, _, _, h4⟩ => by
                    rcases h4 with h4 | h4
                    · exact hz (by rw [zero_eq]; exact str_one z 48 h4)
                    · rw [w, hc48] at h4; simp at h4
                  have q2 := q H2 e02
                  rw [this] at q2
                  wtm_at "go"
                  exact q2
    · have h2 : ¬ (z.length : Int) ≤ 3 := by simpa using h2
      have : numOf (tl z) = none := bad fun ⟨_, h, _⟩ => h2 (by omega)
      have q2 := q H .refl
      rw [this] at q2
      exact q2
  · have : numOf (tl z) = none := bad fun ⟨h, _⟩ => h1 (by omega)
    have q2 := q H .refl
    rw [this] at q2
    wtm_at "go"
    exact b_t rfl q2
end Lc
/-! P10: entries and rows read. -/
namespace Lc
open PySem PySem.Spec PyProof.Rows L2 TL
/-! ### parts of a text -/
theorem join_mem {S : List Nat} : ∀ {ps : List (List Nat)} {p : List Nat}, p ∈ ps → (∀ c ∈ p, c ∈ joinL S ps) ∧ p.length ≤ (joinL S ps).length
  | [q], p, h => by
    rw [List.mem_singleton.mp h]
    exact ⟨fun c hc => hc, Nat.le_refl _⟩
  | q :: r :: ps, p, h => by
    have e : joinL S (q :: r :: ps) = q ++ (S ++ joinL S (r :: ps)) := rfl
    rw [e]
    rcases List.mem_cons.mp h with rfl | h
    · exact ⟨fun c hc => by simp [hc], by simp⟩
    · obtain ⟨h1, h2⟩ := join_mem (S := S) h
      exact ⟨fun c hc => by have := h1 c hc; simp [this], by simp; omega⟩
theorem split_tl (z y : Str) : tl z = joinL (tl y) ((Txt.split z y).map tl) := by rw [← tl_join, StrLaws.join_split]
theorem split_asc {z y p : Str} (h : Asc z) (hp : p ∈ Txt.split z y) : Asc p := fun c hc => h c (by
  rw [split_tl z y]
  exact (join_mem (List.mem_map_of_mem hp)).1 c hc)
theorem split_short {z y p : Str} (hp : p ∈ Txt.split z y) : p.length ≤ z.length := by
  rw [len_tl, len_tl, split_tl z y]
  exact (join_mem (List.mem_map_of_mem hp)).2
theorem joinL_count {S : List Nat} (hS : S ≠ []) : ∀ ps : List (List Nat), ps.length ≤ (joinL S ps).length + 1
  | [] => by simp
  | [_] => by simp
  | q :: r :: ps => by
    have e : joinL S (q :: r :: ps) = q ++ (S ++ joinL S (r :: ps)) := rfl
    have ih := joinL_count hS (r :: ps)
    have : 1 ≤ S.length := by cases S with
      | nil => exact absurd rfl hS
      | cons _ _ => simp
    rw [e]; simp at ih ⊢; omega
theorem split_many {z y : Str} (hy : tl y ≠ []) : (Txt.split z y).length ≤ z.length + 1 := by
  rw [len_tl, split_tl z y]
  have := joinL_count hy ((Txt.split z y).map tl)
  simpa using this
theorem colon_ne : ((":" : Str).length == 0) = false := by decide +kernel
theorem blank_ne : ((" " : Str).length == 0) = false := by decide +kernel
theorem line_ne : (("\n" : Str).length == 0) = false := by decide +kernel
theorem colon_tl : tl ":" = [58] := by decide +kernel
theorem blank_tl : tl " " = [32] := by decide +kernel
theorem line_tl : tl "\n" = [10] := by decide +kernel
theorem p_tl : tl "p" = [112] := by decide +kernel
theorem dash_tl : tl "-" = [45] := by decide +kernel
theorem tl_cut1 (z : Str) : tl (cutS z none (some 1)) = (tl z).take 1 := by
  show ((tl z).drop (HT.sIx z.length 0 none)).take (HT.sIx z.length z.length (some ((1 : Nat) : Int)) - HT.sIx z.length 0 none) = _
  rw [HT.sIx_none, HT.sIx_nat, len_tl]
  cases tl z with
  | nil => rfl
  | cons c r => simp
theorem tl_cut1' (z : Str) : tl (cutS z (some 1) none) = (tl z).drop 1 := by
  show ((tl z).drop (HT.sIx z.length 0 (some ((1 : Nat) : Int)))).take (HT.sIx z.length z.length none - HT.sIx z.length 0 (some ((1 : Nat) : Int))) = _
  rw [HT.sIx_none, HT.sIx_nat, len_tl]
  cases tl z with
  | nil => rfl
  | cons c r => simp
/-! ### entry_of -/
def isP (b : Str) : Bool := decide ((tl b).take 1 = [112])
def entOf (z : Str) : PyData := match Txt.split z ":" with
  | [a, b] => (match numOf (tl a), numOf (if isP b = true then (tl b).drop 1 else tl b) with
    | some l, some w => .tuple [.int (l : Nat), if isP b = true then .tuple [.str "part", .int (w : Nat)] else .int (w : Nat)]
    | _, _ => .none)
  | _ => .none
theorem entOf_lay (z : Str) : (entOf z).canLay0 = true ∧ (entOf z).depth ≤ 2 := by
  unfold entOf
  split
  · split
    · rename_i l w _ _
      split
      · exact Ent.lay (((l : Nat) : Int), .pt (w : Nat))
      · exact Ent.lay (((l : Nat) : Int), .lv (w : Nat))
    · exact ⟨rfl, Nat.zero_le _⟩
  · exact ⟨rfl, Nat.zero_le _⟩
def sp_entry_of (K : PySem.W.Frag) : Sp := fun vs H Q _ => ∃ z, vs = [.str z] ∧ Asc z ∧ z.length ≤ 100000 ∧ ∀ v H', Ex [] H H' → Rp H' (entOf z) v → Q v H'
def N_entry_of : List Str := ["word", "parts", "light", "is_part", "what"]
def t_entry_of (K : PySem.W.Frag) (E : XK) : TS :=
  (tSeq (tAsg (tM1 oSplit (tVar 0) (tC (.str ":"))) (gName 1))
  (tSeq (tIfS (tTest (tOp (oNe K) (tCB (oLen K) (tCons (tVar 1) tNil)) (tC (.int 2)))) (tRet (tC .non)) tNext)
  (tSeq (tAsg (tCall (sp_number_of K) [] E (tCons (tOp (oIx K) (tVar 1) (tC (.int 0))) tNil)) (gName 2))
  (tSeq (tAsg (tOp (oEq K) (tSl (oSl K) (tOp (oIx K) (tVar 1) (tC (.int 1))) tNoPart (tPart (tC (.int 1)))) (tC (.str "p"))) (gName 3))
  (tSeq (tAsg (tCall (sp_number_of K) [] E (tCons (tIf (tB (tVar 3)) (tSl (oSl K) (tOp (oIx K) (tVar 1) (tC (.int 1))) (tPart (tC (.int 1))) tNoPart) (tOp (oIx K) (tVar 1) (tC (.int 1)))) tNil)) (gName 4))
  (tSeq (tIfS (tOr (tTest (tOp oIsN (tVar 2) (tC .non))) (tTest (tOp oIsN (tVar 4) (tC .non)))) (tRet (tC .non)) tNext)
  (tRet (tTupF (tCons (tVar 2) (tCons (tIf (tB (tVar 3)) (tTupF (tCons (tC (.str "part")) (tCons (tVar 4) tNil))) (tVar 4)) tNil))))))))))
theorem optV_non {o : Option Nat} : (optV o = .non) ↔ o = none := by cases o <;> simp [optV]
theorem pure_entry_of {K : PySem.W.Frag} (vs : List V) (H : Hp) (Q : VK) (E : XK) (h : sp_entry_of K vs H Q E) : t_entry_of K E { nx := fun _ H' => Q .non H', rt := Q } (start N_entry_of vs) H := by
  obtain ⟨z, rfl, hasc, hlen, q⟩ := h
  show t_entry_of K E _ [some (.str z), none, none, none, none] H
  unfold t_entry_of
  wtm_at "go"
  refine ⟨z, ":", rfl, rfl, colon_ne, by omega, fun p H1 hp e1 ha1 => ?_⟩
  wtm_at "go"
  refine l_L ha1 ?_
  wtm_at "go"
  have hparts := hasc
  refine d_2 (fun h2 => ?_) (fun h2 => ?_)
  · rw [List.length_map] at h2
    wtm_at "go"
    refine q _ H1 e1 ?_
    have : entOf z = .none := by
      unfold entOf
      split
      · rename_i a b e
        rw [e] at h2; exact absurd rfl h2
      · rfl
    rw [this]; exact .non
  · obtain ⟨a, b, hab⟩ : ∃ a b, Txt.split z ":" = [a, b] := by
      rw [List.length_map] at h2
      have h3 : (Txt.split z ":").length = 2 := by omega
      match hs : Txt.split z ":", h3 with
      | [a, b], _ => exact ⟨a, b, rfl⟩
    rw [hab] at ha1
    have ha : a ∈ Txt.split z ":" := by rw [hab]; simp
    have hb : b ∈ Txt.split z ":" := by rw [hab]; simp
    have hal := split_short ha
    have hbl := split_short hb
    wtm_at "go"
    refine a_ixL ha1 atI_0 ?_
    wtm_at "go"
    refine ⟨a, rfl, split_asc hasc ha, by omega, fun H2 e2 => ?_⟩
    wtm_at "go"
    refine a_ixL (e2.get0 ha1) atI_1 ?_
    wtm_at "go"
    refine .inr (.inr ⟨b, rfl, z_of (by omega), ?_⟩)
    wtm_at "go"
    have hisP : decide (cutS b none (some 1) = "p") = isP b := by
      unfold isP
      rw [Bool.eq_iff_iff, decide_eq_true_eq, decide_eq_true_eq, ← tl_cut1, ← p_tl]
      exact ⟨fun e => by rw [e], fun e => ext_tl e⟩
    rw [hisP]
    have key : ∀ H3 (w : Str), Ex [] H2 H3 → tl w = (if isP b = true then (tl b).drop 1 else tl b) → tCall (sp_number_of K) [] E (tCons (fun σ H Q => Q (.str w) H) tNil) [some (.str z), some (.ref p), some (optV (numOf (tl a))), some (.bl (isP b)), none] H3 fun x H4 =>
        (tSeq (tIfS (tOr (tTest (tOp oIsN (tVar 2) (tC .non))) (tTest (tOp oIsN (tVar 4) (tC .non)))) (tRet (tC .non)) tNext)
          (tRet (tTupF (tCons (tVar 2) (tCons (tIf (tB (tVar 3)) (tTupF (tCons (tC (.str "part")) (tCons (tVar 4) tNil))) (tVar 4)) tNil))))) { nx := fun _ H' => Q .non H', rt := Q } [some (.str z), some (.ref p), some (optV (numOf (tl a))), some (.bl (isP b)), some x] H4 := by
      intro H3 w e3 hw
      wtm_at "go"
      have hwl : w.length ≤ b.length := by
        rw [len_tl w, len_tl b, hw]
        split
        · simp
        · exact Nat.le_refl _
      have hwa : Asc w := fun c hc => by
        rw [hw] at hc
        refine split_asc hasc hb c ?_
        split at hc
        · exact List.mem_of_mem_drop hc
        · exact hc
      refine ⟨w, rfl, hwa, by omega, fun H4 e4 => ?_⟩
      have e04 := ((e1.trans e2).trans e3).trans e4
      wtm_at "go"
      have hent : entOf z = (match numOf (tl a), numOf (tl w) with
          | some l, some w => .tuple [.int (l : Nat), if isP b = true then .tuple [.str "part", .int (w : Nat)] else .int (w : Nat)]
          | _, _ => .none) := by
        unfold entOf
        rw [hab, hw]
      refine d_2 (fun hn => ?_) (fun hn => ?_)
      · refine b_t rfl ?_
        wtm_at "go"
        refine q _ H4 e04 ?_
        rw [hent, optV_non.mp hn]; exact .non
      · wtm_at "go"
        refine d_2 (fun hn2 => ?_) (fun hn2 => ?_)
        · wtm_at "go"
          refine q _ H4 e04 ?_
          rw [hent, optV_non.mp hn2]
          cases numOf (tl a) <;> exact .non
        · obtain ⟨l, hl⟩ : ∃ l, numOf (tl a) = some l := by
            cases e : numOf (tl a) with
            | none => exact absurd (optV_non.mpr e) hn
            | some l => exact ⟨l, rfl⟩
          obtain ⟨u, hu⟩ : ∃ l, numOf (tl w) = some l := by
            cases e : numOf (tl w) with
            | none => exact absurd (optV_non.mpr e) hn2
            | some l => exact ⟨l, rfl⟩
          rw [hl, hu] at hent ⊢
          wtm_at "go"
          refine b_2 (fun hp => ?_) (fun hp => ?_)
          · wtm_at "go"
            refine r_mk (.cons .str (.cons .int .nil)) (by simp) fun t H5 e5 rt => ?_
            wtm_at "go"
            refine r_mk (.cons .int (.cons rt .nil)) (by simp) fun t2 H6 e6 rt2 => ?_
            refine q _ H6 ((e04.trans e5).trans e6) ?_
            rw [hent]
            simp only [hp, if_true]
            exact rt2
          · wtm_at "go"
            refine r_mk (.cons .int (.cons .int .nil)) (by simp) fun t2 H6 e6 rt2 => ?_
            refine q _ H6 (e04.trans e6) ?_
            rw [hent]
            simp only [hp, Bool.false_eq_true, if_false]
            exact rt2
    refine b_2 (fun hp => ?_) (fun hp => ?_)
    · wtm_at "go"
      refine a_ixL (e2.get0 ha1) atI_1 ?_
      wtm_at "go"
      refine .inr (.inr ⟨b, rfl, z_of (by omega), ?_⟩)
      exact key H2 (cutS b (some 1) none) .refl (by rw [tl_cut1', if_pos hp])
    · wtm_at "go"
      refine a_ixL (e2.get0 ha1) atI_1 ?_
      exact key H2 b .refl (by rw [if_neg (by rw [hp]; decide)])
end Lc
/-! P11: rows and texts read. -/
namespace Lc
open PySem PySem.Spec PyProof.Rows L2 TL
/-! ### cue_of -/
def numD (w : Str) : PyData := optD (numOf (tl w))
/-- what stands in a row's words -/
def rowD (a b c d : Str) (rest : List Str) : PyData := .tuple [numD a, .tuple (rest.map entOf), numD b, numD c, if d = "-" then .none else numD d]
def rowBad (a b c d : Str) (rest : List Str) : Bool := isNone (numD a) || isNone (numD b) || isNone (numD c) || rest.any (fun w => isNone (entOf w)) || (isNone (if d = "-" then .none else numD d) && !decide (d = "-"))
def cueOf (z : Str) (last : Int) : PyData := match Txt.split z " " with
  | a :: b :: c :: d :: rest => if rowBad a b c d rest = false ∧ isCue (rowD a b c d rest) last = true then rowD a b c d rest else .none
  | _ => .none
theorem numD_lay (w : Str) : (numD w).canLay0 = true ∧ (numD w).depth = 0 := by unfold numD; cases numOf (tl w) <;> exact ⟨rfl, rfl⟩
theorem ents_layD (ws : List Str) : (PyData.tuple (ws.map entOf)).canLay0 = true ∧ (PyData.tuple (ws.map entOf)).depth ≤ 3 := by
  refine ⟨lay_all fun d hd => ?_, Nat.succ_le_succ (depth_all fun d hd => ?_)⟩ <;>
  · obtain ⟨e, _, rfl⟩ := List.mem_map.mp hd
    first | exact (entOf_lay e).1 | exact (entOf_lay e).2
theorem fol_layD (d : Str) : (if d = "-" then PyData.none else numD d).canLay0 = true ∧ (if d = "-" then PyData.none else numD d).depth = 0 := by
  split
  · exact ⟨rfl, rfl⟩
  · exact numD_lay d
theorem rowD_lay (a b c d : Str) (rest : List Str) : (rowD a b c d rest).canLay0 = true ∧ (rowD a b c d rest).depth ≤ 4 := by
  obtain ⟨h1, h2⟩ := ents_layD rest
  obtain ⟨h3, h4⟩ := fol_layD d
  obtain ⟨a1, a2⟩ := numD_lay a
  obtain ⟨b1, b2⟩ := numD_lay b
  obtain ⟨c1, c2⟩ := numD_lay c
  constructor
  · show ((numD a).canLay0 && ((PyData.tuple (rest.map entOf)).canLay0 && ((numD b).canLay0 && ((numD c).canLay0 && ((if d = "-" then PyData.none else numD d).canLay0 && true))))) = true
    rw [a1, h1, b1, c1, h3]; rfl
  · show max (numD a).depth (max (PyData.tuple (rest.map entOf)).depth (max (numD b).depth (max (numD c).depth (max (if d = "-" then PyData.none else numD d).depth 0)))) + 1 ≤ 4
    omega
theorem shaped_rowD (a b c d : Str) (rest : List Str) : SeqAt.shaped (rowD a b c d rest) = true := shaped_of (rowD_lay ..).1 (by have := (rowD_lay a b c d rest).2; omega)
def sp_cue_of (K : PySem.W.Frag) : Sp := fun vs H Q _ => ∃ z last, vs = [.str z, .int last] ∧ Asc z ∧ z.length ≤ 100000 ∧ ∀ v H', Ex [] H H' → Rp H' (cueOf z last) v → Q v H'
def N_cue_of : List Str := ["row", "last", "words", "numbers", "follow", "entries", "cue", "word"]
def t_cue_of (K : PySem.W.Frag) (E : XK) : TS :=
  (tSeq (tAsg (tM1 oSplit (tVar 0) (tC (.str " "))) (gName 2))
  (tSeq (tIfS (tTest (tOp oLt (tCB (oLen K) (tCons (tVar 2) tNil)) (tC (.int 4)))) (tRet (tC .non)) tNext)
  (tSeq (tAsg (tLc (iList K (tSl (oSl K) (tVar 2) tNoPart (tPart (tC (.int 3))))) (gName 7) tYes (tCall (sp_number_of K) [] E0 (tCons (tVar 7) tNil)) [7]) (gName 3))
  (tSeq (tAsg (tIf (tTest (tOp (oEq K) (tOp (oIx K) (tVar 2) (tC (.int 3))) (tC (.str "-")))) (tC .non) (tCall (sp_number_of K) [] E (tCons (tOp (oIx K) (tVar 2) (tC (.int 3))) tNil))) (gName 4))
  (tSeq (tAsg (tLc (iList K (tSl (oSl K) (tVar 2) (tPart (tC (.int 4))) tNoPart)) (gName 7) tYes (tCall (sp_entry_of K) [] E0 (tCons (tVar 7) tNil)) [7]) (gName 5))
  (tSeq (tIfS (tOr (tTest (tOp (oIn K) (tC .non) (tVar 3))) (tOr (tTest (tOp (oIn K) (tC .non) (tVar 5))) (tAnd (tTest (tOp oIsN (tVar 4) (tC .non))) (tTest (tOp (oNe K) (tOp (oIx K) (tVar 2) (tC (.int 3))) (tC (.str "-"))))))) (tRet (tC .non)) tNext)
  (tSeq (tAsg (tTupF (tCons (tOp (oIx K) (tVar 3) (tC (.int 0))) (tCons (tCB (oTuple K) (tCons (tVar 5) tNil)) (tCons (tOp (oIx K) (tVar 3) (tC (.int 1))) (tCons (tOp (oIx K) (tVar 3) (tC (.int 2))) (tCons (tVar 4) tNil)))))) (gName 6))
  (tRet (tIf (tB (tCall (sp_is_cue K) [] E (tCons (tVar 6) (tCons (tVar 1) tNil)))) (tVar 6) (tC .non))))))))))
theorem RpAll.nums {H : Hp} : ∀ {ws : List Str} {xs : List V}, RpAll H (ws.map numD) xs → xs = ws.map fun w => optV (numOf (tl w))
  | [], _, h => h.nil_inv
  | w :: ws, _, h => by
    obtain ⟨x, r, rfl, h1, h2⟩ := h.cons_inv
    rw [RpAll.nums h2]
    have : x = optV (numOf (tl w)) := by
      unfold numD at h1
      cases e : numOf (tl w) with
      | none => rw [e] at h1; simpa [optD, optV, Rp] using h1
      | some n => rw [e] at h1; simpa [optD, optV, Rp] using h1
    rw [this]; rfl
theorem flat_opt (o : Option Nat) : flatV (optV o) = true := by cases o <;> rfl
theorem eqV_non (o : Option Nat) : eqV (optV o) .non = isNone (optD o) := by cases o <;> rfl
theorem eqv_none (d : PyData) : PyData.eqv d .none = isNone d := by cases d <;> simp [PyData.eqv, isNone]
theorem cutV_take {xs : List V} {k : Nat} (h : k ≤ xs.length) : cutV xs none (some (k : Int)) = xs.take k := cut_take (ds := xs) h
theorem cutV_drop {xs : List V} {k : Nat} (h : k ≤ xs.length) : cutV xs (some (k : Int)) none = xs.drop k := cut_drop (ds := xs) h
theorem isNone_non {H : Hp} {d : PyData} {v : V} (r : Rp H d v) : decide (v = .non) = isNone d := by
  cases d with
  | none => simp only [Rp] at r; subst r; rfl
  | bool b => simp only [Rp] at r; subst r; rfl
  | int i => simp only [Rp] at r; subst r; rfl
  | str s => simp only [Rp] at r; subst r; rfl
  | tuple ds => obtain ⟨a, xs, rfl, _⟩ := Rp.tup_inv r; rfl
  | list ds => simp only [Rp] at r
  | dict ds => simp only [Rp] at r
theorem pure_cue_of {K : PySem.W.Frag} (vs : List V) (H : Hp) (Q : VK) (E : XK) (h : sp_cue_of K vs H Q E) : t_cue_of K E { nx := fun _ H' => Q .non H', rt := Q } (start N_cue_of vs) H := by
  obtain ⟨z, last, rfl, hasc, hlen, q⟩ := h
  show t_cue_of K E _ [some (.str z), some (.int last), none, none, none, none, none, none] H
  unfold t_cue_of
  wtm_at "go"
  refine ⟨z, " ", rfl, rfl, blank_ne, by omega, fun p H1 hp e1 ha1 => ?_⟩
  have hmany := split_many (z := z) (y := " ") (by rw [blank_tl]; simp)
  wtm_at "go"
  refine l_L ha1 ?_
  wtm_at "go"
  refine d_2 (fun h2 => ?_) (fun h2 => ?_)
  · rw [List.length_map] at h2
    wtm_at "go"
    refine q _ H1 e1 ?_
    have : cueOf z last = .none := by
      unfold cueOf
      split
      · rename_i a b c d r e
        rw [e] at h2; simp at h2; omega
      · rfl
    rw [this]; exact .non
  · rw [List.length_map] at h2
    obtain ⟨a, b, c, d, rest, hws⟩ : ∃ a b c d rest, Txt.split z " " = a :: b :: c :: d :: rest := by
      match hs : Txt.split z " ", h2 with
      | a :: b :: c :: d :: rest, _ => exact ⟨a, b, c, d, rest, rfl⟩
      | [], h => simp at h
      | [_], h => simp at h
      | [_, _], h => simp at h
      | [_, _, _], h => simp at h
    have hmem : ∀ w ∈ Txt.split z " ", Asc w ∧ w.length ≤ 100000 := fun w hw => ⟨split_asc hasc hw, by have := split_short hw; omega⟩
    rw [hws] at ha1 hmem hmany
    have hcue : cueOf z last = if rowBad a b c d rest = false ∧ isCue (rowD a b c d rest) last = true then rowD a b c d rest else .none := by
      unfold cueOf
      rw [hws]
    simp only [List.length_cons] at hmany
    wtm_at "go"
    refine .inl ⟨p, _, rfl, SqL.of ha1, fun p2 H2 hp2 e2 ha2 => ?_⟩
    rw [show (3 : Int) = ((3 : Nat) : Int) from rfl, cutV_take (by simp)] at ha2
    have ha2 : H2 p2 = some (.lst ([a, b, c].map V.str)) := ha2
    refine ⟨p2, rfl, ⟨_, SqL.of ha2⟩, lc_rps0 (walk_list (xs := [a, b, c].map V.str)) ([a, b, c].map numD) (by simp) (by simp) (fun _ => rfl) (fun H' e => SqL.of (e.get0 ha2)) ?_ ?_⟩
    · intro j y H' dd Q' hy hdd e qq
      rw [List.getElem?_map] at hy hdd
      cases hw : [a, b, c][j]? with
      | none => rw [hw] at hy; cases hy
      | some w =>
        rw [hw] at hy hdd
        cases hy; cases hdd
        have hwm : w ∈ a :: b :: c :: d :: rest := by
          have := List.mem_of_getElem? hw
          simp only [List.mem_cons, List.not_mem_nil, or_false] at this
          rcases this with h | h | h <;> simp [h]
        show tCall _ _ _ _ [some (.str z), some (.int last), some (.ref p), none, none, none, none, some (.str w)] H' Q'
        wtm_at "go"
        exact ⟨w, rfl, (hmem w hwm).1, (hmem w hwm).2, fun H4 e4 => qq _ H4 e4 optRp⟩
    intro D acc H3 hD ha3 e3 hA3
    have hacc := hA3.nums
    subst hacc
    have e13 := e2.trans e3
    wtm_at "go"
    refine a_ixL (e13.get0 ha1) atI_3 ?_
    wtm_at "go"
    -- follow
    have fol : ∀ (De : Ends) , (∀ vf H4, Ex [] H3 H4 → Rp H4 (if d = "-" then .none else numD d) vf → De.nx [some (.str z), some (.int last), some (.ref p), some (.ref D), some vf, none, none, none] H4) → (if decide (d = "-") = true then tC .non [some (.str z), some (.int last), some (.ref p), some (.ref D), none, none, none, none] H3 fun x H4 => De.nx [some (.str z), some (.int last), some (.ref p), some (.ref D), some x, none, none, none] H4
        else tCall (sp_number_of K) [] E (tCons (tOp (oIx K) (tVar 2) (tC (.int 3))) tNil) [some (.str z), some (.int last), some (.ref p), some (.ref D), none, none, none, none] H3 fun x H4 => De.nx [some (.str z), some (.int last), some (.ref p), some (.ref D), some x, none, none, none] H4) := by
      intro De hDe
      refine d_2 (fun hd => ?_) (fun hd => ?_)
      · wtm_at "go"
        exact hDe _ H3 .refl (by rw [if_pos hd]; exact .non)
      · wtm_at "go"
        refine a_ixL (e13.get0 ha1) atI_3 ?_
        wtm_at "go"
        exact ⟨d, rfl, (hmem d (by simp)).1, (hmem d (by simp)).2, fun H4 e4 => hDe _ H4 e4 (by rw [if_neg hd]; exact optRp)⟩
    refine fol { nx := _, rt := Q } fun vf H4 e4 rf => ?_
    have e14 := e13.trans e4
    wtm_at "go"
    refine .inl ⟨p, _, rfl, SqL.of (e14.get0 ha1), fun p5 H5 hp5 e5 ha5 => ?_⟩
    rw [show (4 : Int) = ((4 : Nat) : Int) from rfl, cutV_drop (by simp)] at ha5
    have ha5 : H5 p5 = some (.lst (rest.map V.str)) := ha5
    refine ⟨p5, rfl, ⟨_, SqL.of ha5⟩, lc_rps0 (walk_list (xs := rest.map V.str)) (rest.map entOf) (by simp) (by simp; omega) (fun _ => rfl) (fun H' e => SqL.of (e.get0 ha5)) ?_ ?_⟩
    · intro j y H' dd Q' hy hdd e qq
      rw [List.getElem?_map] at hy hdd
      cases hw : rest[j]? with
      | none => rw [hw] at hy; cases hy
      | some w =>
        rw [hw] at hy hdd
        cases hy; cases hdd
        have hwm : w ∈ a :: b :: c :: d :: rest := by
          have := List.mem_of_getElem? hw
          simp [this]
        show tCall _ _ _ _ [some (.str z), some (.int last), some (.ref p), some (.ref D), some vf, none, none, some (.str w)] H' Q'
        wtm_at "go"
        exact ⟨w, rfl, (hmem w hwm).1, (hmem w hwm).2, fun v H4 e4 rv => qq _ H4 e4 rv⟩
    intro D2 acc2 H6 hD2 ha6 e6 hA6
    have e36 := (e4.trans e5).trans e6
    have e06 := e1.trans (e13.trans e36)
    have ha3' := e36.get0 ha3
    have rf6 := (rf.ex e5).ex e6
    have none_ : rowBad a b c d rest = true → Q .non H6 := fun hbad => q _ H6 e06 (by rw [hcue, if_neg (by rw [hbad]; simp)]; exact .non)
    wtm_at "go"
    refine .inl ⟨D, _, rfl, .inl (SqL.of ha3'), rfl, by simp [flat_opt], ?_⟩
    have hin : inV .non ([a, b, c].map fun w => optV (numOf (tl w))) = (isNone (numD a) || (isNone (numD b) || isNone (numD c))) := by
      simp only [inV, List.map_cons, List.map_nil, List.any_cons, List.any_nil, eqV_non, Bool.or_false]
      rfl
    rw [if_neg Bool.false_ne_true, hin]
    wtm_at "go"
    refine b_2 (fun hb1 => ?_) (fun hb1 => ?_)
    · refine b_t rfl ?_
      wtm_at "go"
      refine none_ ?_
      unfold rowBad
      cases h1 : isNone (numD a) <;> cases h2 : isNone (numD b) <;> cases h3 : isNone (numD c) <;> simp_all
    · wtm_at "go"
      refine .inr (.inl ⟨.none, rest.map entOf, .non, .lst (SqL.of ha6) hA6.dp, by decide +kernel, ?_, ?_⟩)
      · exact shaped_of (show PyData.canLay0 (.list (rest.map entOf)) = true from (ents_layD rest).1) (by
          have h : PyData.depth (.list (rest.map entOf)) ≤ 3 := (ents_layD rest).2
          omega)
      wtm_at "go"
      refine b_2 (fun hb2 => ?_) (fun hb2 => ?_)
      · refine b_t rfl ?_
        wtm_at "go"
        refine none_ ?_
        have : rest.any (fun w => isNone (entOf w)) = true := by
          rw [List.any_map] at hb2
          simpa [eqv_none, Function.comp] using hb2
        unfold rowBad
        rw [this]; simp
      · have hb2' : rest.any (fun w => isNone (entOf w)) = false := by
          rw [List.any_map] at hb2
          simpa [eqv_none, Function.comp] using hb2
        wtm_at "go"
        rw [isNone_non rf6]
        have go_on : (isNone (if d = "-" then PyData.none else numD d) && !decide (d = "-")) = false → ∀ H7, Ex [] H6 H7 → (tSeq (tAsg (tTupF (tCons (tOp (oIx K) (tVar 3) (tC (.int 0))) (tCons (tCB (oTuple K) (tCons (tVar 5) tNil)) (tCons (tOp (oIx K) (tVar 3) (tC (.int 1))) (tCons (tOp (oIx K) (tVar 3) (tC (.int 2))) (tCons (tVar 4) tNil)))))) (gName 6))
            (tRet (tIf (tB (tCall (sp_is_cue K) [] E (tCons (tVar 6) (tCons (tVar 1) tNil)))) (tVar 6) (tC .non)))) { nx := fun _ H' => Q .non H', rt := Q } [some (.str z), some (.int last), some (.ref p), some (.ref D), some vf, some (.ref D2), none, none] H7 := by
          intro hfo H7 e7
          have hgood : rowBad a b c d rest = false := by
            unfold rowBad
            rw [hfo, hb2']
            cases h1 : isNone (numD a) <;> cases h2 : isNone (numD b) <;> cases h3 : isNone (numD c) <;> simp_all
          wtm_at "go"
          refine a_ixL (e7.get0 ha3') atI_0 ?_
          wtm_at "go"
          refine r_tuple (e7.get0 ha6) (hA6.ex e7) fun vt H8 e8 rt => ?_
          wtm_at "go"
          refine a_ixL (e8.get0 (e7.get0 ha3')) atI_1 ?_
          wtm_at "go"
          refine a_ixL (e8.get0 (e7.get0 ha3')) atI_2 ?_
          wtm_at "go"
          refine r_mk (.cons optRp (.cons rt (.cons optRp (.cons optRp (.cons ((rf6.ex e7).ex e8) .nil))))) (by simp) fun vq H9 e9 rq => ?_
          have rq : Rp H9 (rowD a b c d rest) vq := rq
          wtm_at "go"
          refine ⟨vq, _, last, rfl, rq, shaped_rowD .., ?_⟩
          wtm_at "go"
          have e09 := ((e06.trans e7).trans e8).trans e9
          refine b_2 (fun hc => ?_) (fun hc => ?_)
          · wtm_at "go"
            exact q _ H9 e09 (by rw [hcue, if_pos ⟨hgood, hc⟩]; exact rq)
          · wtm_at "go"
            exact q _ H9 e09 (by rw [hcue, if_neg (by rw [hc]; simp)]; exact .non)
        refine b_2 (fun hf => ?_) (fun hf => ?_)
        · wtm_at "go"
          refine a_ixL ((e13.trans e36).get0 ha1) atI_3 ?_
          wtm_at "go"
          refine d_2 (fun hd => ?_) (fun hd => ?_)
          · wtm_at "go"
            refine none_ ?_
            unfold rowBad
            rw [hf, decide_eq_false hd]; simp
          · have hd' : d = "-" := Classical.byContradiction hd
            refine i_next ?_
            dsimp only
            exact go_on (by rw [decide_eq_true hd']; simp) H6 .refl
        · refine b_f rfl ?_
          refine i_next ?_
          dsimp only
          exact go_on (by rw [hf]; rfl) H6 .refl
end Lc
/-! P12: texts read and written. -/
namespace Lc
open PySem PySem.Spec PyProof.Rows L2 TL
/-! ### read -/
def rowsOf (z : Str) : List Str := if z = "" then [] else Txt.split z "\n"
/-- the first row that is none, or all cues -/
def readM : Int → Nat → List Str → Except Nat (List PyData)
  | _, _, [] => .ok []
  | last, k, r :: rs => match cueOf r last with
    | .tuple (.int n :: xs) => if k = 40 then .error k else (match readM n (k + 1) rs with
      | .ok ds => .ok (.tuple (.int n :: xs) :: ds)
      | .error j => .error j)
    | _ => .error k
theorem cueOf_form {z : Str} {last : Int} (h : cueOf z last ≠ .none) : ∃ n es u w f, cueOf z last = .tuple [.int n, es, u, w, f] ∧ isCue (cueOf z last) last = true ∧ SeqAt.shaped (cueOf z last) = true := by
  unfold cueOf at h ⊢
  split
  · rename_i a b c d rest hs
    rw [hs] at h
    split
    · rename_i hc
      obtain ⟨n, es, u, w, f, e⟩ := isCue_form hc.2
      exact ⟨n, es, u, w, f, e, hc.2, shaped_rowD ..⟩
    · rename_i hc
      simp only [if_neg hc] at h; exact absurd rfl h
  · rename_i hs
    split at h
    · rename_i a b c d rest e
      exact absurd e (hs a b c d rest)
    · exact absurd rfl h
def sp_read (K : PySem.W.Frag) : Sp := fun vs H Q _ => ∃ z ds, vs = [.str z] ∧ Asc z ∧ z.length ≤ 100000 ∧ readM (-1) 0 (rowsOf z) = .ok ds ∧ ∀ v H', Ex [] H H' → Rp H' (.tuple ds) v → Q v H'
def N_read : List Str := ["text", "found", "number", "row", "cue"]
def t_read (r_BadText : TA → TS) (K : PySem.W.Frag) (E : XK) : TS :=
  (tSeq (tAsg (tLstF tNil) (gName 1))
  (tSeq (tFor (iEnumA K (tCons (tIf (tTest (tOp (oNe K) (tVar 0) (tC (.str "")))) (tM1 oSplit (tVar 0) (tC (.str "\n"))) (tLstF tNil)) tNil)) (gTup K 2 (gCons (gName 2) (gCons (gName 3) gNil)))
    (tSeq (tAsg (tCall (sp_cue_of K) [] E (tCons (tVar 3) (tCons (tIf (tTest (tOp (oNe K) (tVar 1) (tLstF tNil))) (tOp (oIx K) (tOp (oIx K) (tVar 1) (tUn (rU fun i => .int (-i)) (tC (.int 1)))) (tC (.int 0))) (tOp oSub (tC (.int 0)) (tC (.int 1)))) tNil))) (gName 4))
  (tSeq (tIfS (tOr (tTest (tOp oIsN (tVar 4) (tC .non))) (tTest (tOp (oEq K) (tVar 2) (tC (.int 40))))) (r_BadText (tCons (tVar 2) tNil)) tNext)
  (tDrop (tBM K "list" oAppend (tVar 1) (tCons (tVar 4) tNil))))))
  (tRet (tCB (oTuple K) (tCons (tVar 1) tNil)))))
theorem rowsOf_mem {z r : Str} (ha : Asc z) (h : r ∈ rowsOf z) : Asc r ∧ r.length ≤ z.length := by
  unfold rowsOf at h
  split at h
  · cases h
  · exact ⟨split_asc ha h, split_short h⟩
theorem rowsOf_many (z : Str) : (rowsOf z).length ≤ z.length + 1 := by
  unfold rowsOf
  split
  · simp
  · exact split_many (by rw [line_tl]; simp)
theorem cue_lay {z : Str} {last : Int} : (cueOf z last).canLay0 = true ∧ (cueOf z last).depth ≤ 4 := by
  unfold cueOf
  split
  · split
    · exact rowD_lay ..
    · exact ⟨rfl, Nat.zero_le _⟩
  · exact ⟨rfl, Nat.zero_le _⟩
/-- the rows are at hand, as a list -/
theorem rows_at {K : PySem.W.Frag} {H : Hp} {z : Str} {σ : L2.St} {Q : VK} (hz : σ[0]? = some (some (.str z))) (hl : z.length ≤ 100000) (q : ∀ p H', H p = none → Ex [] H H' → H' p = some (.lst ((rowsOf z).map V.str)) → Q (.ref p) H') :
    tIf (tTest (tOp (oNe K) (tVar 0) (tC (.str "")))) (tM1 oSplit (tVar 0) (tC (.str "\n"))) (tLstF tNil) σ H Q := by
  refine i_if (i_test (i_op (i_var hz (i_c (a_neS ?_)))))
  refine ⟨_, rfl, ?_⟩
  refine d_2 (fun h => ?_) (fun h => ?_)
  · refine i_m1 (i_var hz (i_yesS (i_c ?_)))
    refine ⟨z, "\n", rfl, rfl, line_ne, by omega, fun p H' hp e ha => q p H' hp e ?_⟩
    unfold rowsOf
    rw [if_neg h]; exact ha
  · refine i_lst (i_nil ⟨z_of (by simp), fun p H' hp e ha => q p H' hp e ?_⟩)
    unfold rowsOf
    rw [if_pos (Classical.byContradiction h)]; exact ha
theorem pure_read {K : PySem.W.Frag} (r_BadText : TA → TS) (vs : List V) (H : Hp) (Q : VK) (E : XK) (h : sp_read K vs H Q E) : t_read r_BadText K E { nx := fun _ H' => Q .non H', rt := Q } (start N_read vs) H := by
  obtain ⟨z, ds, rfl, hasc, hlen, hm, q⟩ := h
  show t_read _ K E _ [some (.str z), none, none, none, none] H
  unfold t_read
  wtm_at "go"
  refine ⟨z_of (by simp), fun a H1 ha e1 ha1 => ?_⟩
  refine i_gn ?_
  dsimp only [List.set]
  refine i_seq ?_
  refine i_forE (i_cons ?_)
  refine rows_at rfl hlen fun p H2 hp e2 hp2 => ?_
  refine i_nil ?_
  have hmany := rowsOf_many z
  have hap : a ≠ p := fun w => by rw [← w, ha1] at hp; cases hp
  refine ⟨p, _, rfl, .inl ⟨SqL.of hp2, for_enumL (K := K) (a := p) (xs := (rowsOf z).map V.str) (fun i σ H' => ∃ (xs : List V) (done rest : List PyData) (last : Int) (o2 o3 o4 : Option V), σ = [some (.str z), some (.ref a), o2, o3, o4] ∧
    H' a = some (.lst xs) ∧ RpAll H' done xs ∧ ds = done ++ rest ∧ done.length = i ∧ readM last i ((rowsOf z).drop i) = .ok rest ∧ (done = [] → last = -1) ∧ (∀ d, done.getLast? = some d → ∃ es u w f, d = .tuple [.int last, es, u, w, f]) ∧
    (∀ d ∈ done, d.canLay0 = true ∧ d.depth ≤ 4) ∧ H' p = some (.lst ((rowsOf z).map V.str)) ∧ Ex [] H H') ?_ ?_ ?_ ?_⟩⟩
  · exact ⟨[], [], ds, -1, _, _, _, rfl, e2.get0 ha1, .nil, rfl, rfl, hm, fun _ => rfl, fun d hd => (nomatch hd), fun d hd => (nomatch hd), hp2, e1.trans e2⟩
  · rintro i σ H' _ ⟨xs, done, rest, last, o2, o3, o4, rfl, _, _, _, _, _, _, _, _, hp', _⟩
    exact SqL.of hp'
  · rintro i x σ H3 H4 hx ⟨xs, done, rest, last, o2, o3, o4, rfl, ha3, hA, hds, hdl, hrd, hl0, hl1, hlay, hp3, e3⟩ e4
    obtain ⟨r, hr, rfl⟩ : ∃ r, (rowsOf z)[i]? = some r ∧ x = V.str r := by
      rw [List.getElem?_map] at hx
      cases e : (rowsOf z)[i]? with
      | none => rw [e] at hx; cases hx
      | some r => rw [e] at hx; exact ⟨r, rfl, (Option.some.inj hx).symm⟩
    have hrok := rowsOf_mem hasc (List.mem_of_getElem? hr)
    rw [drop_at hr] at hrd
    have hne : cueOf r last ≠ .none := fun w => by
      unfold readM at hrd
      rw [w] at hrd; cases hrd
    obtain ⟨n, es, u, w, f, hcf, hic, hsh⟩ := cueOf_form hne
    have hi40 : i ≠ 40 := fun w2 => by
      unfold readM at hrd
      rw [hcf] at hrd
      simp only [if_pos w2] at hrd
      cases hrd
    obtain ⟨rest', hrest, hrd'⟩ : ∃ rest', rest = cueOf r last :: rest' ∧ readM n (i + 1) ((rowsOf z).drop (i + 1)) = .ok rest' := by
      unfold readM at hrd
      rw [hcf] at hrd
      simp only [if_neg hi40] at hrd
      split at hrd
      · rename_i ds' e'
        cases hrd
        exact ⟨ds', by rw [hcf], e'⟩
      · cases hrd
    dsimp only [List.set]
    have ha4 := e4.get0 ha3
    have e04 := e3.trans e4
    have hil : i < (rowsOf z).length := (List.getElem?_eq_some_iff.mp hr).1
    -- the number ahead
    have ahead : ∀ Q' : VK, (∀ H5, Ex [] H4 H5 → Q' (.int last) H5) → tIf (tTest (tOp (oNe K) (tVar 1) (tLstF tNil))) (tOp (oIx K) (tOp (oIx K) (tVar 1) (tUn (rU fun i => .int (-i)) (tC (.int 1)))) (tC (.int 0))) (tOp oSub (tC (.int 0)) (tC (.int 1))) [some (.str z), some (.ref a), some (.int (i : Nat)), some (.str r), o4] H4 Q' := by
      intro Q' hQ'
      wtm_at "go"
      refine ⟨z_of (by simp), fun p5 H5 hp5 e5 ha5 => ?_⟩
      refine .inr ⟨.list done, .list [], .lst (SqL.of (e5.get0 ha4)) ((hA.ex e4).ex e5).dp, .lst (SqL.of ha5) .nil, shaped_of (lay_all fun d hd => (hlay d hd).1) (by
        have : PyData.depth (.list done) ≤ 5 := Nat.succ_le_succ (depth_all fun d hd => (hlay d hd).2)
        omega), shaped_nilL, ?_⟩
      rw [eqv_nilL]
      wtm_at "go"
      refine b_2 (fun hb => ?_) (fun hb => ?_)
      · have hdne : done ≠ [] := fun w => by rw [w] at hb; simp at hb
        wtm_at "go"
        have hxl := hA.length
        obtain ⟨d, hd⟩ : ∃ d, done.getLast? = some d := by
          cases w : done.getLast? with
          | none => exact absurd (List.getLast?_eq_none_iff.mp w) hdne
          | some d => exact ⟨d, rfl⟩
        obtain ⟨es', u', w', f', rfl⟩ := hl1 d hd
        rw [List.getLast?_eq_getElem?] at hd
        obtain ⟨y, hy, ry⟩ := ((hA.ex e4).ex e5).get' hd
        have hpos : 0 < done.length := List.length_pos_iff.mpr hdne
        refine a_ixL (e5.get0 ha4) (v := y) ?_ ?_
        · unfold atI ixN
          rw [if_neg (by decide), if_pos (by rw [hxl]; omega)]
          show xs[(-1 + (xs.length : Int)).toNat]? = some y
          rw [show (-1 + (xs.length : Int)).toNat = done.length - 1 by rw [hxl]; omega]
          exact hy
        · wtm_at "go"
          refine r_ix ry ix0 fun t rt => ?_
          simp only [Rp] at rt
          subst rt
          exact hQ' H5 e5
      · have hdn : done = [] := by
          cases w : done with
          | nil => rfl
          | cons _ _ => rw [w] at hb; simp at hb
        wtm_at "go"
        have := hQ' H5 e5
        rw [hl0 hdn] at this
        exact this
    refine i_seq (i_asg (i_call (i_cons (i_var rfl (i_cons ?_)))))
    refine ahead _ fun H5 e5 => ?_
    refine i_nil ?_
    refine ⟨r, last, rfl, hrok.1, by omega, fun v H6 e6 rv => ?_⟩
    wtm_at "go"
    have e06 := (e04.trans e5).trans e6
    have hnn : decide (v = .non) = false := by
      rw [isNone_non rv, hcf]; rfl
    rw [hnn]
    refine b_f rfl ?_
    wtm_at "go"
    refine d_f (by omega) ?_
    wtm_at "go"
    have ha6 := e6.get0 (e5.get0 ha4)
    refine ⟨tyL ha6, ?_⟩
    wtm_at "go"
    have hxl := hA.length
    refine m_app ha6 (by rw [hxl]; omega) fun H7 e7 ha7 => ?_
    wtm_at "go"
    refine ⟨_, done ++ [cueOf r last], rest', n, _, _, _, rfl, ha7, (((((hA.ex e4).ex e5).ex e6).ex e7)).snoc (rv.ex e7), by rw [hds, hrest]; simp, by simp [hdl], hrd', fun w => by simp at w, fun d hd => ?_, fun d hd => ?_, e7.get1 hap.symm ((e6.get0 (e5.get0 (e4.get0 hp3)))), e06.loc1 e7 ha⟩
    · rw [List.getLast?_concat] at hd
      cases hd
      exact ⟨es, u, w, f, hcf⟩
    · rcases List.mem_append.mp hd with hd | hd
      · exact hlay d hd
      · rw [List.mem_singleton.mp hd]; exact cue_lay
  · rintro σ H3 ⟨xs, done, rest, last, o2, o3, o4, rfl, ha3, hA, hds, hdl, hrd, hl0, hl1, hlay, hp3, e3⟩
    rw [List.length_map, List.drop_length] at hrd
    cases hrd
    rw [List.append_nil] at hds
    subst hds
    wtm_at "go"
    exact r_tuple ha3 hA fun x H4 e4 r4 => q x H4 (e3.trans e4) r4
end Lc
/-! P13: texts written; what is written is read. -/
namespace Lc
open PySem PySem.Spec PyProof.Rows L2 TL
def srcS : Src → Str
  | .lv n => numS n
  | .pt n => "p" ++ numS n
def wordS (e : Ent) : Str := (numS e.1 ++ ":") ++ srcS e.2
def folS : Option Int → Str
  | none => "-"
  | some n => numS n
def wordsS (c : Cue) : List Str := [numS c.num, numS c.up, numS c.down, folS c.fol] ++ c.ents.map wordS
def rowS (c : Cue) : Str := Str.join " " (wordsS c)
def textS (cs : List Cue) : Str := Str.join "\n" (cs.map rowS)
/-! ### lengths and signs -/
theorem sum_le {α : Type} {f : α → Nat} {m : Nat} : ∀ {l : List α}, (∀ x ∈ l, f x ≤ m) → (l.map f).sum ≤ l.length * m
  | [], _ => by simp
  | a :: l, h => by
    have := h a (by simp)
    have ih := sum_le (l := l) fun x hx => h x (by simp [hx])
    simp only [List.map_cons, List.sum_cons, List.length_cons, Nat.succ_mul]
    omega
theorem len_app (x y : Str) : (x ++ y).length = x.length + y.length := by rw [len_tl, len_tl, len_tl, tl_append, List.length_append]
theorem colon_len : (":" : Str).length = 1 := by decide +kernel
theorem blank_len : (" " : Str).length = 1 := by decide +kernel
theorem line_len : ("\n" : Str).length = 1 := by decide +kernel
theorem p_len : ("p" : Str).length = 1 := by decide +kernel
theorem dash_len : ("-" : Str).length = 1 := by decide +kernel
theorem Src.bd {s : Src} (h : s.Ok) : ∃ n : Int, 0 ≤ n ∧ n ≤ 100 ∧ (s = .lv n ∨ (s = .pt n ∧ n ≤ 9)) := by
  cases s with
  | lv n => exact ⟨n, h.1, h.2, .inl rfl⟩
  | pt n => exact ⟨n, h.1, by have := h.2; omega, .inr ⟨rfl, h.2⟩⟩
theorem srcS_len {s : Src} (h : s.Ok) : (srcS s).length ≤ 4 := by
  cases s with
  | lv n =>
    have h : 0 ≤ n ∧ n ≤ 100 := h
    have := numS_len h.1 (show n < 1000 by omega)
    show (numS n).length ≤ 4
    omega
  | pt n =>
    have h : 0 ≤ n ∧ n ≤ 9 := h
    have := numS_len h.1 (show n < 1000 by omega)
    show (("p" : Str) ++ numS n).length ≤ 4
    rw [len_app, p_len]; omega
def EntOk (e : Ent) : Prop := 0 ≤ e.1 ∧ e.1 ≤ 11 ∧ e.2.Ok
theorem wordS_len {e : Ent} (h : EntOk e) : (wordS e).length ≤ 8 := by
  have h1 := numS_len h.1 (show e.1 < 1000 by have := h.2.1; omega)
  have h2 := srcS_len h.2.2
  unfold wordS
  rw [len_app, len_app, colon_len]; omega
theorem EntsOk.all {es : List Ent} (h : EntsOk (-1) es) : ∀ e ∈ es, EntOk e := fun e he => by
  obtain ⟨a, b, c⟩ := h.above e he
  exact ⟨by omega, b, c⟩
theorem folS_len {c : Cue} (h : c.Ok) : (folS c.fol).length ≤ 8 := by
  cases e : c.fol with
  | none => show ("-" : Str).length ≤ 8; rw [dash_len]; decide
  | some n =>
    have := h.fol n e
    have := numS_len (i := n) (by omega) (by omega)
    show (numS n).length ≤ 8
    omega
theorem wordsS_len {c : Cue} (h : c.Ok) : ∀ w ∈ wordsS c, w.length ≤ 8 := fun w hw => by
  unfold wordsS at hw
  rcases List.mem_append.mp hw with hw | hw
  · simp only [List.mem_cons, List.not_mem_nil, or_false] at hw
    rcases hw with rfl | rfl | rfl | rfl
    · have := numS_len h.num.1 (show c.num < 1000 by have := h.num.2; omega); omega
    · have := numS_len h.up.1 (show c.up < 1000 by have := h.up.2; omega); omega
    · have := numS_len h.down.1 (show c.down < 1000 by have := h.down.2; omega); omega
    · exact folS_len h
  · obtain ⟨e, he, rfl⟩ := List.mem_map.mp hw
    exact wordS_len (h.ents.all e he)
theorem wordsS_many {c : Cue} (h : c.Ok) : (wordsS c).length ≤ 16 := by
  have := ents_length h.ents (by omega) (by omega)
  unfold wordsS
  simp; omega
theorem row_fits {c : Cue} (h : c.Ok) : ((wordsS c).map (·.length)).sum + (wordsS c).length * (" " : Str).length ≤ 144 := by
  have h1 : ((wordsS c).map (·.length)).sum ≤ (wordsS c).length * 8 := sum_le (wordsS_len h)
  have h2 := wordsS_many h
  rw [blank_len]
  have : (wordsS c).length * 8 ≤ 16 * 8 := Nat.mul_le_mul_right 8 h2
  omega
theorem rowS_len {c : Cue} (h : c.Ok) : (rowS c).length ≤ 144 := Nat.le_trans (StrLaws.join_length_le _ _) (row_fits h)
theorem text_fits {cs : List Cue} (h : ∀ c ∈ cs, c.Ok) (hl : cs.length ≤ 40) : ((cs.map rowS).map (·.length)).sum + (cs.map rowS).length * ("\n" : Str).length ≤ 6000 := by
  have h1 : ((cs.map rowS).map (·.length)).sum ≤ (cs.map rowS).length * 144 := sum_le fun r hr => by
    obtain ⟨c, hc, rfl⟩ := List.mem_map.mp hr
    exact rowS_len (h c hc)
  rw [List.length_map] at h1
  rw [line_len, List.length_map]
  have : cs.length * 144 ≤ 40 * 144 := Nat.mul_le_mul_right 144 hl
  omega
theorem textS_len {cs : List Cue} (h : ∀ c ∈ cs, c.Ok) (hl : cs.length ≤ 40) : (textS cs).length ≤ 6000 := Nat.le_trans (StrLaws.join_length_le _ _) (text_fits h hl)
/-- signs of a joined text -/
theorem joinL_all {S : List Nat} {P : Nat → Prop} (hS : ∀ c ∈ S, P c) : ∀ {ps : List (List Nat)}, (∀ p ∈ ps, ∀ c ∈ p, P c) → ∀ c ∈ joinL S ps, P c
  | [], _, c, hc => by cases hc
  | [q], h, c, hc => h q (by simp) c hc
  | q :: r :: ps, h, c, hc => by
    have e : joinL S (q :: r :: ps) = q ++ (S ++ joinL S (r :: ps)) := rfl
    rw [e] at hc
    rcases List.mem_append.mp hc with hc | hc
    · exact h q (by simp) c hc
    · rcases List.mem_append.mp hc with hc | hc
      · exact hS c hc
      · exact joinL_all hS (fun p hp => h p (by simp [hp])) c hc
theorem join_all {y : Str} {P : Nat → Prop} (hS : ∀ c ∈ tl y, P c) {ps : List Str} (h : ∀ p ∈ ps, ∀ c ∈ tl p, P c) : ∀ c ∈ tl (Str.join y ps), P c := by
  rw [tl_join]
  refine joinL_all hS fun p hp => ?_
  obtain ⟨q, hq, rfl⟩ := List.mem_map.mp hp
  exact h q hq
/-- the signs that words have -/
def Sg (c : Nat) : Prop := (48 ≤ c ∧ c ≤ 57) ∨ c = 58 ∨ c = 112 ∨ c = 45
theorem numS_sg {i : Int} (h : 0 ≤ i) : ∀ c ∈ tl (numS i), 48 ≤ c ∧ c ≤ 57 := by rw [tl_numS h]; exact numL_digits _
theorem srcS_sg {s : Src} (h : s.Ok) : ∀ c ∈ tl (srcS s), (48 ≤ c ∧ c ≤ 57) ∨ c = 112 := fun c hc => by
  cases s with
  | lv n => exact .inl (numS_sg (show 0 ≤ n from h.1) c hc)
  | pt n =>
    have hc : c ∈ tl (("p" : Str) ++ numS n) := hc
    rw [tl_append, p_tl] at hc
    rcases List.mem_append.mp hc with hc | hc
    · exact .inr (List.mem_singleton.mp hc)
    · exact .inl (numS_sg (show 0 ≤ n from h.1) c hc)
theorem wordS_sg {e : Ent} (h : EntOk e) : ∀ c ∈ tl (wordS e), Sg c := fun c hc => by
  unfold wordS at hc
  rw [tl_append, tl_append, colon_tl] at hc
  rcases List.mem_append.mp hc with hc | hc
  · rcases List.mem_append.mp hc with hc | hc
    · exact .inl (numS_sg h.1 c hc)
    · exact .inr (.inl (List.mem_singleton.mp hc))
  · rcases srcS_sg h.2.2 c hc with z | z
    · exact .inl z
    · exact .inr (.inr (.inl z))
theorem wordsS_sg {c : Cue} (h : c.Ok) : ∀ w ∈ wordsS c, ∀ x ∈ tl w, Sg x := fun w hw => by
  unfold wordsS at hw
  rcases List.mem_append.mp hw with hw | hw
  · simp only [List.mem_cons, List.not_mem_nil, or_false] at hw
    rcases hw with rfl | rfl | rfl | rfl
    · exact fun x hx => .inl (numS_sg h.num.1 x hx)
    · exact fun x hx => .inl (numS_sg h.up.1 x hx)
    · exact fun x hx => .inl (numS_sg h.down.1 x hx)
    · intro x hx
      cases e : c.fol with
      | none => rw [e] at hx; have hx : x ∈ tl "-" := hx; rw [dash_tl] at hx; exact .inr (.inr (.inr (List.mem_singleton.mp hx)))
      | some n => rw [e] at hx; exact .inl (numS_sg (show 0 ≤ n by have := h.fol n e; omega) x hx)
  · obtain ⟨e, he, rfl⟩ := List.mem_map.mp hw
    exact wordS_sg (h.ents.all e he)
theorem rowS_sg {c : Cue} (h : c.Ok) : ∀ x ∈ tl (rowS c), Sg x ∨ x = 32 := join_all (P := fun x => Sg x ∨ x = 32) (fun x hx => by rw [blank_tl] at hx; exact .inr (List.mem_singleton.mp hx)) fun w hw x hx => .inl (wordsS_sg h w hw x hx)
theorem textS_asc {cs : List Cue} (h : ∀ c ∈ cs, c.Ok) : Asc (textS cs) := join_all (P := fun c => c < 128) (fun c hc => by rw [line_tl] at hc; rw [List.mem_singleton.mp hc]; decide) fun r hr c hc => by
  obtain ⟨cu, hcu, rfl⟩ := List.mem_map.mp hr
  have hx := rowS_sg (h cu hcu) c hc
  unfold Sg at hx
  omega
/-! ### reading what is written -/
theorem join2 (a b : Str) : Txt.join ":" [a, b] = (a ++ ":") ++ b := by rw [join_eq]; rfl
theorem isP_lv {n : Int} (h : 0 ≤ n) : isP (numS n) = false := by
  unfold isP
  rw [decide_eq_false_iff_not]
  intro e
  have := numS_sg h 112 (List.mem_of_mem_take (by rw [e]; simp))
  omega
theorem isP_pt {n : Int} : isP (("p" : Str) ++ numS n) = true := by
  unfold isP
  rw [tl_append, p_tl]; rfl
theorem entOf_word {e : Ent} (h : EntOk e) : entOf (wordS e) = Ent.py e := by
  have hs : Txt.split (wordS e) ":" = [numS e.1, srcS e.2] := by
    unfold wordS
    rw [← join2]
    refine split_join (s := 58) (S := []) colon_tl (by decide +kernel) (by simp) fun p hp => ?_
    simp only [List.mem_cons, List.not_mem_nil, or_false] at hp
    rcases hp with rfl | rfl
    · exact numS_free h.1 (.inr (by decide))
    · intro hc
      have := srcS_sg h.2.2 58 hc
      omega
  unfold entOf
  rw [hs]
  simp only
  have hl : numOf (tl (numS e.1)) = some e.1.toNat := numOf_numS h.1 (by have := h.2.1; omega)
  have h0 : ((e.1.toNat : Nat) : Int) = e.1 := by have := h.1; omega
  obtain ⟨l, s⟩ := e
  cases s with
  | lv n =>
    have hn : 0 ≤ n ∧ n ≤ 100 := h.2.2
    rw [show srcS (.lv n) = numS n from rfl, isP_lv hn.1]
    simp only [Bool.false_eq_true, if_false]
    rw [hl, numOf_numS hn.1 (by omega)]
    simp only
    rw [h0, show ((n.toNat : Nat) : Int) = n by omega]; rfl
  | pt n =>
    have hn : 0 ≤ n ∧ n ≤ 9 := h.2.2
    rw [show srcS (.pt n) = ("p" : Str) ++ numS n from rfl, isP_pt]
    simp only [if_true]
    rw [hl, tl_append, p_tl]
    show (match some l.toNat, numOf (tl (numS n)) with | some l, some w => _ | _, _ => _) = _
    rw [numOf_numS hn.1 (by omega)]
    simp only
    rw [h0, show ((n.toNat : Nat) : Int) = n by omega]; rfl
theorem numD_numS {i : Int} (h0 : 0 ≤ i) (h1 : i < 1000) : numD (numS i) = .int i := by
  unfold numD
  rw [numOf_numS h0 h1]
  show PyData.int ((i.toNat : Nat) : Int) = _
  rw [show ((i.toNat : Nat) : Int) = i by omega]
theorem folD {c : Cue} (h : c.Ok) : (if folS c.fol = "-" then PyData.none else numD (folS c.fol)) = folPy c.fol ∧ (c.fol = none ↔ folS c.fol = "-") := by
  cases e : c.fol with
  | none => exact ⟨if_pos rfl, ⟨fun _ => rfl, fun _ => rfl⟩⟩
  | some n =>
    have hn := h.fol n e
    have hne : folS (some n) ≠ "-" := fun z => by
      have := numS_sg (show 0 ≤ n by omega) 45 (by rw [show numS n = "-" from z, dash_tl]; simp)
      omega
    refine ⟨?_, ⟨fun z => (by cases z), fun z => absurd z hne⟩⟩
    rw [if_neg hne]
    exact numD_numS (by omega) (by omega)
theorem cueOf_row {c : Cue} (h : c.Ok) {last : Int} (hl : last < c.num) : cueOf (rowS c) last = c.py := by
  have hs : Txt.split (rowS c) " " = wordsS c := by
    unfold rowS
    rw [← join_eq]
    refine split_join (s := 32) (S := []) blank_tl (by decide +kernel) (by simp [wordsS]) fun p hp hc => ?_
    have := wordsS_sg h p hp 32 hc
    unfold Sg at this
    omega
  have hd := folD h
  have hrow : rowD (numS c.num) (numS c.up) (numS c.down) (folS c.fol) (c.ents.map wordS) = c.py := by
    unfold rowD
    rw [numD_numS h.num.1 (by have := h.num.2; omega), numD_numS h.up.1 (by have := h.up.2; omega), numD_numS h.down.1 (by have := h.down.2; omega), hd.1, List.map_map]
    have : c.ents.map (entOf ∘ wordS) = c.ents.map Ent.py := List.map_congr_left fun e he => entOf_word (h.ents.all e he)
    rw [this]; rfl
  have hbad : rowBad (numS c.num) (numS c.up) (numS c.down) (folS c.fol) (c.ents.map wordS) = false := by
    unfold rowBad
    rw [numD_numS h.num.1 (by have := h.num.2; omega), numD_numS h.up.1 (by have := h.up.2; omega), numD_numS h.down.1 (by have := h.down.2; omega), hd.1]
    have h1 : (c.ents.map wordS).any (fun w => isNone (entOf w)) = false := by
      rw [List.any_eq_false]
      intro w hw
      obtain ⟨e, he, rfl⟩ := List.mem_map.mp hw
      rw [entOf_word (h.ents.all e he)]
      simp [Ent.py, isNone]
    rw [h1]
    cases e : c.fol with
    | none => rw [decide_eq_true (show folS none = "-" from rfl)]; rfl
    | some n => rfl
  unfold cueOf
  rw [hs]
  show (if rowBad (numS c.num) (numS c.up) (numS c.down) (folS c.fol) (c.ents.map wordS) = false ∧ isCue (rowD (numS c.num) (numS c.up) (numS c.down) (folS c.fol) (c.ents.map wordS)) last = true then rowD (numS c.num) (numS c.up) (numS c.down) (folS c.fol) (c.ents.map wordS) else .none) = _
  rw [hrow, if_pos ⟨hbad, h.is hl⟩]
theorem readM_rows : ∀ {cs : List Cue} {last : Int} {k : Nat}, CuesOk last cs → k + cs.length ≤ 40 → readM last k (cs.map rowS) = .ok (cs.map Cue.py)
  | [], _, _, _, _ => rfl
  | c :: cs, last, k, h, hk => by
    rw [List.length_cons] at hk
    have ih := readM_rows (k := k + 1) h.2.2 (by omega)
    rw [List.map_cons, readM, cueOf_row h.2.1 h.1]
    simp only [Cue.py, if_neg (show ¬ k = 40 by omega), ih]
    rfl
theorem rowS_ne {c : Cue} (h : c.Ok) : tl (rowS c) ≠ [] := by
  unfold rowS
  rw [tl_join]
  have h1 : tl (numS c.num) ≠ [] := by rw [tl_numS h.num.1]; exact numL_ne _
  show joinL _ (tl (numS c.num) :: tl (numS c.up) :: _) ≠ []
  intro e
  have e' : tl (numS c.num) ++ (tl " " ++ joinL (tl " ") (tl (numS c.up) :: _)) = [] := e
  exact h1 (List.append_eq_nil_iff.mp e').1
theorem rowsOf_text {cs : List Cue} (h : ∀ c ∈ cs, c.Ok) : rowsOf (textS cs) = cs.map rowS := by
  unfold rowsOf
  cases cs with
  | nil => rw [if_pos (show textS [] = "" from ext_tl (by decide +kernel))]; rfl
  | cons c r =>
    rw [if_neg]
    · unfold textS
      rw [← join_eq]
      refine split_join (s := 10) (S := []) line_tl (by decide +kernel) (by simp) fun p hp hc => ?_
      obtain ⟨cu, hcu, rfl⟩ := List.mem_map.mp hp
      have := rowS_sg (h cu hcu) 10 hc
      unfold Sg at this
      omega
    · intro e
      have e2 : tl (textS (c :: r)) = [] := by rw [e]; decide +kernel
      unfold textS at e2
      rw [tl_join] at e2
      cases r with
      | nil => exact rowS_ne (h c (by simp)) e2
      | cons d r => exact rowS_ne (h c (by simp)) (List.append_eq_nil_iff.mp (show tl (rowS c) ++ (tl "\n" ++ joinL (tl "\n") _) = [] from e2)).1
theorem read_text {cs : List Cue} (h : CuesOk (-1) cs) (hl : cs.length ≤ 40) : readM (-1) 0 (rowsOf (textS cs)) = .ok (cs.map Cue.py) := by
  rw [rowsOf_text fun c hc => (h.mem c hc).2]
  exact readM_rows h (by omega)
/-! ### word_of -/
def sp_word_of (K : PySem.W.Frag) : Sp := fun vs H Q _ => ∃ v e, vs = [v] ∧ Rp H (Ent.py e) v ∧ EntOk e ∧ Q (.str (wordS e)) H
def N_word_of : List Str := ["one", "light", "what"]
def t_word_of (K : PySem.W.Frag) (E : XK) : TS :=
  (tSeq (tAsg (tVar 0) (gTup K 2 (gCons (gName 1) (gCons (gName 2) gNil))))
  (tRet (tOp oAdd (tOp oAdd (tCB oStr (tCons (tVar 1) tNil)) (tC (.str ":"))) (tIf (tB (tCB (oIsi K) (tCons (tVar 2) (tCons (tC (.ty "tuple")) tNil)))) (tOp oAdd (tC (.str "p")) (tCB oStr (tCons (tOp (oIx K) (tVar 2) (tC (.int 1))) tNil))) (tCB oStr (tCons (tVar 2) tNil))))))
theorem s_of {n : Nat} (h : n ≤ 1000000) : n ≤ sizeLine := z_of h
theorem pure_word_of {K : PySem.W.Frag} (vs : List V) (H : Hp) (Q : VK) (E : XK) (h : sp_word_of K vs H Q E) : t_word_of K E { nx := fun _ H' => Q .non H', rt := Q } (start N_word_of vs) H := by
  obtain ⟨v, e, rfl, r, hok, q⟩ := h
  show t_word_of K E _ [some v, none, none] H
  unfold t_word_of
  wtm_at "go"
  refine got_ent r fun w rw_ => ?_
  dsimp only [List.set]
  wtm_at "go"
  have h1 := numS_len hok.1 (show e.1 < 1000 by have := hok.2.1; omega)
  have h2 := srcS_len hok.2.2
  refine ⟨e.1, rfl, log_small hok.1 (by have := hok.2.1; omega), ?_⟩
  wtm_at "go"
  refine a_str (z_of (by rw [colon_len]; have : (Str.ofString (toString e.1)).length = (numS e.1).length := rfl; omega)) ?_
  wtm_at "go"
  refine r_tup rw_ ?_
  wtm_at "go"
  have fin : ∀ H', H' = H → oAdd (.str (numS e.1 ++ ":")) (.str (srcS e.2)) H' Q := by
    intro H' e'
    subst e'
    refine a_str (z_of (by rw [len_app, colon_len]; omega)) q
  obtain ⟨l, s⟩ := e
  cases s with
  | lv n =>
    have hn : 0 ≤ n ∧ n ≤ 100 := hok.2.2
    refine b_f rfl ?_
    have rw_ : Rp H (.int n) w := rw_
    simp only [Rp] at rw_
    subst rw_
    wtm_at "go"
    refine ⟨n, rfl, log_small hn.1 (by omega), ?_⟩
    exact fin H rfl
  | pt n =>
    have hn : 0 ≤ n ∧ n ≤ 9 := hok.2.2
    refine b_t rfl ?_
    wtm_at "go"
    refine r_ix (show Rp H (.tuple [.str "part", .int n]) w from rw_) ix1 fun x rx => ?_
    simp only [Rp] at rx
    subst rx
    wtm_at "go"
    refine ⟨n, rfl, log_small hn.1 (by omega), ?_⟩
    have := numS_len hn.1 (show n < 1000 by omega)
    refine a_str (z_of (by rw [p_len]; have : (Str.ofString (toString n)).length = (numS n).length := rfl; omega)) ?_
    exact fin H rfl
/-! ### written -/
/-- a cue's parts, into five names -/
theorem got_cue {K : PySem.W.Frag} {H : Hp} {σ : L2.St} {c : Cue} {x : V} {i1 i2 i3 i4 i5 : Nat} {Q : L2.St → Hp → Prop} (r : Rp H c.py x)
    (h : ∀ ve vf, Rp H (.tuple (c.ents.map Ent.py)) ve → Rp H (folPy c.fol) vf → Q (((((σ.set i1 (some (.int c.num))).set i2 (some ve)).set i3 (some (.int c.up))).set i4 (some (.int c.down))).set i5 (some vf)) H) :
    gTup K 5 (gCons (gName i1) (gCons (gName i2) (gCons (gName i3) (gCons (gName i4) (gCons (gName i5) gNil))))) x σ H Q := by
  obtain ⟨T, ys, rfl, hT, hA⟩ := Rp.tup_inv r
  obtain ⟨y1, r1, rfl, h1, hA⟩ := hA.cons_inv
  obtain ⟨y2, r2, rfl, h2, hA⟩ := hA.cons_inv
  obtain ⟨y3, r3, rfl, h3, hA⟩ := hA.cons_inv
  obtain ⟨y4, r4, rfl, h4, hA⟩ := hA.cons_inv
  obtain ⟨y5, r5, rfl, h5, hA⟩ := hA.cons_inv
  have e := hA.nil_inv
  subst e
  simp only [Rp] at h1 h3 h4
  subst h1 h3 h4
  exact ⟨T, _, rfl, hT.sq, rfl, _, _, rfl, _, _, rfl, _, _, rfl, _, _, rfl, _, _, rfl, rfl, h _ _ h2 h5⟩
theorem RpAll.strs_inv {H : Hp} : ∀ {is : List Str} {xs : List V}, RpAll H (is.map .str) xs → xs = is.map V.str
  | [], _, h => h.nil_inv
  | i :: is, _, h => by
    obtain ⟨x, r, rfl, h1, h2⟩ := h.cons_inv
    simp only [Rp] at h1
    subst h1
    rw [RpAll.strs_inv h2]; rfl
def sp_written (K : PySem.W.Frag) : Sp := fun vs H Q _ => ∃ v cs, vs = [v] ∧ Rp H (cuesPy cs) v ∧ CuesOk (-1) cs ∧ cs.length ≤ 40 ∧ ∀ H', Ex [] H H' → Q (.str (textS cs)) H'
def N_written : List Str := ["cues", "found", "number", "entries", "up", "down", "follow", "words", "one"]
def t_written (c_need_cues : Sp) (K : PySem.W.Frag) (E : XK) : TS :=
  (tSeq (tDrop (tCall c_need_cues [] E (tCons (tVar 0) tNil)))
  (tSeq (tAsg (tLstF tNil) (gName 1))
  (tSeq (tFor (iTup K (tVar 0)) (gTup K 5 (gCons (gName 2) (gCons (gName 3) (gCons (gName 4) (gCons (gName 5) (gCons (gName 6) gNil))))))
    (tSeq (tAsg (tLstF (tCons (tCB oStr (tCons (tVar 2) tNil)) (tCons (tCB oStr (tCons (tVar 4) tNil)) (tCons (tCB oStr (tCons (tVar 5) tNil)) (tCons (tIf (tTest (tOp oIsN (tVar 6) (tC .non))) (tC (.str "-")) (tCB oStr (tCons (tVar 6) tNil))) tNil))))) (gName 7))
  (tDrop (tBM K "list" oAppend (tVar 1) (tCons (tM1 (oJoin K) (tC (.str " ")) (tOp oAdd (tVar 7) (tLc (iTup K (tVar 3)) (gName 8) tYes (tCall (sp_word_of K) [] E0 (tCons (tVar 8) tNil)) [8]))) tNil)))))
  (tRet (tM1 (oJoin K) (tC (.str "\n")) (tVar 1))))))
/-- '-' or the number -/
theorem r_fol {K : PySem.W.Frag} {H : Hp} {σ : L2.St} {i : Nat} {f : Option Int} {vf : V} {Q : VK} (hσ : σ[i]? = some (some vf)) (r : Rp H (folPy f) vf) (hf : ∀ n, f = some n → 1 ≤ n ∧ n ≤ 40) (q : Q (.str (folS f)) H) :
    tIf (tTest (tOp oIsN (tVar i) (tC .non))) (tC (.str "-")) (tCB oStr (tCons (tVar i) tNil)) σ H Q := by
  refine i_if (i_test (i_op (i_var hσ (i_c (a_isN ⟨_, rfl, ?_⟩)))))
  cases f with
  | none =>
    simp only [folPy, Rp] at r
    subst r
    exact d_t rfl q
  | some n =>
    simp only [folPy, Rp] at r
    subst r
    refine d_f (by simp) ?_
    refine i_cb (i_cons (i_var hσ (i_nil ?_)))
    have := hf n rfl
    exact ⟨n, rfl, log_small (by omega) (by omega), q⟩
theorem pure_written {K : PySem.W.Frag} {c_need_cues : Sp} (h1 : Le (sp_need_cues K) c_need_cues) (vs : List V) (H : Hp) (Q : VK) (E : XK) (h : sp_written K vs H Q E) : t_written c_need_cues K E { nx := fun _ H' => Q .non H', rt := Q } (start N_written vs) H := by
  obtain ⟨v, cs, rfl, r, hok, hlen, q⟩ := h
  show t_written _ K E _ [some v, none, none, none, none, none, none, none, none] H
  unfold t_written
  wtm_at "go"
  refine h1 _ _ _ _ (ok_need_cues r hok hlen fun H1 e1 => ?_)
  wtm_at "go"
  refine ⟨z_of (by simp), fun a H2 ha e2 ha2 => ?_⟩
  have e12 := e1.trans e2
  obtain ⟨A, xs, rfl, hT, hA⟩ := Rp.tup_inv (r.ex e12)
  wtm_at "go"
  refine ⟨A, rfl, ⟨xs, hT.sq⟩, for_tup (K := K) (a := A) (xs := xs) (fun i σ H' => ∃ (o2 o3 o4 o5 o6 o7 : Option V), σ = [some (.ref A), some (.ref a), o2, o3, o4, o5, o6, o7, none] ∧ H' a = some (.lst (((cs.take i).map rowS).map V.str)) ∧ Ex [a] H2 H') ?_ ?_ ?_ ?_⟩
  · exact ⟨_, _, _, _, _, _, rfl, ha2, .refl⟩
  · rintro i σ H' _ ⟨o2, o3, o4, o5, o6, o7, rfl, _, e⟩
    exact (e.isT hT).sq
  · rintro i x σ H3 hx ⟨o2, o3, o4, o5, o6, o7, rfl, ha3, e3⟩
    obtain ⟨d, hd, rx⟩ := hA.get hx
    obtain ⟨c, hc, rfl⟩ := get_cue hd
    have hcok := (hok.mem c (List.mem_of_getElem? hc)).2
    refine got_cue (rx.ex e3) fun ve vf rve rvf => ?_
    dsimp only [List.set]
    wtm_at "go"
    refine ⟨c.num, rfl, log_small hcok.num.1 (by have := hcok.num.2; omega), ?_⟩
    wtm_at "go"
    refine ⟨c.up, rfl, log_small hcok.up.1 (by have := hcok.up.2; omega), ?_⟩
    wtm_at "go"
    refine ⟨c.down, rfl, log_small hcok.down.1 (by have := hcok.down.2; omega), ?_⟩
    refine i_cons ?_
    refine r_fol (K := K) rfl rvf hcok.fol ?_
    wtm_at "go"
    refine ⟨z_of (by simp), fun w H4 hw e4 hw4 => ?_⟩
    have hwa : w ≠ a := fun z => by rw [z, ha3] at hw; cases hw
    wtm_at "go"
    refine ⟨tyL (e4.get0 ha3), ?_⟩
    wtm_at "go"
    obtain ⟨B, zs, rfl, hTB, hAB⟩ := (rve.ex e4).tup_inv
    have hel := ents_length hcok.ents (by omega) (by omega)
    have hzl := hAB.length
    rw [List.length_map] at hzl
    refine ⟨B, rfl, ⟨zs, hTB.sq⟩, lc_rps0 (walk_tup (xs := zs)) ((c.ents.map wordS).map .str) (by simp [hzl]) (by omega) (fun _ => rfl) (fun H' e => (e.isT hTB).sq) ?_ ?_⟩
    · intro j y H' dd Q' hy hdd e qq
      obtain ⟨d2, hd2, ry⟩ := hAB.get hy
      obtain ⟨en, hen, rfl⟩ := get_ent hd2
      have hdd' : dd = .str (wordS en) := by
        rw [List.getElem?_map, List.getElem?_map, hen] at hdd
        exact (Option.some.inj hdd).symm
      subst hdd'
      show tCall _ _ _ _ [some (.ref A), some (.ref a), some (.int c.num), some (.ref B), some (.int c.up), some (.int c.down), some vf, some (.ref w), some y] H' Q'
      wtm_at "go"
      exact ⟨y, en, rfl, ry.ex e, hcok.ents.all en (List.mem_of_getElem? hen), qq _ H' .refl .str⟩
    intro D acc H5 hD ha5 e5 hA5
    have hacc := hA5.strs_inv
    subst hacc
    have hw5 := e5.get0 hw4
    refine a_lst (xs := [numS c.num, numS c.up, numS c.down, folS c.fol].map V.str) hw5 ha5 (z_of (by simp; omega)) fun p H6 hp e6 ha6 => ?_
    rw [← List.map_append] at ha6
    refine ⟨" ", p, wordsS c, rfl, rfl, SqL.of ha6, Nat.le_trans (row_fits hcok) (by decide), ?_⟩
    have e46 := (e4.trans e5).trans e6
    wtm_at "go"
    refine m_app (e46.get0 ha3) (by simp; omega) fun H7 e7 ha7 => ?_
    wtm_at "go"
    refine ⟨_, _, _, _, _, _, rfl, ?_, (e3.trans e46.any).trans e7⟩
    rw [take_snoc hc, List.map_append, List.map_append]
    exact ha7
  · rintro σ H3 ⟨o2, o3, o4, o5, o6, o7, rfl, ha3, e3⟩
    have hl := hA.length
    rw [List.length_map] at hl
    rw [hl, List.take_length] at ha3
    wtm_at "go"
    refine ⟨"\n", a, cs.map rowS, rfl, rfl, SqL.of ha3, Nat.le_trans (text_fits (fun c hc => (hok.mem c hc).2) hlen) (by decide), ?_⟩
    exact q H3 (e1.trans (e2.loc1 e3 ha))
end Lc
/-! L15: the law of k15. -/
namespace Lc
open PySem PySem.Spec PyProof.Rows L2 TL
def sp_law (K : PySem.W.Frag) : Sp := fun vs H Q _ => ∃ (a : Addr) (ns : List Int), vs = [.ref a] ∧ SqF K H a (ns.map V.int) ∧ ∀ H', Q (.bl true) H'
def N_law : List Str := ["_law_script", "_law_state", "_law_turn", "_law_cues_here", "_law_rows", "_law_number", "_law_entries_here", "_law_up", "_law_down", "_law_follow", "_law_row", "_law_light", "_law_what_here", "_law_text"]
def t_law (K : PySem.W.Frag) (E : XK) : TS :=
  (tSeq (tAsg (tCall (sp__law_start K) [] E (tCons (tVar 0) tNil)) (gName 1))
  (tSeq (tFor (iRng1 (tCons (tC (.int 3)) tNil)) (gName 2)
    (tSeq (tPar 3 4 (tCons (tCall (sp__law_cues K) [] E (tCons (tVar 1) (tCons (tOp (oIx K) (tLstF (tCons (tC (.int 4)) (tCons (tC (.int 40)) tNil))) (tCall (sp__law_drawn K) [] E (tCons (tVar 1) (tCons (tC (.int 2)) tNil)))) tNil))) (tCons (tLstF tNil) tNil)))
  (tSeq (tFor (iTup K (tVar 3)) (gTup K 5 (gCons (gName 5) (gCons (gName 6) (gCons (gName 7) (gCons (gName 8) (gCons (gName 9) gNil))))))
    (tSeq (tAsg (tOp oAdd (tOp oAdd (tM1 (oJoin K) (tC (.str " ")) (tLstF (tCons (tCB oStr (tCons (tVar 5) tNil)) (tCons (tCB oStr (tCons (tVar 7) tNil)) (tCons (tCB oStr (tCons (tVar 8) tNil)) tNil))))) (tC (.str " "))) (tIf (tTest (tOp oIsN (tVar 9) (tC .non))) (tC (.str "-")) (tCB oStr (tCons (tVar 9) tNil)))) (gName 10))
  (tSeq (tFor (iTup K (tVar 6)) (gTup K 2 (gCons (gName 11) (gCons (gName 12) gNil)))
    (tAsg (tOp oAdd (tOp oAdd (tOp oAdd (tOp oAdd (tVar 10) (tC (.str " "))) (tCB oStr (tCons (tVar 11) tNil))) (tC (.str ":"))) (tIf (tB (tCB (oIsi K) (tCons (tVar 12) (tCons (tC (.ty "tuple")) tNil)))) (tOp oAdd (tC (.str "p")) (tCB oStr (tCons (tOp (oIx K) (tVar 12) (tC (.int 1))) tNil))) (tCB oStr (tCons (tVar 12) tNil)))) (gName 10)))
  (tDrop (tBM K "list" oAppend (tVar 4) (tCons (tVar 10) tNil))))))
  (tSeq (tAsg (tM1 (oJoin K) (tC (.str "\n")) (tVar 4)) (gName 13))
  (tIfS (tOr (tNot (tB (tCall (sp__law_same K 8) [] E (tCons (tCall (sp_written K) [] E (tCons (tVar 3) tNil)) (tCons (tVar 13) tNil))))) (tNot (tB (tCall (sp__law_same K 8) [] E (tCons (tCall (sp_read K) [] E (tCons (tVar 13) tNil)) (tCons (tVar 3) tNil)))))) (tRet (tC (.bl false))) tNext)))))
  (tRet (tAndV (tOp (oEq K) (tCall (sp_read K) [] E (tCons (tC (.str "")) tNil)) (tTupF tNil)) (tOp (oEq K) (tCall (sp_written K) [] E (tCons (tTupF tNil) tNil)) (tC (.str "")))))))
theorem joinL_snoc {S : List Nat} : ∀ {ps : List (List Nat)} {p : List Nat}, ps ≠ [] → joinL S (ps ++ [p]) = joinL S ps ++ S ++ p
  | [q], p, _ => by show q ++ (S ++ p) = q ++ S ++ p; rw [List.append_assoc]
  | q :: r :: ps, p, _ => by
    have ih := joinL_snoc (S := S) (ps := r :: ps) (p := p) (by simp)
    show q ++ (S ++ joinL S ((r :: ps) ++ [p])) = (q ++ (S ++ joinL S (r :: ps))) ++ S ++ p
    rw [ih]; simp only [List.append_assoc]
theorem join_snoc {y w : Str} {ws : List Str} (h : ws ≠ []) : (Str.join y ws ++ y) ++ w = Str.join y (ws ++ [w]) := ext_tl (by
  rw [tl_append, tl_append, tl_join, tl_join, List.map_append]
  show _ = joinL (tl y) (ws.map tl ++ [tl w])
  rw [joinL_snoc (by intro e; exact h (List.map_eq_nil_iff.mp e))])
/-- a row so far -/
def part (c : Cue) (j : Nat) : Str := Str.join " " ([numS c.num, numS c.up, numS c.down, folS c.fol] ++ (c.ents.take j).map wordS)
theorem part_len {c : Cue} (h : c.Ok) (j : Nat) : (part c j).length ≤ 144 := by
  refine Nat.le_trans (StrLaws.join_length_le _ _) ?_
  have hs : ∀ w ∈ [numS c.num, numS c.up, numS c.down, folS c.fol] ++ (c.ents.take j).map wordS, w.length ≤ 8 := fun w hw => wordsS_len h w (by
    unfold wordsS
    rcases List.mem_append.mp hw with hw | hw
    · exact List.mem_append_left _ hw
    · obtain ⟨e, he, rfl⟩ := List.mem_map.mp hw
      exact List.mem_append_right _ (List.mem_map_of_mem (List.mem_of_mem_take he)))
  have h1 : (([numS c.num, numS c.up, numS c.down, folS c.fol] ++ (c.ents.take j).map wordS).map (·.length)).sum ≤ ([numS c.num, numS c.up, numS c.down, folS c.fol] ++ (c.ents.take j).map wordS).length * 8 := sum_le hs
  have h2 : ([numS c.num, numS c.up, numS c.down, folS c.fol] ++ (c.ents.take j).map wordS).length ≤ 16 := by
    have := ents_length h.ents (by omega) (by omega)
    simp; omega
  rw [blank_len]
  omega
theorem part_step {c : Cue} {j : Nat} {e : Ent} (h : c.ents[j]? = some e) : ((((part c j ++ " ") ++ numS e.1) ++ ":") ++ srcS e.2) = part c (j + 1) := by
  have e1 : ((((part c j ++ " ") ++ numS e.1) ++ ":") ++ srcS e.2) = (part c j ++ " ") ++ wordS e := ext_tl (by
    unfold wordS
    simp only [tl_append, List.append_assoc])
  rw [e1]
  unfold part
  rw [join_snoc (by simp), take_snoc h, List.map_append, ← List.append_assoc]; rfl
theorem pure_law {K : PySem.W.Frag} (vs : List V) (H : Hp) (Q : VK) (E : XK) (h : sp_law K vs H Q E) : t_law K E { nx := fun _ H' => Q .non H', rt := Q } (start N_law vs) H := by
  obtain ⟨a, ns, rfl, hS, q⟩ := h
  show t_law K E _ [some (.ref a), none, none, none, none, none, none, none, none, none, none, none, none, none] H
  unfold t_law
  wtm_at "go"
  refine ⟨a, ns, rfl, hS, fun st H1 hst e1 hd1 => ?_⟩
  wtm_at "go"
  refine ⟨3, rfl, by decide, by decide, for_range (lo := 0) (n := 3) (fun i σ H' => ∃ (o2 o3 o4 o5 o6 o7 o8 o9 o10 o11 o12 o13 : Option V), σ = [some (.ref a), some (.ref st), o2, o3, o4, o5, o6, o7, o8, o9, o10, o11, o12, o13] ∧ DS K H' st) ⟨_, _, _, _, _, _, _, _, _, _, _, _, rfl, hd1⟩ ?_ ?_⟩
  · rintro i σ H2 hi ⟨o2, o3, o4, o5, o6, o7, o8, o9, o10, o11, o12, o13, rfl, hd2⟩
    wtm_at "go"
    refine pick hd2 rfl rfl (by decide) (by decide) fun i3 x3 H3 hx3 hi3 e3 hd3 => ?_
    obtain ⟨m, rfl, hm0, hm1⟩ : ∃ o : Int, x3 = .int o ∧ 0 ≤ o ∧ o ≤ 40 := by
      have hm := List.mem_of_getElem? hx3
      simp only [List.mem_cons, List.not_mem_nil, or_false] at hm
      rcases hm with rfl | rfl <;> exact ⟨_, rfl, by decide, by decide⟩
    wtm_at "go"
    refine ⟨st, m, rfl, hd3, hm0, hm1, fun v cs H4 e4 hd4 hok hlen _ rv => ?_⟩
    wtm_at "go"
    refine ⟨z_of (by simp), fun rl H5 hrl e5 ha5 => ?_⟩
    have hd5 := hd4.ex0 e5
    have hne := hd4.ne hrl
    obtain ⟨A, xs, rfl, hT, hA⟩ := Rp.tup_inv (rv.ex e5)
    have hcl : cs.length ≤ 40 := by omega
    wtm_at "go"
    refine ⟨A, rfl, ⟨xs, hT.sq⟩, for_tup (K := K) (a := A) (xs := xs) (fun j σ H' => ∃ (o5 o6 o7 o8 o9 o10 o11 o12 : Option V), σ = [some (.ref a), some (.ref st), some (.int (0 + (i : Nat))), some (.ref A), some (.ref rl), o5, o6, o7, o8, o9, o10, o11, o12, o13] ∧
      H' rl = some (.lst (((cs.take j).map rowS).map V.str)) ∧ Ex [rl] H5 H') ?_ ?_ ?_ ?_⟩
    · exact ⟨_, _, _, _, _, _, _, _, rfl, ha5, .refl⟩
    · rintro j σ H' _ ⟨o5, o6, o7, o8, o9, o10, o11, o12, rfl, _, e⟩
      exact (e.isT hT).sq
    · rintro j x σ H6 hx ⟨o5, o6, o7, o8, o9, o10, o11, o12, rfl, ha6, e6⟩
      obtain ⟨d, hd, rx⟩ := hA.get hx
      obtain ⟨c, hc, rfl⟩ := get_cue hd
      have hcok := (hok.mem c (List.mem_of_getElem? hc)).2
      refine got_cue (rx.ex e6) fun ve vf rve rvf => ?_
      dsimp only [List.set]
      wtm_at "go"
      refine ⟨c.num, rfl, log_small hcok.num.1 (by have := hcok.num.2; omega), ?_⟩
      wtm_at "go"
      refine ⟨c.up, rfl, log_small hcok.up.1 (by have := hcok.up.2; omega), ?_⟩
      wtm_at "go"
      refine ⟨c.down, rfl, log_small hcok.down.1 (by have := hcok.down.2; omega), ?_⟩
      wtm_at "go"
      refine ⟨z_of (by simp), fun w H7 hw e7 hw7 => ?_⟩
      have hl1 := numS_len hcok.num.1 (show c.num < 1000 by have := hcok.num.2; omega)
      have hl2 := numS_len hcok.up.1 (show c.up < 1000 by have := hcok.up.2; omega)
      have hl3 := numS_len hcok.down.1 (show c.down < 1000 by have := hcok.down.2; omega)
      have hl4 := folS_len hcok
      have hj3 : (Str.join " " [numS c.num, numS c.up, numS c.down]).length ≤ 12 := by
        refine Nat.le_trans (StrLaws.join_length_le _ _) ?_
        simp only [List.map_cons, List.map_nil, List.sum_cons, List.sum_nil, List.length_cons, List.length_nil, blank_len]
        omega
      refine ⟨" ", w, [numS c.num, numS c.up, numS c.down], rfl, rfl, SqL.of hw7, ?_, ?_⟩
      · simp only [List.map_cons, List.map_nil, List.sum_cons, List.sum_nil, List.length_cons, List.length_nil, blank_len]
        omega
      wtm_at "go"
      refine a_str (z_of (by rw [blank_len]; omega)) ?_
      refine r_fol (K := K) rfl (rvf.ex e7) hcok.fol ?_
      refine a_str (z_of (by rw [len_app, blank_len]; omega)) ?_
      have h0 : (Str.join " " [numS c.num, numS c.up, numS c.down] ++ " ") ++ folS c.fol = part c 0 := by
        rw [join_snoc (by simp)]; rfl
      rw [h0]
      wtm_at "go"
      obtain ⟨B, zs, rfl, hTB, hAB⟩ := (rve.ex e7).tup_inv
      refine ⟨B, rfl, ⟨zs, hTB.sq⟩, for_tup (K := K) (a := B) (xs := zs) (fun k σ H' => ∃ (o11 o12 : Option V), σ = [some (.ref a), some (.ref st), some (.int (0 + (i : Nat))), some (.ref A), some (.ref rl), some (.int c.num), some (.ref B), some (.int c.up), some (.int c.down), some vf, some (.str (part c k)), o11, o12, o13] ∧ H' = H7) ⟨_, _, rfl, rfl⟩ ?_ ?_ ?_⟩
      · rintro k σ H' _ ⟨_, _, _, rfl⟩
        exact hTB.sq
      · rintro k y σ H' hy ⟨o11, o12, rfl, hH⟩
        have hH := hH.symm
        subst hH
        obtain ⟨d2, hd2, ry⟩ := hAB.get hy
        obtain ⟨en, hen, rfl⟩ := get_ent hd2
        have henok := hcok.ents.all en (List.mem_of_getElem? hen)
        have hpl := part_len hcok k
        have hnl := numS_len henok.1 (show en.1 < 1000 by have := henok.2.1; omega)
        have hsl := srcS_len henok.2.2
        refine got_ent ry fun u ru => ?_
        dsimp only [List.set]
        wtm_at "go"
        refine a_str (z_of (by rw [blank_len]; omega)) ?_
        wtm_at "go"
        refine ⟨en.1, rfl, log_small henok.1 (by have := henok.2.1; omega), ?_⟩
        refine a_str (i := part c k ++ " ") (j := numS en.1) (z_of (by rw [len_app, blank_len]; omega)) ?_
        wtm_at "go"
        refine a_str (z_of (by rw [len_app, len_app, blank_len, colon_len]; omega)) ?_
        wtm_at "go"
        refine r_tup ru ?_
        wtm_at "go"
        have fin : ∀ Q' : VK, Q' (.str (part c (k + 1))) H7 → oAdd (.str (((part c k ++ " ") ++ numS en.1) ++ ":")) (.str (srcS en.2)) H7 Q' := by
          intro Q' hQ'
          refine a_str (z_of (by rw [len_app, len_app, len_app, blank_len, colon_len]; omega)) ?_
          rw [part_step hen]; exact hQ'
        obtain ⟨l, s⟩ := en
        cases s with
        | lv n =>
          have hn : 0 ≤ n ∧ n ≤ 100 := henok.2.2
          refine b_f rfl ?_
          have ru : Rp H7 (.int n) u := ru
          simp only [Rp] at ru
          subst ru
          wtm_at "go"
          refine ⟨n, rfl, log_small hn.1 (by omega), ?_⟩
          refine fin _ ?_
          wtm_at "go"
          exact ⟨_, _, rfl, rfl⟩
        | pt n =>
          have hn : 0 ≤ n ∧ n ≤ 9 := henok.2.2
          refine b_t rfl ?_
          wtm_at "go"
          refine r_ix (show Rp H7 (.tuple [.str "part", .int n]) u from ru) ix1 fun x rx => ?_
          simp only [Rp] at rx
          subst rx
          wtm_at "go"
          refine ⟨n, rfl, log_small hn.1 (by omega), ?_⟩
          have := numS_len hn.1 (show n < 1000 by omega)
          refine a_str (i := "p") (j := numS n) (z_of (by rw [p_len]; omega)) ?_
          refine fin _ ?_
          wtm_at "go"
          exact ⟨_, _, rfl, rfl⟩
      · rintro σ H' ⟨o11, o12, rfl, hH⟩
        have hH := hH.symm
        subst hH
        have hzl := hAB.length
        rw [List.length_map] at hzl
        have hrow : part c zs.length = rowS c := by
          unfold part rowS wordsS
          rw [hzl, List.take_length]
        rw [hrow]
        wtm_at "go"
        refine ⟨tyL (e7.get0 ha6), ?_⟩
        wtm_at "go"
        refine m_app (e7.get0 ha6) (by simp; omega) fun H8 e8 ha8 => ?_
        wtm_at "go"
        refine ⟨_, _, _, _, _, _, _, _, rfl, ?_, (e6.trans e7.any).trans e8⟩
        rw [take_snoc hc, List.map_append, List.map_append]
        exact ha8
    · rintro σ H6 ⟨o5, o6, o7, o8, o9, o10, o11, o12, rfl, ha6, e6⟩
      have hl := hA.length
      rw [List.length_map] at hl
      rw [hl, List.take_length] at ha6
      have hcok : ∀ c ∈ cs, c.Ok := fun c hc => (hok.mem c hc).2
      have hd6 := hd5.ex1 e6 hne.symm
      have rv6 := (rv.ex e5).ex e6
      wtm_at "go"
      refine ⟨"\n", rl, cs.map rowS, rfl, rfl, SqL.of ha6, Nat.le_trans (text_fits hcok hcl) (by decide), ?_⟩
      wtm_at "go"
      refine ⟨_, cs, rfl, rv6, hok, hcl, fun H7 e7 => ?_⟩
      wtm_at "go"
      refine ⟨_, _, .str (textS cs), rfl, .str, .str, .inl trivial, fun H8 e8 => ?_⟩
      wtm_at "go"
      refine b_f rfl ?_
      have e68 := e7.trans e8
      wtm_at "go"
      refine ⟨textS cs, cs.map Cue.py, rfl, textS_asc hcok, by have := textS_len hcok hcl; omega, read_text hok hcl, fun u H9 e9 ru => ?_⟩
      wtm_at "go"
      refine ⟨_, _, cuesPy cs, rfl, Rp.rq ru, ((rv6.ex e68).ex e9).rq, (Fl.cues hok (by omega)).le (by decide), fun H10 e10 => ?_⟩
      wtm_at "go"
      refine b_f rfl ?_
      wtm_at "go"
      exact ⟨_, _, _, _, _, _, _, _, _, _, _, _, rfl, ((hd6.ex0 e68).ex0 e9).ex0 e10⟩
  · rintro σ H2 ⟨o2, o3, o4, o5, o6, o7, o8, o9, o10, o11, o12, o13, rfl, hd2⟩
    wtm_at "go"
    have ht : textS [] = "" := ext_tl (by decide +kernel)
    refine ⟨"", [], rfl, fun c hc => ?_, by decide +kernel, ?_, fun u H3 e3 ru => ?_⟩
    · have : tl "" = [] := by decide +kernel
      rw [this] at hc; cases hc
    · unfold rowsOf
      rw [if_pos rfl]; rfl
    wtm_at "go"
    refine r_mk .nil (by simp) fun nl H4 e4 rnl => ?_
    refine r_eq (ru.ex e4) rnl shaped_nil shaped_nil ?_
    have hq : PyData.eqv (.tuple []) (.tuple []) = true := by decide +kernel
    rw [hq]
    wtm_at "go"
    refine b_t rfl ?_
    wtm_at "go"
    refine r_mk .nil (by simp) fun nl2 H5 e5 rnl2 => ?_
    wtm_at "go"
    refine ⟨nl2, [], rfl, rnl2, trivial, by simp, fun H6 e6 => ?_⟩
    wtm_at "go"
    rw [ht]
    simpa using q H6
end Lc
/-! Lc7: a def's promise at its own place. -/
namespace Lc
open PySem PySem.Spec PyProof.Rows L2
theorem ok0 {P : Program} {w : World} {K : PySem.W.Frag} {mg : Str → Option Value} {base : Heap} {x : Str} {params : Arguments} {body : List Stmt} {scope : Scope} {f : Addr} {fd : FuncData} {N ps : List Str} {k : Nat} {sp : Sp} {t : XK → TS}
    (F : FunD K x x params body scope [] [] f fd) (S : FnScope N ps scope) (len : ∀ vs H Q E, sp vs H Q E → vs.length = ps.length)
    (hp : ∀ vs H Q E, sp vs H Q E → t E { nx := fun _ H' => Q .non H', rt := Q } (start N vs) H)
    (hbody : ∀ (cdv : Value) (A : Around) (outer : List Env) (s : Shared) (H : Hp) (E : XK), Room k (A.deeper (envOfC x scope s.heap.objs.size f cdv)) → PSs (cxOf CX0 P w K mg base N x scope f cdv A outer s H E).nox body (t E)) :
    FnOk P w K mg base CX0 (k + 1) f fd ps sp := F.ok S len fun cdv A outer s H vs Q E hr h => ⟨t E, (hbody cdv A outer s H E hr).nox, hp vs H Q E h⟩
end Lc
namespace Lc
open PySem PySem.Spec PyProof.Rows L2
def top (i : Nat) : Stmt := PySem.Challenge.pw_lightcues_k15_written_and_read.main.body.getD i (.Pass ⟨0, 0, 0, 0⟩)
structure Txt (mg : Str → Option Value) : Prop where
  LIGHTS : ∃ t, mg "LIGHTS" = some (.int 12 t)
  MOST_BEATS : ∃ t, mg "MOST_BEATS" = some (.int 20 t)
  MOST_CUES : ∃ t, mg "MOST_CUES" = some (.int 40 t)
  MOST_FOLLOW : ∃ t, mg "MOST_FOLLOW" = some (.int 40 t)
  MOST_LEVEL : ∃ t, mg "MOST_LEVEL" = some (.int 100 t)
  MOST_NUMBER : ∃ t, mg "MOST_NUMBER" = some (.int 999 t)
  PARTS : ∃ t, mg "PARTS" = some (.int 10 t)
  FIGURES : ∃ t, mg "FIGURES" = some (.str "0123456789" t)
  NONE : ∃ t, mg "NONE" = some (.str "-" t)
  PART : ∃ t, mg "PART" = some (.str "part" t)
  SIGN : ∃ t, mg "SIGN" = some (.str "p" t)
  f_bool : mg "bool" = none
  f_enumerate : mg "enumerate" = none
  f_int : mg "int" = none
  f_isinstance : mg "isinstance" = none
  f_len : mg "len" = none
  f_list : mg "list" = none
  f_range : mg "range" = none
  f_str : mg "str" = none
  f_tuple : mg "tuple" = none
abbrev s__law_start : Stmt := top 29
theorem sc__law_start : FnScope N__law_start ["_law_script"] (defScope s__law_start) := ⟨rfl, rfl, rfl, by decide +kernel, rfl, by decide +kernel, by decide +kernel⟩
abbrev s__law_drawn : Stmt := top 30
theorem sc__law_drawn : FnScope N__law_drawn ["_law_state", "_law_many"] (defScope s__law_drawn) := ⟨rfl, rfl, rfl, by decide +kernel, rfl, by decide +kernel, by decide +kernel⟩
abbrev s__law_what : Stmt := top 33
theorem sc__law_what : FnScope N__law_what ["_law_state"] (defScope s__law_what) := ⟨rfl, rfl, rfl, by decide +kernel, rfl, by decide +kernel, by decide +kernel⟩
abbrev s__law_entries : Stmt := top 34
theorem sc__law_entries : FnScope N__law_entries ["_law_state", "_law_often"] (defScope s__law_entries) := ⟨rfl, rfl, rfl, by decide +kernel, rfl, by decide +kernel, by decide +kernel⟩
abbrev s__law_cue : Stmt := top 35
theorem sc__law_cue : FnScope N__law_cue ["_law_state", "_law_number"] (defScope s__law_cue) := ⟨rfl, rfl, rfl, by decide +kernel, rfl, by decide +kernel, by decide +kernel⟩
abbrev s__law_cues : Stmt := top 36
theorem sc__law_cues : FnScope N__law_cues ["_law_state", "_law_most"] (defScope s__law_cues) := ⟨rfl, rfl, rfl, by decide +kernel, rfl, by decide +kernel, by decide +kernel⟩
abbrev s__law_same : Stmt := top 31
theorem sc__law_same : FnScope N__law_same ["_law_found", "_law_due"] (defScope s__law_same) := ⟨rfl, rfl, rfl, by decide +kernel, rfl, by decide +kernel, by decide +kernel⟩
abbrev s_is_number : Stmt := top 13
theorem sc_is_number : FnScope N_is_number ["thing", "low", "high"] (defScope s_is_number) := ⟨rfl, rfl, rfl, by decide +kernel, rfl, by decide +kernel, by decide +kernel⟩
abbrev s_is_what : Stmt := top 14
theorem sc_is_what : FnScope N_is_what ["what"] (defScope s_is_what) := ⟨rfl, rfl, rfl, by decide +kernel, rfl, by decide +kernel, by decide +kernel⟩
abbrev s_are_entries : Stmt := top 15
theorem sc_are_entries : FnScope N_are_entries ["entries"] (defScope s_are_entries) := ⟨rfl, rfl, rfl, by decide +kernel, rfl, by decide +kernel, by decide +kernel⟩
abbrev s_is_cue : Stmt := top 16
theorem sc_is_cue : FnScope N_is_cue ["cue", "last"] (defScope s_is_cue) := ⟨rfl, rfl, rfl, by decide +kernel, rfl, by decide +kernel, by decide +kernel⟩
abbrev s_need_cues : Stmt := top 17
theorem sc_need_cues : FnScope N_need_cues ["cues"] (defScope s_need_cues) := ⟨rfl, rfl, rfl, by decide +kernel, rfl, by decide +kernel, by decide +kernel⟩
abbrev s_word_of : Stmt := top 22
theorem sc_word_of : FnScope N_word_of ["one"] (defScope s_word_of) := ⟨rfl, rfl, rfl, by decide +kernel, rfl, by decide +kernel, by decide +kernel⟩
abbrev s_written : Stmt := top 23
theorem sc_written : FnScope N_written ["cues"] (defScope s_written) := ⟨rfl, rfl, rfl, by decide +kernel, rfl, by decide +kernel, by decide +kernel⟩
abbrev s_number_of : Stmt := top 24
theorem sc_number_of : FnScope N_number_of ["word"] (defScope s_number_of) := ⟨rfl, rfl, rfl, by decide +kernel, rfl, by decide +kernel, by decide +kernel⟩
abbrev s_entry_of : Stmt := top 25
theorem sc_entry_of : FnScope N_entry_of ["word"] (defScope s_entry_of) := ⟨rfl, rfl, rfl, by decide +kernel, rfl, by decide +kernel, by decide +kernel⟩
abbrev s_cue_of : Stmt := top 26
theorem sc_cue_of : FnScope N_cue_of ["row", "last"] (defScope s_cue_of) := ⟨rfl, rfl, rfl, by decide +kernel, rfl, by decide +kernel, by decide +kernel⟩
abbrev s_read : Stmt := top 27
theorem sc_read : FnScope N_read ["text"] (defScope s_read) := ⟨rfl, rfl, rfl, by decide +kernel, rfl, by decide +kernel, by decide +kernel⟩
abbrev s_law : Stmt := top 37
theorem sc_law : FnScope N_law ["_law_script"] (defScope s_law) := ⟨rfl, rfl, rfl, by decide +kernel, rfl, by decide +kernel, by decide +kernel⟩
abbrev FnP (K : PySem.W.Frag) (x : Str) (st : Stmt) (f : Addr) (fd : FuncData) : Prop := FunD K x x (defArgs st) (defBody st) (defScope st) [] [] f fd
theorem len__law_start {K : PySem.W.Frag} {vs : List V} {H : Hp} {Q : VK} {E : XK} (h : sp__law_start K vs H Q E) : vs.length = 1 := by
  obtain ⟨_, _, rfl, _⟩ := h
  rfl
theorem len__law_drawn {K : PySem.W.Frag} {vs : List V} {H : Hp} {Q : VK} {E : XK} (h : sp__law_drawn K vs H Q E) : vs.length = 2 := by
  obtain ⟨_, _, rfl, _⟩ := h
  rfl
theorem len__law_what {K : PySem.W.Frag} {vs : List V} {H : Hp} {Q : VK} {E : XK} (h : sp__law_what K vs H Q E) : vs.length = 1 := by
  obtain ⟨_, rfl, _⟩ := h
  rfl
theorem len__law_entries {K : PySem.W.Frag} {vs : List V} {H : Hp} {Q : VK} {E : XK} (h : sp__law_entries K vs H Q E) : vs.length = 2 := by
  obtain ⟨_, _, rfl, _⟩ := h
  rfl
theorem len__law_cue {K : PySem.W.Frag} {vs : List V} {H : Hp} {Q : VK} {E : XK} (h : sp__law_cue K vs H Q E) : vs.length = 2 := by
  obtain ⟨_, _, rfl, _⟩ := h
  rfl
theorem len__law_cues {K : PySem.W.Frag} {vs : List V} {H : Hp} {Q : VK} {E : XK} (h : sp__law_cues K vs H Q E) : vs.length = 2 := by
  obtain ⟨_, _, rfl, _⟩ := h
  rfl
theorem len_is_number {K : PySem.W.Frag} {vs : List V} {H : Hp} {Q : VK} {E : XK} (h : sp_is_number K vs H Q E) : vs.length = 3 := by
  obtain ⟨_, _, _, _, rfl, _⟩ := h
  rfl
theorem len_is_what {K : PySem.W.Frag} {vs : List V} {H : Hp} {Q : VK} {E : XK} (h : sp_is_what K vs H Q E) : vs.length = 1 := by
  obtain ⟨_, _, rfl, _⟩ := h
  rfl
theorem len_are_entries {K : PySem.W.Frag} {vs : List V} {H : Hp} {Q : VK} {E : XK} (h : sp_are_entries K vs H Q E) : vs.length = 1 := by
  obtain ⟨_, _, rfl, _⟩ := h
  rfl
theorem len_is_cue {K : PySem.W.Frag} {vs : List V} {H : Hp} {Q : VK} {E : XK} (h : sp_is_cue K vs H Q E) : vs.length = 2 := by
  obtain ⟨_, _, _, rfl, _⟩ := h
  rfl
theorem len_need_cues {K : PySem.W.Frag} {vs : List V} {H : Hp} {Q : VK} {E : XK} (h : sp_need_cues K vs H Q E) : vs.length = 1 := by
  obtain ⟨_, _, rfl, _⟩ := h
  rfl
theorem len_word_of {K : PySem.W.Frag} {vs : List V} {H : Hp} {Q : VK} {E : XK} (h : sp_word_of K vs H Q E) : vs.length = 1 := by
  obtain ⟨_, _, rfl, _⟩ := h
  rfl
theorem len_written {K : PySem.W.Frag} {vs : List V} {H : Hp} {Q : VK} {E : XK} (h : sp_written K vs H Q E) : vs.length = 1 := by
  obtain ⟨_, _, rfl, _⟩ := h
  rfl
theorem len_number_of {K : PySem.W.Frag} {vs : List V} {H : Hp} {Q : VK} {E : XK} (h : sp_number_of K vs H Q E) : vs.length = 1 := by
  obtain ⟨_, rfl, _⟩ := h
  rfl
theorem len_entry_of {K : PySem.W.Frag} {vs : List V} {H : Hp} {Q : VK} {E : XK} (h : sp_entry_of K vs H Q E) : vs.length = 1 := by
  obtain ⟨_, rfl, _⟩ := h
  rfl
theorem len_cue_of {K : PySem.W.Frag} {vs : List V} {H : Hp} {Q : VK} {E : XK} (h : sp_cue_of K vs H Q E) : vs.length = 2 := by
  obtain ⟨_, _, rfl, _⟩ := h
  rfl
theorem len_read {K : PySem.W.Frag} {vs : List V} {H : Hp} {Q : VK} {E : XK} (h : sp_read K vs H Q E) : vs.length = 1 := by
  obtain ⟨_, _, rfl, _⟩ := h
  rfl
theorem len_law {K : PySem.W.Frag} {vs : List V} {H : Hp} {Q : VK} {E : XK} (h : sp_law K vs H Q E) : vs.length = 1 := by
  obtain ⟨_, _, rfl, _⟩ := h
  rfl
section
variable {P : Program} {w : World} {K : PySem.W.Frag} {mg : Str → Option Value} {base : Heap}
theorem F__law_start (T : Txt mg) {f : Addr} {fd : FuncData} (F : FnP K "_law_start" s__law_start f fd) (hm : mg "_law_start" = some (.ref f)) : Fn P w K mg base CX0 "_law_start" 1 ["_law_script"] (sp__law_start K) := by
  refine Fn.mk0 (t := t__law_start K) F hm (F.bindsN fun _ _ _ _ _ _ us hl => match us, hl with | [_], _ => rfl) sc__law_start (fun vs H Q E h => len__law_start h) (pure__law_start) fun cdv A outer s H E hr => ?_
  exact (pss_cons (ps_set (i := 1) sc__law_start.nd rfl (Or.inl rfl) pe_int)
  (pss_cons (ps_for PassesOwn.never rfl (pi_list (pv 0)) (pg_name (i := 2) sc__law_start.nd rfl (by first | exact Or.inl rfl | exact Or.inr rfl))
    (pss_one (ps_set (i := 1) sc__law_start.nd rfl (Or.inl rfl) (pe_op ox_mod (pe_op ox_add (pe_op ox_add (pe_op ox_mul (pv 1) pe_int) (pv 2)) pe_int) pe_int))))
  (pss_one (ps_ret (pe_lstF (pa_cons (pv 0) (pa_cons pe_int (pa_cons (pv 1) (pa_cons pe_int pa_nil)))))))))
theorem F__law_drawn (T : Txt mg) {f : Addr} {fd : FuncData} (F : FnP K "_law_drawn" s__law_drawn f fd) (hm : mg "_law_drawn" = some (.ref f)) : Fn P w K mg base CX0 "_law_drawn" 1 ["_law_state", "_law_many"] (sp__law_drawn K) := by
  refine Fn.mk0 (t := t__law_drawn K) F hm (F.bindsN fun _ _ _ _ _ _ us hl => match us, hl with | [_, _], _ => rfl) sc__law_drawn (fun vs H Q E h => len__law_drawn h) (pure__law_drawn) fun cdv A outer s H E hr => ?_
  exact (pss_cons (ps_if (pt_cmpR ox_gt (pe_ix (ix_all (hu65 hr)) (pv 0) pe_int (fun _ _ => rfl)) pe_int (nomark _)) (pss_cons (ps_set (i := 2) sc__law_drawn.nd rfl (Or.inl rfl) (pe_op ox_mod (pe_ix (ix_all (hu65 hr)) (pv 0) pe_int (fun _ _ => rfl)) (pv 1)))
  (pss_cons (ps_asg (pe_op ox_div (pe_ix (ix_all (hu65 hr)) (pv 0) pe_int (fun _ _ => rfl)) (pv 1)) (pg_sub (pv 0) pe_int (st_all (hu_of hr))))
  (pss_one (ps_ret (pv 2))))) pss_nil)
  (pss_cons (ps_asg (pe_op ox_add (pe_ix (ix_all (hu65 hr)) (pv 0) pe_int (fun _ _ => rfl)) pe_int) (pg_sub (pv 0) pe_int (st_all (hu_of hr))))
  (pss_cons (ps_if (pt_cmpR ox_le (pe_ix (ix_all (hu65 hr)) (pv 0) pe_int (fun _ _ => rfl)) (pe_callB cl_len rfl T.f_len bt_len (pa_cons (pe_ix (ix_all (hu65 hr)) (pv 0) pe_int (fun _ _ => rfl)) pa_nil)) (nomark _)) (pss_cons (ps_set (i := 3) sc__law_drawn.nd rfl (Or.inl rfl) (pe_ix (ix_all (hu65 hr)) (pe_ix (ix_all (hu65 hr)) (pv 0) pe_int (fun _ _ => rfl)) (pe_op ox_sub (pe_ix (ix_all (hu65 hr)) (pv 0) pe_int (fun _ _ => rfl)) pe_int) (fun _ _ => rfl)))
  (pss_cons (ps_asg (pe_ifExp (pt_cmpR ox_ge (pv 3) (pe_op ox_pow pe_int pe_int) (nomark _)) (pe_op ox_div (pv 3) (pv 1)) pe_int) (pg_sub (pv 0) pe_int (st_all (hu_of hr))))
  (pss_one (ps_ret (pe_op ox_mod (pv 3) (pv 1)))))) pss_nil)
  (pss_cons (ps_asg (pe_op ox_mod (pe_op ox_add (pe_op ox_mul (pe_ix (ix_all (hu65 hr)) (pv 0) pe_int (fun _ _ => rfl)) pe_int) pe_int) pe_int) (pg_sub (pv 0) pe_int (st_all (hu_of hr))))
  (pss_one (ps_ret (pe_op ox_mod (pe_op ox_div (pe_ix (ix_all (hu65 hr)) (pv 0) pe_int (fun _ _ => rfl)) pe_int) (pv 1))))))))
theorem F__law_what (T : Txt mg) (F__law_drawn : Fn P w K mg base CX0 "_law_drawn" 1 ["_law_state", "_law_many"] (sp__law_drawn K)) {f : Addr} {fd : FuncData} (F : FnP K "_law_what" s__law_what f fd) (hm : mg "_law_what" = some (.ref f)) : Fn P w K mg base CX0 "_law_what" 2 ["_law_state"] (sp__law_what K) := by
  refine Fn.mk0 (t := t__law_what K) F hm (F.bindsN fun _ _ _ _ _ _ us hl => match us, hl with | [_], _ => rfl) sc__law_what (fun vs H Q E h => len__law_what h) (pure__law_what) fun cdv A outer s H E hr => ?_
  exact (pss_cons (ps_set (i := 1) sc__law_what.nd rfl (Or.inl rfl) (pe_tupF (pa_cons pe_str (pa_cons (pe_fn F__law_drawn (hr.mono (by decide)) rfl (pa_cons (pv 0) (pa_cons (pe_ix (ix_all (hu65 hr)) (pe_lstF (pa_cons pe_int (pa_cons pe_int pa_nil))) (pe_fn F__law_drawn (hr.mono (by decide)) rfl (pa_cons (pv 0) (pa_cons pe_int pa_nil))) (fun _ _ => rfl)) pa_nil))) pa_nil))))
  (pss_one (ps_ret (pe_ix (ix_all (hu65 hr)) (pe_lstF (pa_cons (pv 1) (pa_cons (pe_ix (ix_all (hu65 hr)) (pe_lstF (pa_cons pe_int (pa_cons pe_int (pa_cons pe_int pa_nil)))) (pe_fn F__law_drawn (hr.mono (by decide)) rfl (pa_cons (pv 0) (pa_cons pe_int pa_nil))) (fun _ _ => rfl)) (pa_cons (pe_fn F__law_drawn (hr.mono (by decide)) rfl (pa_cons (pv 0) (pa_cons pe_int pa_nil))) pa_nil)))) (pe_fn F__law_drawn (hr.mono (by decide)) rfl (pa_cons (pv 0) (pa_cons pe_int pa_nil))) (fun _ _ => rfl)))))
theorem F__law_entries (T : Txt mg) (F__law_drawn : Fn P w K mg base CX0 "_law_drawn" 1 ["_law_state", "_law_many"] (sp__law_drawn K)) (F__law_what : Fn P w K mg base CX0 "_law_what" 2 ["_law_state"] (sp__law_what K)) {f : Addr} {fd : FuncData} (F : FnP K "_law_entries" s__law_entries f fd) (hm : mg "_law_entries" = some (.ref f)) : Fn P w K mg base CX0 "_law_entries" 3 ["_law_state", "_law_often"] (sp__law_entries K) := by
  refine Fn.mk0 (t := t__law_entries K) F hm (F.bindsN fun _ _ _ _ _ _ us hl => match us, hl with | [_, _], _ => rfl) sc__law_entries (fun vs H Q E h => len__law_entries h) (pure__law_entries) fun cdv A outer s H E hr => ?_
  exact (pss_cons (ps_setLc (i := 2) (own := [("_law_light", 3)]) rfl sc__law_entries.nd rfl rfl (sw_true rfl rfl rfl (by decide +kernel)) (pi_range1 rfl T.f_range (pa_cons pe_int pa_nil)) (blkOk_by (own := [("_law_light", 3)]) (N := N__law_entries) (sc := (defScope s__law_entries)) (by decide +kernel)) (fun _ _ _ _ _ => (pg_name (i := 3) sc__law_entries.nd rfl (by first | exact Or.inl rfl | exact Or.inr rfl))) (fun _ _ _ _ _ => (pts_one (pt_cmpR ox_lt (pe_fn0 F__law_drawn (hr.mono (by decide)) rfl (pa_cons (pv 0) (pa_cons pe_int pa_nil))) (pv 1) (nomark _)))) (fun _ _ _ _ _ => (pv 3)))
  (pss_one (ps_ret (pe_callTy cl_tuple rfl T.f_tuple bt_tuple (pa_cons (pe_lc (own := [("_law_light", 3)]) rfl sc__law_entries.nd (pi_list (pv 2)) (blkOk_by (own := [("_law_light", 3)]) (N := N__law_entries) (sc := (defScope s__law_entries)) (by decide +kernel)) (fun _ _ _ _ _ => (pg_name (i := 3) sc__law_entries.nd rfl (by first | exact Or.inl rfl | exact Or.inr rfl))) (fun _ _ _ _ _ => pts_nil) (fun _ _ _ _ _ => (pe_tupF (pa_cons (pv 3) (pa_cons (pe_fn0 F__law_what (hr.mono (by decide)) rfl (pa_cons (pv 0) pa_nil)) pa_nil))))) pa_nil)))))
theorem F__law_cue (T : Txt mg) (F__law_drawn : Fn P w K mg base CX0 "_law_drawn" 1 ["_law_state", "_law_many"] (sp__law_drawn K)) (F__law_entries : Fn P w K mg base CX0 "_law_entries" 3 ["_law_state", "_law_often"] (sp__law_entries K)) {f : Addr} {fd : FuncData} (F : FnP K "_law_cue" s__law_cue f fd) (hm : mg "_law_cue" = some (.ref f)) : Fn P w K mg base CX0 "_law_cue" 4 ["_law_state", "_law_number"] (sp__law_cue K) := by
  refine Fn.mk0 (t := t__law_cue K) F hm (F.bindsN fun _ _ _ _ _ _ us hl => match us, hl with | [_, _], _ => rfl) sc__law_cue (fun vs H Q E h => len__law_cue h) (pure__law_cue) fun cdv A outer s H E hr => ?_
  exact (pss_cons (ps_set (i := 2) sc__law_cue.nd rfl (Or.inl rfl) (pe_ix (ix_all (hu65 hr)) (pe_lstF (pa_cons pe_int (pa_cons pe_int (pa_cons pe_int pa_nil)))) (pe_fn F__law_drawn (hr.mono (by decide)) rfl (pa_cons (pv 0) (pa_cons pe_int pa_nil))) (fun _ _ => rfl)))
  (pss_cons (ps_set (i := 3) sc__law_cue.nd rfl (Or.inl rfl) (pe_lstF (pa_cons (pe_ix (ix_all (hu65 hr)) (pe_lstF (pa_cons pe_int (pa_cons pe_int (pa_cons pe_int (pa_cons pe_int pa_nil))))) (pe_fn F__law_drawn (hr.mono (by decide)) rfl (pa_cons (pv 0) (pa_cons pe_int pa_nil))) (fun _ _ => rfl)) (pa_cons (pe_fn F__law_drawn (hr.mono (by decide)) rfl (pa_cons (pv 0) (pa_cons pe_int pa_nil))) pa_nil))))
  (pss_cons (ps_set (i := 4) sc__law_cue.nd rfl (Or.inl rfl) (pe_ix (ix_all (hu65 hr)) (pe_lstF (pa_cons pe_non (pa_cons pe_non (pa_cons (pe_op ox_add pe_int (pe_fn F__law_drawn (hr.mono (by decide)) rfl (pa_cons (pv 0) (pa_cons (pe_ix (ix_all (hu65 hr)) (pe_lstF (pa_cons pe_int (pa_cons pe_int pa_nil))) (pe_fn F__law_drawn (hr.mono (by decide)) rfl (pa_cons (pv 0) (pa_cons pe_int pa_nil))) (fun _ _ => rfl)) pa_nil)))) pa_nil)))) (pe_fn F__law_drawn (hr.mono (by decide)) rfl (pa_cons (pv 0) (pa_cons pe_int pa_nil))) (fun _ _ => rfl)))
  (pss_one (ps_ret (pe_tupF (pa_cons (pv 1) (pa_cons (pe_fn F__law_entries (hr.mono (by decide)) rfl (pa_cons (pv 0) (pa_cons (pv 2) pa_nil))) (pa_cons (pe_ix (ix_all (hu65 hr)) (pv 3) (pe_fn F__law_drawn (hr.mono (by decide)) rfl (pa_cons (pv 0) (pa_cons pe_int pa_nil))) (fun _ _ => rfl)) (pa_cons (pe_ix (ix_all (hu65 hr)) (pv 3) pe_int (fun _ _ => rfl)) (pa_cons (pv 4) pa_nil)))))))))))
theorem F__law_cues (T : Txt mg) (F__law_drawn : Fn P w K mg base CX0 "_law_drawn" 1 ["_law_state", "_law_many"] (sp__law_drawn K)) (F__law_cue : Fn P w K mg base CX0 "_law_cue" 4 ["_law_state", "_law_number"] (sp__law_cue K)) {f : Addr} {fd : FuncData} (F : FnP K "_law_cues" s__law_cues f fd) (hm : mg "_law_cues" = some (.ref f)) : Fn P w K mg base CX0 "_law_cues" 5 ["_law_state", "_law_most"] (sp__law_cues K) := by
  refine Fn.mk0 (t := t__law_cues K) F hm (F.bindsN fun _ _ _ _ _ _ us hl => match us, hl with | [_, _], _ => rfl) sc__law_cues (fun vs H Q E h => len__law_cues h) (pure__law_cues) fun cdv A outer s H E hr => ?_
  exact (pss_cons (ps_par (i := 2) (j := 3) rfl sc__law_cues.nd rfl rfl (by decide) rfl rfl (pa_cons (pe_lstF pa_nil) (pa_cons pe_int pa_nil)) (by rfl))
  (pss_cons (ps_for PassesOwn.never rfl (pi_range1 rfl T.f_range (pa_cons (pe_fn F__law_drawn (hr.mono (by decide)) rfl (pa_cons (pv 0) (pa_cons (pe_op ox_add (pv 1) pe_int) pa_nil))) pa_nil)) (pg_name (i := 4) sc__law_cues.nd rfl (by first | exact Or.inl rfl | exact Or.inr rfl))
    (pss_cons (ps_set (i := 3) sc__law_cues.nd rfl (Or.inl rfl) (pe_op ox_add (pv 3) (pe_fn F__law_drawn (hr.mono (by decide)) rfl (pa_cons (pv 0) (pa_cons (pe_ix (ix_all (hu65 hr)) (pe_lstF (pa_cons pe_int (pa_cons pe_int pa_nil))) (pe_fn F__law_drawn (hr.mono (by decide)) rfl (pa_cons (pv 0) (pa_cons pe_int pa_nil))) (fun _ _ => rfl)) pa_nil)))))
  (pss_cons (ps_expr (pe_bm PySem.F.plainAttrs_list PySem.F.slot_list_append PySem.F.type_list_append mx_append (pv 2) (pa_cons (pe_fn F__law_cue (hr.mono (by decide)) rfl (pa_cons (pv 0) (pa_cons (pv 3) pa_nil))) pa_nil)))
  (pss_one (ps_set (i := 3) sc__law_cues.nd rfl (Or.inl rfl) (pe_op ox_add (pv 3) pe_int))))))
  (pss_one (ps_ret (pe_callTy cl_tuple rfl T.f_tuple bt_tuple (pa_cons (pv 2) pa_nil))))))
theorem body__law_same (T : Txt mg) {k : Nat} {Rr : TA → TE} {f : Addr} (cdv : Value) (A : Around) (outer : List Env) (s : Shared) (H : Hp) (E : XK) (hr : Room k (A.deeper (envOfC "_law_same" (defScope s__law_same) s.heap.objs.size f cdv)))
    (hR : ∀ (X : Cx) (p pos : Pos) (es : List Expr) (t : TA), X.prog = P → X.w = w → X.K = K → X.mg = mg → X.base = base → Room k X.A → Gl X "_law_same" → (∃ e e2, es = [e, e2] ∧ starEach es X.env = (false, eval e X.env) :: starEach [e2] X.env ∧ (backTo pos (starEach [e2] X.env)).any (·.1) = false) → PA X es t → PE X (.Call (.Name "_law_same" p) es [] pos) (Rr t)) :
    PSs (cxOf CX0 P w K mg base N__law_same "_law_same" (defScope s__law_same) f cdv A outer s H E).nox (defBody s__law_same) (t__law_same Rr K E) :=
  (pss_cons (ps_if (pt_val (pe_callB cl_isi2 rfl T.f_isinstance bt_isinstance (pa_cons (pv 1) (pa_cons (pe_tup (pa_cons (pe_bltn rfl T.f_tuple bt_tuple rfl) (pa_cons (pe_bltn rfl T.f_list bt_list rfl) pa_nil))) pa_nil)))) (pss_cons (ps_if (PW.pt (pw_or (pt_not (pt_val (pe_callB cl_isi2 rfl T.f_isinstance bt_isinstance (pa_cons (pv 0) (pa_cons (pe_tup (pa_cons (pe_bltn rfl T.f_tuple bt_tuple rfl) (pa_cons (pe_bltn rfl T.f_list bt_list rfl) pa_nil))) pa_nil))))) (pw_or1 (pt_cmpR (ox_ne hr.units) (pe_callB cl_isi rfl T.f_isinstance bt_isinstance (pa_cons (pv 0) (pa_cons (pe_bltn rfl T.f_list bt_list rfl) pa_nil))) (pe_callB cl_isi rfl T.f_isinstance bt_isinstance (pa_cons (pv 1) (pa_cons (pe_bltn rfl T.f_list bt_list rfl) pa_nil))) (nomark _))))) (pss_one (ps_ret pe_bl)) pss_nil)
  (pss_cons (ps_if (pt_cmpR (ox_ne hr.units) (pe_callB cl_len rfl T.f_len bt_len (pa_cons (pv 0) pa_nil)) (pe_callB cl_len rfl T.f_len bt_len (pa_cons (pv 1) pa_nil)) (nomark _)) (pss_one (ps_ret pe_bl)) pss_nil)
  (pss_one (ps_ret (pe_cmpR (ox_eq hr.units) (pe_lc (own := [("_law_k", 2)]) rfl sc__law_same.nd (pi_range1 rfl T.f_range (pa_cons (pe_callB cl_len rfl T.f_len bt_len (pa_cons (pv 1) pa_nil)) pa_nil)) (blkOk_by (own := [("_law_k", 2)]) (N := N__law_same) (sc := (defScope s__law_same)) (by decide +kernel)) (fun _ _ _ _ _ => (pg_name (i := 2) sc__law_same.nd rfl (by first | exact Or.inl rfl | exact Or.inr rfl))) (fun _ _ _ _ _ => (pts_one (pt_not (pt_val (hR _ _ _ _ _ rfl rfl rfl rfl rfl hr rfl ⟨_, _, rfl, rfl, rfl⟩ (pa_cons (pe_ix (ix_all (hu65 hr)) (pv 0) (pv 2) (fun _ _ => rfl)) (pa_cons (pe_ix (ix_all (hu65 hr)) (pv 1) (pv 2) (fun _ _ => rfl)) pa_nil))))))) (fun _ _ _ _ _ => (pv 2))) (pe_lstF pa_nil) (nomark _)))))) pss_nil)
  (pss_cons (ps_if (pt_cmpR ox_isN (pv 1) pe_non (nomark _)) (pss_one (ps_ret (pe_cmpR ox_isN (pv 0) pe_non (nomark _)))) pss_nil)
  (pss_cons (ps_if (pt_val (pe_callB cl_isi rfl T.f_isinstance bt_isinstance (pa_cons (pv 1) (pa_cons (pe_bltn rfl T.f_str bt_str rfl) pa_nil)))) (pss_one (ps_ret (pe_and (pe_callB cl_isi rfl T.f_isinstance bt_isinstance (pa_cons (pv 0) (pa_cons (pe_bltn rfl T.f_str bt_str rfl) pa_nil))) (pe_one (pe_cmpR (ox_eq hr.units) (pv 0) (pv 1) (nomark _)))))) pss_nil)
  (pss_cons (ps_if (PW.pt (pw_or (pt_val (pe_callB cl_isi rfl T.f_isinstance bt_isinstance (pa_cons (pv 1) (pa_cons (pe_bltn rfl T.f_bool bt_bool rfl) pa_nil)))) (pw_or1 (pt_val (pe_callB cl_isi rfl T.f_isinstance bt_isinstance (pa_cons (pv 0) (pa_cons (pe_bltn rfl T.f_bool bt_bool rfl) pa_nil))))))) (pss_one (ps_ret (pe_and (pe_callB cl_isi rfl T.f_isinstance bt_isinstance (pa_cons (pv 1) (pa_cons (pe_bltn rfl T.f_bool bt_bool rfl) pa_nil))) (pe_and (pe_callB cl_isi rfl T.f_isinstance bt_isinstance (pa_cons (pv 0) (pa_cons (pe_bltn rfl T.f_bool bt_bool rfl) pa_nil))) (pe_one (pe_cmpR (ox_eq hr.units) (pv 0) (pv 1) (nomark _))))))) pss_nil)
  (pss_one (ps_ret (pe_and (pe_callB cl_isi rfl T.f_isinstance bt_isinstance (pa_cons (pv 0) (pa_cons (pe_bltn rfl T.f_int bt_int rfl) pa_nil))) (pe_one (pe_cmpR (ox_eq hr.units) (pv 0) (pv 1) (nomark _))))))))))
theorem F__law_same (T : Txt mg) {f : Addr} {fd : FuncData} (F : FnP K "_law_same" s__law_same f fd) (hm : mg "_law_same" = some (.ref f)) : ∀ n, Fn P w K mg base CX0 "_law_same" (n + 1) ["_law_found", "_law_due"] (sp__law_same K n) := by
  intro n
  induction n with
  | zero => exact Fn.mk0 (t := t__law_same (fun _ _ _ _ => False) K) F hm (F.bindsN fun _ _ _ _ _ _ us hl => match us, hl with | [_, _], _ => rfl) sc__law_same (fun vs H Q E h => by obtain ⟨v, u, d, rfl, _⟩ := h; rfl) (pure__law_same _ (fun m e => nomatch e)) fun cdv A outer s H E hr => body__law_same T cdv A outer s H E hr (fun X p pos es t _ _ _ _ _ _ _ _ _ => ⟨fun pins s σ H Q I h => h.elim⟩)
  | succ n ih => exact Fn.mk0 (t := t__law_same (tCall (sp__law_same K n) [] E0) K) F hm (F.bindsN fun _ _ _ _ _ _ us hl => match us, hl with | [_, _], _ => rfl) sc__law_same (fun vs H Q E h => by obtain ⟨v, u, d, rfl, _⟩ := h; rfl) (pure__law_same _ (fun m e t => by cases e; rfl)) fun cdv A outer s H E hr => body__law_same T cdv A outer s H E hr (fun X p pos es t h1 h2 h3 h4 h5 hr2 hg he ha => by
      obtain ⟨e, e2, rfl, hs, hb⟩ := he
      subst h1 h2 h3 h4 h5
      exact pe_fn0 ih hr2 hg ha (by decide) hs hb)
theorem F_is_number (T : Txt mg) {f : Addr} {fd : FuncData} (F : FnP K "is_number" s_is_number f fd) (hm : mg "is_number" = some (.ref f)) : Fn P w K mg base CX0 "is_number" 1 ["thing", "low", "high"] (sp_is_number K) := by
  refine Fn.mk0 (t := t_is_number K) F hm (F.bindsN fun _ _ _ _ _ _ us hl => match us, hl with | [_, _, _], _ => rfl) sc_is_number (fun vs H Q E h => len_is_number h) (pure_is_number) fun cdv A outer s H E hr => ?_
  exact (pss_one (ps_ret (pe_and (pe_callB cl_isi rfl T.f_isinstance bt_isinstance (pa_cons (pv 0) (pa_cons (pe_bltn rfl T.f_int bt_int rfl) pa_nil))) (pe_and (pe_not (pe_callB cl_isi rfl T.f_isinstance bt_isinstance (pa_cons (pv 0) (pa_cons (pe_bltn rfl T.f_bool bt_bool rfl) pa_nil)))) (pe_one (pe_chain ox_le ox_le (pv 1) (pv 0) (pv 2)))))))
theorem F_is_what (T : Txt mg) (F_is_number : Fn P w K mg base CX0 "is_number" 1 ["thing", "low", "high"] (sp_is_number K)) {f : Addr} {fd : FuncData} (F : FnP K "is_what" s_is_what f fd) (hm : mg "is_what" = some (.ref f)) : Fn P w K mg base CX0 "is_what" 2 ["what"] (sp_is_what K) := by
  refine Fn.mk0 (t := t_is_what K) F hm (F.bindsN fun _ _ _ _ _ _ us hl => match us, hl with | [_], _ => rfl) sc_is_what (fun vs H Q E h => len_is_what h) (pure_is_what) fun cdv A outer s H E hr => ?_
  exact (pss_cons (ps_if (pt_val (pe_callB cl_isi rfl T.f_isinstance bt_isinstance (pa_cons (pv 0) (pa_cons (pe_bltn rfl T.f_tuple bt_tuple rfl) pa_nil)))) (pss_one (ps_ret (pe_and (pe_cmpR (ox_eq hr.units) (pe_callB cl_len rfl T.f_len bt_len (pa_cons (pv 0) pa_nil)) pe_int (nomark _)) (pe_and (pe_cmpR (ox_eq hr.units) (pe_ix (ix_all (hu65 hr)) (pv 0) pe_int (fun _ _ => rfl)) (pe_gs rfl T.PART) (nomark _)) (pe_one (pe_fn F_is_number (hr.mono (by decide)) rfl (pa_cons (pe_ix (ix_all (hu65 hr)) (pv 0) pe_int (fun _ _ => rfl)) (pa_cons pe_int (pa_cons (pe_op ox_sub (pe_gi rfl T.PARTS) pe_int) pa_nil))))))))) pss_nil)
  (pss_one (ps_ret (pe_fn F_is_number (hr.mono (by decide)) rfl (pa_cons (pv 0) (pa_cons pe_int (pa_cons (pe_gi rfl T.MOST_LEVEL) pa_nil)))))))
theorem F_are_entries (T : Txt mg) (F_is_number : Fn P w K mg base CX0 "is_number" 1 ["thing", "low", "high"] (sp_is_number K)) (F_is_what : Fn P w K mg base CX0 "is_what" 2 ["what"] (sp_is_what K)) {f : Addr} {fd : FuncData} (F : FnP K "are_entries" s_are_entries f fd) (hm : mg "are_entries" = some (.ref f)) : Fn P w K mg base CX0 "are_entries" 3 ["entries"] (sp_are_entries K) := by
  refine Fn.mk0 (t := t_are_entries K) F hm (F.bindsN fun _ _ _ _ _ _ us hl => match us, hl with | [_], _ => rfl) sc_are_entries (fun vs H Q E h => len_are_entries h) (pure_are_entries) fun cdv A outer s H E hr => ?_
  exact (pss_cons (ps_if (pt_not (pt_val (pe_callB cl_isi rfl T.f_isinstance bt_isinstance (pa_cons (pv 0) (pa_cons (pe_bltn rfl T.f_tuple bt_tuple rfl) pa_nil))))) (pss_one (ps_ret pe_bl)) pss_nil)
  (pss_cons (ps_set (i := 1) sc_are_entries.nd rfl (Or.inl rfl) (pe_op ox_sub pe_int pe_int))
  (pss_cons (ps_for PassesOwn.never rfl (pi_tup (pv 0)) (pg_name (i := 2) sc_are_entries.nd rfl (by first | exact Or.inl rfl | exact Or.inr rfl))
    (pss_cons (ps_if (PW.pt (pw_or (pt_not (pt_val (pe_callB cl_isi rfl T.f_isinstance bt_isinstance (pa_cons (pv 2) (pa_cons (pe_bltn rfl T.f_tuple bt_tuple rfl) pa_nil))))) (pw_or (pt_cmpR (ox_ne hr.units) (pe_callB cl_len rfl T.f_len bt_len (pa_cons (pv 2) pa_nil)) pe_int (nomark _)) (pw_or1 (pt_not (pt_val (pe_fn F_is_number (hr.mono (by decide)) rfl (pa_cons (pe_ix (ix_all (hu65 hr)) (pv 2) pe_int (fun _ _ => rfl)) (pa_cons (pe_op ox_add (pv 1) pe_int) (pa_cons (pe_op ox_sub (pe_gi rfl T.LIGHTS) pe_int) pa_nil)))))))))) (pss_one (ps_ret pe_bl)) pss_nil)
  (pss_cons (ps_if (pt_not (pt_val (pe_fn F_is_what (hr.mono (by decide)) rfl (pa_cons (pe_ix (ix_all (hu65 hr)) (pv 2) pe_int (fun _ _ => rfl)) pa_nil)))) (pss_one (ps_ret pe_bl)) pss_nil)
  (pss_one (ps_set (i := 1) sc_are_entries.nd rfl (Or.inl rfl) (pe_ix (ix_all (hu65 hr)) (pv 2) pe_int (fun _ _ => rfl)))))))
  (pss_one (ps_ret pe_bl)))))
theorem F_is_cue (T : Txt mg) (F_is_number : Fn P w K mg base CX0 "is_number" 1 ["thing", "low", "high"] (sp_is_number K)) (F_are_entries : Fn P w K mg base CX0 "are_entries" 3 ["entries"] (sp_are_entries K)) {f : Addr} {fd : FuncData} (F : FnP K "is_cue" s_is_cue f fd) (hm : mg "is_cue" = some (.ref f)) : Fn P w K mg base CX0 "is_cue" 4 ["cue", "last"] (sp_is_cue K) := by
  refine Fn.mk0 (t := t_is_cue K) F hm (F.bindsN fun _ _ _ _ _ _ us hl => match us, hl with | [_, _], _ => rfl) sc_is_cue (fun vs H Q E h => len_is_cue h) (pure_is_cue) fun cdv A outer s H E hr => ?_
  exact (pss_cons (ps_if (PW.pt (pw_or (pt_not (pt_val (pe_callB cl_isi rfl T.f_isinstance bt_isinstance (pa_cons (pv 0) (pa_cons (pe_bltn rfl T.f_tuple bt_tuple rfl) pa_nil))))) (pw_or (pt_cmpR (ox_ne hr.units) (pe_callB cl_len rfl T.f_len bt_len (pa_cons (pv 0) pa_nil)) pe_int (nomark _)) (pw_or1 (pt_not (pt_val (pe_fn F_is_number (hr.mono (by decide)) rfl (pa_cons (pe_ix (ix_all (hu65 hr)) (pv 0) pe_int (fun _ _ => rfl)) (pa_cons (pe_op ox_add (pv 1) pe_int) (pa_cons (pe_gi rfl T.MOST_NUMBER) pa_nil)))))))))) (pss_one (ps_ret pe_bl)) pss_nil)
  (pss_cons (ps_if (PW.pt (pw_or (pt_not (pt_val (pe_fn F_are_entries (hr.mono (by decide)) rfl (pa_cons (pe_ix (ix_all (hu65 hr)) (pv 0) pe_int (fun _ _ => rfl)) pa_nil)))) (pw_or (pt_not (pt_val (pe_fn F_is_number (hr.mono (by decide)) rfl (pa_cons (pe_ix (ix_all (hu65 hr)) (pv 0) pe_int (fun _ _ => rfl)) (pa_cons pe_int (pa_cons (pe_gi rfl T.MOST_BEATS) pa_nil)))))) (pw_or1 (pt_not (pt_val (pe_fn F_is_number (hr.mono (by decide)) rfl (pa_cons (pe_ix (ix_all (hu65 hr)) (pv 0) pe_int (fun _ _ => rfl)) (pa_cons pe_int (pa_cons (pe_gi rfl T.MOST_BEATS) pa_nil)))))))))) (pss_one (ps_ret pe_bl)) pss_nil)
  (pss_one (ps_ret (pe_or (pe_cmpR ox_isN (pe_ix (ix_all (hu65 hr)) (pv 0) pe_int (fun _ _ => rfl)) pe_non (nomark _)) (pe_one (pe_fn F_is_number (hr.mono (by decide)) rfl (pa_cons (pe_ix (ix_all (hu65 hr)) (pv 0) pe_int (fun _ _ => rfl)) (pa_cons pe_int (pa_cons (pe_gi rfl T.MOST_FOLLOW) pa_nil))))))))))
theorem F_need_cues (T : Txt mg) (F_is_cue : Fn P w K mg base CX0 "is_cue" 4 ["cue", "last"] (sp_is_cue K)) {f : Addr} {fd : FuncData} (F : FnP K "need_cues" s_need_cues f fd) (hm : mg "need_cues" = some (.ref f)) : Fn P w K mg base CX0 "need_cues" 5 ["cues"] (sp_need_cues K) := by
  refine Fn.mk0 (t := t_need_cues (fun _ => tNever) K) F hm (F.bindsN fun _ _ _ _ _ _ us hl => match us, hl with | [_], _ => rfl) sc_need_cues (fun vs H Q E h => len_need_cues h) (pure_need_cues (fun _ => tNever)) fun cdv A outer s H E hr => ?_
  exact (pss_cons (ps_if (pt_not (pt_val (pe_callB cl_isi rfl T.f_isinstance bt_isinstance (pa_cons (pv 0) (pa_cons (pe_bltn rfl T.f_tuple bt_tuple rfl) pa_nil))))) (pss_one ps_never) pss_nil)
  (pss_cons (ps_set (i := 1) sc_need_cues.nd rfl (Or.inl rfl) (pe_op ox_sub pe_int pe_int))
  (pss_one (ps_for PassesOwn.never rfl (pi_enumA rfl T.f_enumerate (pa_cons (pv 0) pa_nil)) (pg_tup rfl (pgs_cons (pg_name (i := 2) sc_need_cues.nd rfl (by first | exact Or.inl rfl | exact Or.inr rfl)) (pgs_cons (pg_name (i := 3) sc_need_cues.nd rfl (by first | exact Or.inl rfl | exact Or.inr rfl)) pgs_nil)))
    (pss_cons (ps_if (PW.pt (pw_or (pt_cmpR (ox_eq hr.units) (pv 2) (pe_gi rfl T.MOST_CUES) (nomark _)) (pw_or1 (pt_not (pt_val (pe_fn F_is_cue (hr.mono (by decide)) rfl (pa_cons (pv 3) (pa_cons (pv 1) pa_nil)))))))) (pss_one ps_never) pss_nil)
  (pss_one (ps_set (i := 1) sc_need_cues.nd rfl (Or.inl rfl) (pe_ix (ix_all (hu65 hr)) (pv 3) pe_int (fun _ _ => rfl)))))))))
theorem F_word_of (T : Txt mg) {f : Addr} {fd : FuncData} (F : FnP K "word_of" s_word_of f fd) (hm : mg "word_of" = some (.ref f)) : Fn P w K mg base CX0 "word_of" 1 ["one"] (sp_word_of K) := by
  refine Fn.mk0 (t := t_word_of K) F hm (F.bindsN fun _ _ _ _ _ _ us hl => match us, hl with | [_], _ => rfl) sc_word_of (fun vs H Q E h => len_word_of h) (pure_word_of) fun cdv A outer s H E hr => ?_
  exact (pss_cons (ps_asg (pv 0) (pg_tup rfl (pgs_cons (pg_name (i := 1) sc_word_of.nd rfl (by first | exact Or.inl rfl | exact Or.inr rfl)) (pgs_cons (pg_name (i := 2) sc_word_of.nd rfl (by first | exact Or.inl rfl | exact Or.inr rfl)) pgs_nil))))
  (pss_one (ps_ret (pe_op ox_add (pe_op ox_add (pe_callTy cl_str rfl T.f_str bt_str (pa_cons (pv 1) pa_nil)) pe_str) (pe_ifExp (pt_val (pe_callB cl_isi rfl T.f_isinstance bt_isinstance (pa_cons (pv 2) (pa_cons (pe_bltn rfl T.f_tuple bt_tuple rfl) pa_nil)))) (pe_op ox_add (pe_gs rfl T.SIGN) (pe_callTy cl_str rfl T.f_str bt_str (pa_cons (pe_ix (ix_all (hu65 hr)) (pv 2) pe_int (fun _ _ => rfl)) pa_nil))) (pe_callTy cl_str rfl T.f_str bt_str (pa_cons (pv 2) pa_nil)))))))
theorem F_written (T : Txt mg) (F_need_cues : Fn P w K mg base CX0 "need_cues" 5 ["cues"] (sp_need_cues K)) (F_word_of : Fn P w K mg base CX0 "word_of" 1 ["one"] (sp_word_of K)) {f : Addr} {fd : FuncData} (F : FnP K "written" s_written f fd) (hm : mg "written" = some (.ref f)) : Fn P w K mg base CX0 "written" 6 ["cues"] (sp_written K) := by
  refine Fn.mk0 (t := t_written (sp_need_cues K) K) F hm (F.bindsN fun _ _ _ _ _ _ us hl => match us, hl with | [_], _ => rfl) sc_written (fun vs H Q E h => len_written h) (pure_written .rfl) fun cdv A outer s H E hr => ?_
  exact (pss_cons (ps_expr (pe_fn F_need_cues (hr.mono (by decide)) rfl (pa_cons (pv 0) pa_nil)))
  (pss_cons (ps_set (i := 1) sc_written.nd rfl (Or.inl rfl) (pe_lstF pa_nil))
  (pss_cons (ps_for PassesOwn.never rfl (pi_tup (pv 0)) (pg_tup rfl (pgs_cons (pg_name (i := 2) sc_written.nd rfl (by first | exact Or.inl rfl | exact Or.inr rfl)) (pgs_cons (pg_name (i := 3) sc_written.nd rfl (by first | exact Or.inl rfl | exact Or.inr rfl)) (pgs_cons (pg_name (i := 4) sc_written.nd rfl (by first | exact Or.inl rfl | exact Or.inr rfl)) (pgs_cons (pg_name (i := 5) sc_written.nd rfl (by first | exact Or.inl rfl | exact Or.inr rfl)) (pgs_cons (pg_name (i := 6) sc_written.nd rfl (by first | exact Or.inl rfl | exact Or.inr rfl)) pgs_nil))))))
    (pss_cons (ps_set (i := 7) sc_written.nd rfl (Or.inl rfl) (pe_lstF (pa_cons (pe_callTy cl_str rfl T.f_str bt_str (pa_cons (pv 2) pa_nil)) (pa_cons (pe_callTy cl_str rfl T.f_str bt_str (pa_cons (pv 4) pa_nil)) (pa_cons (pe_callTy cl_str rfl T.f_str bt_str (pa_cons (pv 5) pa_nil)) (pa_cons (pe_ifExp (pt_cmpR ox_isN (pv 6) pe_non (nomark _)) (pe_gs rfl T.NONE) (pe_callTy cl_str rfl T.f_str bt_str (pa_cons (pv 6) pa_nil))) pa_nil))))))
  (pss_one (ps_expr (pe_bm PySem.F.plainAttrs_list PySem.F.slot_list_append PySem.F.type_list_append mx_append (pv 1) (pa_cons (pe_m1 PySem.F.slot_str_join PySem.F.type_str_join mx_join pe_str (pe_op ox_add (pv 7) (pe_lc (own := [("one", 8)]) rfl sc_written.nd (pi_tup (pv 3)) (blkOk_by (own := [("one", 8)]) (N := N_written) (sc := (defScope s_written)) (by decide +kernel)) (fun _ _ _ _ _ => (pg_name (i := 8) sc_written.nd rfl (by first | exact Or.inl rfl | exact Or.inr rfl))) (fun _ _ _ _ _ => pts_nil) (fun _ _ _ _ _ => (pe_fn0 F_word_of (hr.mono (by decide)) rfl (pa_cons (pv 8) pa_nil)))))) pa_nil))))))
  (pss_one (ps_ret (pe_m1 PySem.F.slot_str_join PySem.F.type_str_join mx_join pe_str (pv 1)))))))
theorem F_number_of (T : Txt mg) {f : Addr} {fd : FuncData} (F : FnP K "number_of" s_number_of f fd) (hm : mg "number_of" = some (.ref f)) : Fn P w K mg base CX0 "number_of" 1 ["word"] (sp_number_of K) := by
  refine Fn.mk0 (t := t_number_of K) F hm (F.bindsN fun _ _ _ _ _ _ us hl => match us, hl with | [_], _ => rfl) sc_number_of (fun vs H Q E h => len_number_of h) (pure_number_of) fun cdv A outer s H E hr => ?_
  exact (pss_cons (ps_if (PW.pt (pw_or (pt_not (pt_chain ox_le ox_le pe_int (pe_callB cl_len rfl T.f_len bt_len (pa_cons (pv 0) pa_nil)) pe_int)) (pw_or1 (pt_cmpR (ox_ne hr.units) (pe_lc (own := [("sign", 1)]) rfl sc_number_of.nd (pi_str (pv 0)) (blkOk_by (own := [("sign", 1)]) (N := N_number_of) (sc := (defScope s_number_of)) (by decide +kernel)) (fun _ _ _ _ _ => (pg_name (i := 1) sc_number_of.nd rfl (by first | exact Or.inl rfl | exact Or.inr rfl))) (fun _ _ _ _ _ => (pts_one (pt_cmpR (ox_notIn (hu65 hr)) (pv 1) (pe_gs rfl T.FIGURES) (by rfl)))) (fun _ _ _ _ _ => (pv 1))) (pe_lstF pa_nil) (nomark _))))) (pss_one (ps_ret pe_non)) pss_nil)
  (pss_one (ps_ret (pe_ifExp (PW.pt (pw_or (pt_cmpR (ox_eq hr.units) (pv 0) pe_str (nomark _)) (pw_or1 (pt_cmpR (ox_ne hr.units) (pe_ix (ix_all (hu65 hr)) (pv 0) pe_int (fun _ _ => rfl)) pe_str (nomark _))))) (pe_callTy cl_int rfl T.f_int bt_int (pa_cons (pv 0) pa_nil)) pe_non))))
theorem F_entry_of (T : Txt mg) (F_number_of : Fn P w K mg base CX0 "number_of" 1 ["word"] (sp_number_of K)) {f : Addr} {fd : FuncData} (F : FnP K "entry_of" s_entry_of f fd) (hm : mg "entry_of" = some (.ref f)) : Fn P w K mg base CX0 "entry_of" 2 ["word"] (sp_entry_of K) := by
  refine Fn.mk0 (t := t_entry_of K) F hm (F.bindsN fun _ _ _ _ _ _ us hl => match us, hl with | [_], _ => rfl) sc_entry_of (fun vs H Q E h => len_entry_of h) (pure_entry_of) fun cdv A outer s H E hr => ?_
  exact (pss_cons (ps_set (i := 1) sc_entry_of.nd rfl (Or.inl rfl) (pe_m1 PySem.F.slot_str_split PySem.F.type_str_split mx_split (pv 0) pe_str))
  (pss_cons (ps_if (pt_cmpR (ox_ne hr.units) (pe_callB cl_len rfl T.f_len bt_len (pa_cons (pv 1) pa_nil)) pe_int (nomark _)) (pss_one (ps_ret pe_non)) pss_nil)
  (pss_cons (ps_set (i := 2) sc_entry_of.nd rfl (Or.inl rfl) (pe_fn F_number_of (hr.mono (by decide)) rfl (pa_cons (pe_ix (ix_all (hu65 hr)) (pv 1) pe_int (fun _ _ => rfl)) pa_nil)))
  (pss_cons (ps_set (i := 3) sc_entry_of.nd rfl (Or.inl rfl) (pe_cmpR (ox_eq hr.units) (pe_slice sl_all (pe_ix (ix_all (hu65 hr)) (pv 1) pe_int (fun _ _ => rfl)) po_none (po_some pe_int)) (pe_gs rfl T.SIGN) (nomark _)))
  (pss_cons (ps_set (i := 4) sc_entry_of.nd rfl (Or.inl rfl) (pe_fn F_number_of (hr.mono (by decide)) rfl (pa_cons (pe_ifExp (pt_val (pv 3)) (pe_slice sl_all (pe_ix (ix_all (hu65 hr)) (pv 1) pe_int (fun _ _ => rfl)) (po_some pe_int) po_none) (pe_ix (ix_all (hu65 hr)) (pv 1) pe_int (fun _ _ => rfl))) pa_nil)))
  (pss_cons (ps_if (PW.pt (pw_or (pt_cmpR ox_isN (pv 2) pe_non (nomark _)) (pw_or1 (pt_cmpR ox_isN (pv 4) pe_non (nomark _))))) (pss_one (ps_ret pe_non)) pss_nil)
  (pss_one (ps_ret (pe_tupF (pa_cons (pv 2) (pa_cons (pe_ifExp (pt_val (pv 3)) (pe_tupF (pa_cons (pe_gs rfl T.PART) (pa_cons (pv 4) pa_nil))) (pv 4)) pa_nil)))))))))))
theorem F_cue_of (T : Txt mg) (F_is_cue : Fn P w K mg base CX0 "is_cue" 4 ["cue", "last"] (sp_is_cue K)) (F_number_of : Fn P w K mg base CX0 "number_of" 1 ["word"] (sp_number_of K)) (F_entry_of : Fn P w K mg base CX0 "entry_of" 2 ["word"] (sp_entry_of K)) {f : Addr} {fd : FuncData} (F : FnP K "cue_of" s_cue_of f fd) (hm : mg "cue_of" = some (.ref f)) : Fn P w K mg base CX0 "cue_of" 5 ["row", "last"] (sp_cue_of K) := by
  refine Fn.mk0 (t := t_cue_of K) F hm (F.bindsN fun _ _ _ _ _ _ us hl => match us, hl with | [_, _], _ => rfl) sc_cue_of (fun vs H Q E h => len_cue_of h) (pure_cue_of) fun cdv A outer s H E hr => ?_
  exact (pss_cons (ps_set (i := 2) sc_cue_of.nd rfl (Or.inl rfl) (pe_m1 PySem.F.slot_str_split PySem.F.type_str_split mx_split (pv 0) pe_str))
  (pss_cons (ps_if (pt_cmpR ox_lt (pe_callB cl_len rfl T.f_len bt_len (pa_cons (pv 2) pa_nil)) pe_int (nomark _)) (pss_one (ps_ret pe_non)) pss_nil)
  (pss_cons (ps_setLc (i := 3) (own := [("word", 7)]) rfl sc_cue_of.nd rfl rfl (sw_true rfl rfl rfl (by decide +kernel)) (pi_list (pe_slice sl_all (pv 2) po_none (po_some pe_int))) (blkOk_by (own := [("word", 7)]) (N := N_cue_of) (sc := (defScope s_cue_of)) (by decide +kernel)) (fun _ _ _ _ _ => (pg_name (i := 7) sc_cue_of.nd rfl (by first | exact Or.inl rfl | exact Or.inr rfl))) (fun _ _ _ _ _ => pts_nil) (fun _ _ _ _ _ => (pe_fn0 F_number_of (hr.mono (by decide)) rfl (pa_cons (pv 7) pa_nil))))
  (pss_cons (ps_set (i := 4) sc_cue_of.nd rfl (Or.inl rfl) (pe_ifExp (pt_cmpR (ox_eq hr.units) (pe_ix (ix_all (hu65 hr)) (pv 2) pe_int (fun _ _ => rfl)) (pe_gs rfl T.NONE) (nomark _)) pe_non (pe_fn F_number_of (hr.mono (by decide)) rfl (pa_cons (pe_ix (ix_all (hu65 hr)) (pv 2) pe_int (fun _ _ => rfl)) pa_nil))))
  (pss_cons (ps_setLc (i := 5) (own := [("word", 7)]) rfl sc_cue_of.nd rfl rfl (sw_true rfl rfl rfl (by decide +kernel)) (pi_list (pe_slice sl_all (pv 2) (po_some pe_int) po_none)) (blkOk_by (own := [("word", 7)]) (N := N_cue_of) (sc := (defScope s_cue_of)) (by decide +kernel)) (fun _ _ _ _ _ => (pg_name (i := 7) sc_cue_of.nd rfl (by first | exact Or.inl rfl | exact Or.inr rfl))) (fun _ _ _ _ _ => pts_nil) (fun _ _ _ _ _ => (pe_fn0 F_entry_of (hr.mono (by decide)) rfl (pa_cons (pv 7) pa_nil))))
  (pss_cons (ps_if (PW.pt (pw_or (pt_cmpR (ox_in (hu65 hr)) pe_non (pv 3) (by rfl)) (pw_or (pt_cmpR (ox_in (hu65 hr)) pe_non (pv 5) (by rfl)) (pw_or1 (PW.pt (pw_and (pt_cmpR ox_isN (pv 4) pe_non (nomark _)) (pw_and1 (pt_cmpR (ox_ne hr.units) (pe_ix (ix_all (hu65 hr)) (pv 2) pe_int (fun _ _ => rfl)) (pe_gs rfl T.NONE) (nomark _))))))))) (pss_one (ps_ret pe_non)) pss_nil)
  (pss_cons (ps_set (i := 6) sc_cue_of.nd rfl (Or.inl rfl) (pe_tupF (pa_cons (pe_ix (ix_all (hu65 hr)) (pv 3) pe_int (fun _ _ => rfl)) (pa_cons (pe_callTy cl_tuple rfl T.f_tuple bt_tuple (pa_cons (pv 5) pa_nil)) (pa_cons (pe_ix (ix_all (hu65 hr)) (pv 3) pe_int (fun _ _ => rfl)) (pa_cons (pe_ix (ix_all (hu65 hr)) (pv 3) pe_int (fun _ _ => rfl)) (pa_cons (pv 4) pa_nil)))))))
  (pss_one (ps_ret (pe_ifExp (pt_val (pe_fn F_is_cue (hr.mono (by decide)) rfl (pa_cons (pv 6) (pa_cons (pv 1) pa_nil)))) (pv 6) pe_non))))))))))
theorem F_read (T : Txt mg) (F_cue_of : Fn P w K mg base CX0 "cue_of" 5 ["row", "last"] (sp_cue_of K)) {f : Addr} {fd : FuncData} (F : FnP K "read" s_read f fd) (hm : mg "read" = some (.ref f)) : Fn P w K mg base CX0 "read" 6 ["text"] (sp_read K) := by
  refine Fn.mk0 (t := t_read (fun _ => tNever) K) F hm (F.bindsN fun _ _ _ _ _ _ us hl => match us, hl with | [_], _ => rfl) sc_read (fun vs H Q E h => len_read h) (pure_read (fun _ => tNever)) fun cdv A outer s H E hr => ?_
  exact (pss_cons (ps_set (i := 1) sc_read.nd rfl (Or.inl rfl) (pe_lstF pa_nil))
  (pss_cons (ps_for PassesOwn.never rfl (pi_enumA rfl T.f_enumerate (pa_cons (pe_ifExp (pt_cmpR (ox_ne hr.units) (pv 0) pe_str (nomark _)) (pe_m1 PySem.F.slot_str_split PySem.F.type_str_split mx_split (pv 0) pe_str) (pe_lstF pa_nil)) pa_nil)) (pg_tup rfl (pgs_cons (pg_name (i := 2) sc_read.nd rfl (by first | exact Or.inl rfl | exact Or.inr rfl)) (pgs_cons (pg_name (i := 3) sc_read.nd rfl (by first | exact Or.inl rfl | exact Or.inr rfl)) pgs_nil)))
    (pss_cons (ps_set (i := 4) sc_read.nd rfl (Or.inl rfl) (pe_fn F_cue_of (hr.mono (by decide)) rfl (pa_cons (pv 3) (pa_cons (pe_ifExp (pt_cmpR (ox_ne hr.units) (pv 1) (pe_lstF pa_nil) (nomark _)) (pe_ix (ix_all (hu65 hr)) (pe_ix (ix_all (hu65 hr)) (pv 1) (pe_un un_neg pe_int) (fun _ _ => rfl)) pe_int (fun _ _ => rfl)) (pe_op ox_sub pe_int pe_int)) pa_nil))))
  (pss_cons (ps_if (PW.pt (pw_or (pt_cmpR ox_isN (pv 4) pe_non (nomark _)) (pw_or1 (pt_cmpR (ox_eq hr.units) (pv 2) (pe_gi rfl T.MOST_CUES) (nomark _))))) (pss_one ps_never) pss_nil)
  (pss_one (ps_expr (pe_bm PySem.F.plainAttrs_list PySem.F.slot_list_append PySem.F.type_list_append mx_append (pv 1) (pa_cons (pv 4) pa_nil)))))))
  (pss_one (ps_ret (pe_callTy cl_tuple rfl T.f_tuple bt_tuple (pa_cons (pv 1) pa_nil))))))
theorem F_law (T : Txt mg) (F__law_start : Fn P w K mg base CX0 "_law_start" 1 ["_law_script"] (sp__law_start K)) (F__law_drawn : Fn P w K mg base CX0 "_law_drawn" 1 ["_law_state", "_law_many"] (sp__law_drawn K)) (F__law_cues : Fn P w K mg base CX0 "_law_cues" 5 ["_law_state", "_law_most"] (sp__law_cues K)) (F__law_same : Fn P w K mg base CX0 "_law_same" 9 ["_law_found", "_law_due"] (sp__law_same K 8)) (F_written : Fn P w K mg base CX0 "written" 6 ["cues"] (sp_written K)) (F_read : Fn P w K mg base CX0 "read" 6 ["text"] (sp_read K)) {f : Addr} {fd : FuncData} (F : FnP K "law" s_law f fd) : FnOk P w K mg base CX0 10 f fd ["_law_script"] (sp_law K) := by
  refine ok0 (t := t_law K) F sc_law (fun vs H Q E h => len_law h) (pure_law) fun cdv A outer s H E hr => ?_
  exact (pss_cons (ps_set (i := 1) sc_law.nd rfl (Or.inl rfl) (pe_fn F__law_start (hr.mono (by decide)) rfl (pa_cons (pv 0) pa_nil)))
  (pss_cons (ps_for PassesOwn.never rfl (pi_range1 rfl T.f_range (pa_cons pe_int pa_nil)) (pg_name (i := 2) sc_law.nd rfl (by first | exact Or.inl rfl | exact Or.inr rfl))
    (pss_cons (ps_par (i := 3) (j := 4) rfl sc_law.nd rfl rfl (by decide) rfl rfl (pa_cons (pe_fn F__law_cues (hr.mono (by decide)) rfl (pa_cons (pv 1) (pa_cons (pe_ix (ix_all (hu65 hr)) (pe_lstF (pa_cons pe_int (pa_cons pe_int pa_nil))) (pe_fn F__law_drawn (hr.mono (by decide)) rfl (pa_cons (pv 1) (pa_cons pe_int pa_nil))) (fun _ _ => rfl)) pa_nil))) (pa_cons (pe_lstF pa_nil) pa_nil)) (by rfl))
  (pss_cons (ps_for PassesOwn.never rfl (pi_tup (pv 3)) (pg_tup rfl (pgs_cons (pg_name (i := 5) sc_law.nd rfl (by first | exact Or.inl rfl | exact Or.inr rfl)) (pgs_cons (pg_name (i := 6) sc_law.nd rfl (by first | exact Or.inl rfl | exact Or.inr rfl)) (pgs_cons (pg_name (i := 7) sc_law.nd rfl (by first | exact Or.inl rfl | exact Or.inr rfl)) (pgs_cons (pg_name (i := 8) sc_law.nd rfl (by first | exact Or.inl rfl | exact Or.inr rfl)) (pgs_cons (pg_name (i := 9) sc_law.nd rfl (by first | exact Or.inl rfl | exact Or.inr rfl)) pgs_nil))))))
    (pss_cons (ps_set (i := 10) sc_law.nd rfl (Or.inl rfl) (pe_op ox_add (pe_op ox_add (pe_m1 PySem.F.slot_str_join PySem.F.type_str_join mx_join pe_str (pe_lstF (pa_cons (pe_callTy cl_str rfl T.f_str bt_str (pa_cons (pv 5) pa_nil)) (pa_cons (pe_callTy cl_str rfl T.f_str bt_str (pa_cons (pv 7) pa_nil)) (pa_cons (pe_callTy cl_str rfl T.f_str bt_str (pa_cons (pv 8) pa_nil)) pa_nil))))) pe_str) (pe_ifExp (pt_cmpR ox_isN (pv 9) pe_non (nomark _)) pe_str (pe_callTy cl_str rfl T.f_str bt_str (pa_cons (pv 9) pa_nil)))))
  (pss_cons (ps_for PassesOwn.never rfl (pi_tup (pv 6)) (pg_tup rfl (pgs_cons (pg_name (i := 11) sc_law.nd rfl (by first | exact Or.inl rfl | exact Or.inr rfl)) (pgs_cons (pg_name (i := 12) sc_law.nd rfl (by first | exact Or.inl rfl | exact Or.inr rfl)) pgs_nil)))
    (pss_one (ps_set (i := 10) sc_law.nd rfl (Or.inl rfl) (pe_op ox_add (pe_op ox_add (pe_op ox_add (pe_op ox_add (pv 10) pe_str) (pe_callTy cl_str rfl T.f_str bt_str (pa_cons (pv 11) pa_nil))) pe_str) (pe_ifExp (pt_val (pe_callB cl_isi rfl T.f_isinstance bt_isinstance (pa_cons (pv 12) (pa_cons (pe_bltn rfl T.f_tuple bt_tuple rfl) pa_nil)))) (pe_op ox_add pe_str (pe_callTy cl_str rfl T.f_str bt_str (pa_cons (pe_ix (ix_all (hu65 hr)) (pv 12) pe_int (fun _ _ => rfl)) pa_nil))) (pe_callTy cl_str rfl T.f_str bt_str (pa_cons (pv 12) pa_nil)))))))
  (pss_one (ps_expr (pe_bm PySem.F.plainAttrs_list PySem.F.slot_list_append PySem.F.type_list_append mx_append (pv 4) (pa_cons (pv 10) pa_nil)))))))
  (pss_cons (ps_set (i := 13) sc_law.nd rfl (Or.inl rfl) (pe_m1 PySem.F.slot_str_join PySem.F.type_str_join mx_join pe_str (pv 4)))
  (pss_one (ps_if (PW.pt (pw_or (pt_not (pt_val (pe_fn F__law_same (hr.mono (by decide)) rfl (pa_cons (pe_fn F_written (hr.mono (by decide)) rfl (pa_cons (pv 3) pa_nil)) (pa_cons (pv 13) pa_nil))))) (pw_or1 (pt_not (pt_val (pe_fn F__law_same (hr.mono (by decide)) rfl (pa_cons (pe_fn F_read (hr.mono (by decide)) rfl (pa_cons (pv 13) pa_nil)) (pa_cons (pv 3) pa_nil)))))))) (pss_one (ps_ret pe_bl)) pss_nil))))))
  (pss_one (ps_ret (pe_and (pe_cmpR (ox_eq hr.units) (pe_fn F_read (hr.mono (by decide)) rfl (pa_cons pe_str pa_nil)) (pe_tupF pa_nil) (nomark _)) (pe_one (pe_cmpR (ox_eq hr.units) (pe_fn F_written (hr.mono (by decide)) rfl (pa_cons (pe_tupF pa_nil) pa_nil)) pe_str (nomark _))))))))
end
def d__law_start : He.DefD := ⟨("_law_start", none), "_law_start", "_law_start", defArgs s__law_start, defBody s__law_start, defScope s__law_start, [], []⟩
def d__law_drawn : He.DefD := ⟨("_law_drawn", none), "_law_drawn", "_law_drawn", defArgs s__law_drawn, defBody s__law_drawn, defScope s__law_drawn, [], []⟩
def d__law_what : He.DefD := ⟨("_law_what", none), "_law_what", "_law_what", defArgs s__law_what, defBody s__law_what, defScope s__law_what, [], []⟩
def d__law_entries : He.DefD := ⟨("_law_entries", none), "_law_entries", "_law_entries", defArgs s__law_entries, defBody s__law_entries, defScope s__law_entries, [], []⟩
def d__law_cue : He.DefD := ⟨("_law_cue", none), "_law_cue", "_law_cue", defArgs s__law_cue, defBody s__law_cue, defScope s__law_cue, [], []⟩
def d__law_cues : He.DefD := ⟨("_law_cues", none), "_law_cues", "_law_cues", defArgs s__law_cues, defBody s__law_cues, defScope s__law_cues, [], []⟩
def d__law_same : He.DefD := ⟨("_law_same", none), "_law_same", "_law_same", defArgs s__law_same, defBody s__law_same, defScope s__law_same, [], []⟩
def d_is_number : He.DefD := ⟨("is_number", none), "is_number", "is_number", defArgs s_is_number, defBody s_is_number, defScope s_is_number, [], []⟩
def d_is_what : He.DefD := ⟨("is_what", none), "is_what", "is_what", defArgs s_is_what, defBody s_is_what, defScope s_is_what, [], []⟩
def d_are_entries : He.DefD := ⟨("are_entries", none), "are_entries", "are_entries", defArgs s_are_entries, defBody s_are_entries, defScope s_are_entries, [], []⟩
def d_is_cue : He.DefD := ⟨("is_cue", none), "is_cue", "is_cue", defArgs s_is_cue, defBody s_is_cue, defScope s_is_cue, [], []⟩
def d_need_cues : He.DefD := ⟨("need_cues", none), "need_cues", "need_cues", defArgs s_need_cues, defBody s_need_cues, defScope s_need_cues, [], []⟩
def d_word_of : He.DefD := ⟨("word_of", none), "word_of", "word_of", defArgs s_word_of, defBody s_word_of, defScope s_word_of, [], []⟩
def d_written : He.DefD := ⟨("written", none), "written", "written", defArgs s_written, defBody s_written, defScope s_written, [], []⟩
def d_number_of : He.DefD := ⟨("number_of", none), "number_of", "number_of", defArgs s_number_of, defBody s_number_of, defScope s_number_of, [], []⟩
def d_entry_of : He.DefD := ⟨("entry_of", none), "entry_of", "entry_of", defArgs s_entry_of, defBody s_entry_of, defScope s_entry_of, [], []⟩
def d_cue_of : He.DefD := ⟨("cue_of", none), "cue_of", "cue_of", defArgs s_cue_of, defBody s_cue_of, defScope s_cue_of, [], []⟩
def d_read : He.DefD := ⟨("read", none), "read", "read", defArgs s_read, defBody s_read, defScope s_read, [], []⟩
def d_law : He.DefD := ⟨("law", none), "law", "law", defArgs s_law, defBody s_law, defScope s_law, [], []⟩
def fn : List He.DefD := [d__law_start, d__law_drawn, d__law_what, d__law_entries, d__law_cue, d__law_cues, d__law_same, d_is_number, d_is_what, d_are_entries, d_is_cue, d_need_cues, d_word_of, d_written, d_number_of, d_entry_of, d_cue_of, d_read, d_law]
def fa : List He.Fa := ([.glo "_law_start", .glo "_law_drawn", .glo "_law_what", .glo "_law_entries", .glo "_law_cue", .glo "_law_cues", .glo "_law_same", .glo "is_number", .glo "is_what", .glo "are_entries", .glo "is_cue", .glo "need_cues"] : List He.Fa) ++ ([.glo "word_of", .glo "written", .glo "number_of", .glo "entry_of", .glo "cue_of", .glo "read", .glo "law", .int "LIGHTS" 12, .int "MOST_BEATS" 20, .int "MOST_CUES" 40, .int "MOST_FOLLOW" 40, .int "MOST_LEVEL" 100] : List He.Fa) ++ ([.int "MOST_NUMBER" 999, .int "PARTS" 10, .str "FIGURES" "0123456789", .str "NONE" "-", .str "PART" "part", .str "SIGN" "p", .free "bool", .free "enumerate", .free "int", .free "isinstance", .free "len", .free "list"] : List He.Fa) ++ ([.free "range", .free "str", .free "tuple"] : List He.Fa)
def loose : List PySem.Str := (["__name__", "CueError", "BadCues", "BadText", "LIGHTS", "PARTS", "MOST_LEVEL", "MOST_CUES", "MOST_NUMBER", "MOST_BEATS", "MOST_FOLLOW", "PART"] : List PySem.Str) ++ (["is_number", "is_what", "are_entries", "is_cue", "need_cues", "FIGURES", "NONE", "SIGN", "word_of", "written", "number_of", "entry_of"] : List PySem.Str) ++ (["cue_of", "read", "_law_start", "_law_drawn", "_law_same", "_law_levels", "_law_what", "_law_entries", "_law_cue", "_law_cues"] : List PySem.Str)
abbrev Rw : PySem.W.OpenRow := PySem.W.OpenLaw.row PySem.Challenge.rw_lightcues_k15_written_and_read
abbrev hk : PySem.W.Hook := He.hookD 4 fa fn
def ob (s : PySem.W.SharedT) : He.AlD := He.obsDG 4 fa fn (HandSHeadRun.getT s)
theorem ob_eq (s : PySem.W.SharedT) : ob s = hk.obs s.abs := He.obsDG_eq (HandSHeadRun.getT_eq s)
set_option maxHeartbeats 0 in
theorem run_top (w : World) : HandSHeadRun.RunEq Rw (PySem.W.view Rw.prog [37]) hk ob 20000 loose w := by
  intro os
  kernel_rfl
theorem facts {P : Program} {w : World} {K : PySem.W.Frag} {h : Heap} {mg : Str → Option Value} {f : Addr} (X : K.In h) (G : h.Ns mainGlobals mg) (hfa : mg ("law" : Str) = some (.ref f)) (c : He.SaysD fa fn K) :
    ∃ fd : FuncData, (∀ (s : Shared) (v : Value), BindsTo s fd ⟨[v], []⟩ [("_law_script", v)]) ∧ ∀ base : Heap, K.In base → base.Ns mainGlobals mg → FnOk P w K mg base CX0 10 f fd ["_law_script"] (sp_law K) := by
  obtain ⟨fd0, D0⟩ := c.def_ 0 (d := d__law_start) rfl
  have g0 := He.glo_ok X G (c.fact 0 (f := .glo "_law_start") rfl)
  obtain ⟨fd1, D1⟩ := c.def_ 1 (d := d__law_drawn) rfl
  have g1 := He.glo_ok X G (c.fact 1 (f := .glo "_law_drawn") rfl)
  obtain ⟨fd2, D2⟩ := c.def_ 2 (d := d__law_what) rfl
  have g2 := He.glo_ok X G (c.fact 2 (f := .glo "_law_what") rfl)
  obtain ⟨fd3, D3⟩ := c.def_ 3 (d := d__law_entries) rfl
  have g3 := He.glo_ok X G (c.fact 3 (f := .glo "_law_entries") rfl)
  obtain ⟨fd4, D4⟩ := c.def_ 4 (d := d__law_cue) rfl
  have g4 := He.glo_ok X G (c.fact 4 (f := .glo "_law_cue") rfl)
  obtain ⟨fd5, D5⟩ := c.def_ 5 (d := d__law_cues) rfl
  have g5 := He.glo_ok X G (c.fact 5 (f := .glo "_law_cues") rfl)
  obtain ⟨fd6, D6⟩ := c.def_ 6 (d := d__law_same) rfl
  have g6 := He.glo_ok X G (c.fact 6 (f := .glo "_law_same") rfl)
  obtain ⟨fd7, D7⟩ := c.def_ 7 (d := d_is_number) rfl
  have g7 := He.glo_ok X G (c.fact 7 (f := .glo "is_number") rfl)
  obtain ⟨fd8, D8⟩ := c.def_ 8 (d := d_is_what) rfl
  have g8 := He.glo_ok X G (c.fact 8 (f := .glo "is_what") rfl)
  obtain ⟨fd9, D9⟩ := c.def_ 9 (d := d_are_entries) rfl
  have g9 := He.glo_ok X G (c.fact 9 (f := .glo "are_entries") rfl)
  obtain ⟨fd10, D10⟩ := c.def_ 10 (d := d_is_cue) rfl
  have g10 := He.glo_ok X G (c.fact 10 (f := .glo "is_cue") rfl)
  obtain ⟨fd11, D11⟩ := c.def_ 11 (d := d_need_cues) rfl
  have g11 := He.glo_ok X G (c.fact 11 (f := .glo "need_cues") rfl)
  obtain ⟨fd12, D12⟩ := c.def_ 12 (d := d_word_of) rfl
  have g12 := He.glo_ok X G (c.fact 12 (f := .glo "word_of") rfl)
  obtain ⟨fd13, D13⟩ := c.def_ 13 (d := d_written) rfl
  have g13 := He.glo_ok X G (c.fact 13 (f := .glo "written") rfl)
  obtain ⟨fd14, D14⟩ := c.def_ 14 (d := d_number_of) rfl
  have g14 := He.glo_ok X G (c.fact 14 (f := .glo "number_of") rfl)
  obtain ⟨fd15, D15⟩ := c.def_ 15 (d := d_entry_of) rfl
  have g15 := He.glo_ok X G (c.fact 15 (f := .glo "entry_of") rfl)
  obtain ⟨fd16, D16⟩ := c.def_ 16 (d := d_cue_of) rfl
  have g16 := He.glo_ok X G (c.fact 16 (f := .glo "cue_of") rfl)
  obtain ⟨fd17, D17⟩ := c.def_ 17 (d := d_read) rfl
  have g17 := He.glo_ok X G (c.fact 17 (f := .glo "read") rfl)
  obtain ⟨fd18, D18⟩ := c.def_ 18 (d := d_law) rfl
  have g18 := He.glo_ok X G (c.fact 18 (f := .glo "law") rfl)
  have T : Txt mg := ⟨He.int_ok X G (c.fact 19 (f := .int "LIGHTS" 12) rfl),
    He.int_ok X G (c.fact 20 (f := .int "MOST_BEATS" 20) rfl),
    He.int_ok X G (c.fact 21 (f := .int "MOST_CUES" 40) rfl),
    He.int_ok X G (c.fact 22 (f := .int "MOST_FOLLOW" 40) rfl),
    He.int_ok X G (c.fact 23 (f := .int "MOST_LEVEL" 100) rfl),
    He.int_ok X G (c.fact 24 (f := .int "MOST_NUMBER" 999) rfl),
    He.int_ok X G (c.fact 25 (f := .int "PARTS" 10) rfl),
    He.str_ok X G (c.fact 26 (f := .str "FIGURES" "0123456789") rfl),
    He.str_ok X G (c.fact 27 (f := .str "NONE" "-") rfl),
    He.str_ok X G (c.fact 28 (f := .str "PART" "part") rfl),
    He.str_ok X G (c.fact 29 (f := .str "SIGN" "p") rfl),
    He.free_ok X G (c.fact 30 (f := .free "bool") rfl),
    He.free_ok X G (c.fact 31 (f := .free "enumerate") rfl),
    He.free_ok X G (c.fact 32 (f := .free "int") rfl),
    He.free_ok X G (c.fact 33 (f := .free "isinstance") rfl),
    He.free_ok X G (c.fact 34 (f := .free "len") rfl),
    He.free_ok X G (c.fact 35 (f := .free "list") rfl),
    He.free_ok X G (c.fact 36 (f := .free "range") rfl),
    He.free_ok X G (c.fact 37 (f := .free "str") rfl),
    He.free_ok X G (c.fact 38 (f := .free "tuple") rfl)⟩
  have e := hfa.symm.trans g18
  cases e
  have b := FunD.bindsA (ps := ["_law_script"]) D18 fun _ _ _ _ _ _ us hl => match us, hl with | [_], _ => rfl
  refine ⟨fd18, fun s v => b s [v] rfl, fun base _ _ => ?_⟩
  have K0 := F__law_start (P := P) (w := w) (base := base) T D0 g0
  have K1 := F__law_drawn (P := P) (w := w) (base := base) T D1 g1
  have K2 := F__law_what (P := P) (w := w) (base := base) T K1 D2 g2
  have K3 := F__law_entries (P := P) (w := w) (base := base) T K1 K2 D3 g3
  have K4 := F__law_cue (P := P) (w := w) (base := base) T K1 K3 D4 g4
  have K5 := F__law_cues (P := P) (w := w) (base := base) T K1 K4 D5 g5
  have K6 := F__law_same (P := P) (w := w) (base := base) T D6 g6 8
  have K7 := F_is_number (P := P) (w := w) (base := base) T D7 g7
  have K8 := F_is_what (P := P) (w := w) (base := base) T K7 D8 g8
  have K9 := F_are_entries (P := P) (w := w) (base := base) T K7 K8 D9 g9
  have K10 := F_is_cue (P := P) (w := w) (base := base) T K7 K9 D10 g10
  have K11 := F_need_cues (P := P) (w := w) (base := base) T K10 D11 g11
  have K12 := F_word_of (P := P) (w := w) (base := base) T D12 g12
  have K13 := F_written (P := P) (w := w) (base := base) T K11 K12 D13 g13
  have K14 := F_number_of (P := P) (w := w) (base := base) T D14 g14
  have K15 := F_entry_of (P := P) (w := w) (base := base) T K14 D15 g15
  have K16 := F_cue_of (P := P) (w := w) (base := base) T K10 K14 K15 D16 g16
  have K17 := F_read (P := P) (w := w) (base := base) T K16 D17 g17
  exact F_law (P := P) (w := w) (base := base) T K0 K1 K5 K6 K13 K17 D18
end Lc
open PySem PySem.W PySem.Calls PyProof.Rows
set_option maxRecDepth 100000 in
set_option maxHeartbeats 0 in
theorem PySem.Challenge.cw_lightcues_k15_written_and_read_holds : PySem.Challenge.rw_lightcues_k15_written_and_read.Holds := by
  w_on; o_law
  refine HandSHeadRun.head_any (r := OpenLaw.row PySem.Challenge.rw_lightcues_k15_written_and_read) (q := view (OpenLaw.row PySem.Challenge.rw_lightcues_k15_written_and_read).prog [37]) (H := Lc.hk) (ob := Lc.ob) (M := 20000) (loose := Lc.loose) (d := HandSHeadRun.topDef (OpenLaw.row PySem.Challenge.rw_lightcues_k15_written_and_read).prog 37) (kwd := []) Lc.ob_eq
    (by kernel_rfl) (fun s => by kernel_rfl) Lc.run_top (by kernel_rfl) (by kernel_rfl) (by kernel_rfl) (by rfl) (by first | assumption | decide +kernel) (by decide +kernel) ⟨rfl, rfl, rfl, rfl, rfl, by decide +kernel⟩ ?hw ?hc
  case hw => w_witness2
  case hc =>
    refine L2.walk_ofE (l := PySem.Challenge.rw_lightcues_k15_written_and_read) (n := 63) (k := 10) (x := "_law_script") (CX := L2.CX0) rfl (by decide) (by kernel_rfl) ⟨rfl, by decide, by decide⟩ ?F (fun _ _ _ _ z => z)
    intro w mg fa h Y G hmg0
    obtain ⟨K, KX, c⟩ := Y
    have hmg : mg ("law" : PySem.Str) = some (.ref fa) := by
      have e : (HandSHeadRun.topDef (OpenLaw.row PySem.Challenge.rw_lightcues_k15_written_and_read).prog 37).name = ("law" : PySem.Str) := by kernel_rfl
      rw [← e]
      exact hmg0
    obtain ⟨fd, hb, hF⟩ := Lc.facts (P := (PySem.Challenge.rw_lightcues_k15_written_and_read).prog) (w := w) KX G hmg c
    exact ⟨K, fd, Lc.sp_law K, KX, hb, fun H a ns hl hO hS => ⟨a, ns, rfl, Lc.SqF.of hO hS, fun _ => rfl⟩, hF⟩

#print axioms PySem.Challenge.cw_lightcues_k15_written_and_read_holds
