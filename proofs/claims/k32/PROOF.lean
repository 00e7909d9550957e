import PyProof.Rows.All
import Wide.All
import OpenK.AllK
import Wide.FinOn
import HandS.ForMost
import HandS.Wide
import HandS.Walk
import HandS.IsInst
import HandS.Flow
import HandS.Style
import HandS.Zip
import HandS.EndBits
import HandS.Defaults
import HandS.More
import HandS.MakeKwOnly
import HandS.MakeKw
import HandS.Text
import PyProof.StrOps2
import HandS.Nested
import HandS.EndTab
import HandS.SortInts
import HandS.Exc
import HandS.ExcOwn
import HandS.WordsExc
import HandS.ExcIs
import HandS.ExcInit
import KE.KExcIs
import HandS.DictComp
import KE.KDictCopyH
import HandS.SortKw
import HandS.SortRule
import HandS.Conv
import HandS.ExcValue
import KE.KDictSum
import HandS.TupLen
import PySem.Challenge.RW_fairsheet_k32_breadths_by_price
set_option Elab.async false
set_option linter.all false
set_option maxRecDepth 100000
set_option maxHeartbeats 20000000
set_option exponentiation.threshold 20000
namespace Fs
open PySem PySem.Spec PyProof.Rows L2

/-! ### data and what denotes it -/
inductive D where
  | non | bl (b : Bool) | int (i : Int) | str (x : Str) | ref (a : Addr) | ty (n : String)
  | tup (ds : List D) | lst (ds : List D) | obj (C : Addr) (fs : List (Str × D)) | dict | fact (φ : V → Hp → Prop)

mutual
inductive Is (I : Hp) : V → D → Prop
  | non : Is I .non .non
  | bl (b : Bool) : Is I (.bl b) (.bl b)
  | int (i : Int) : Is I (.int i) (.int i)
  | str (x : Str) : Is I (.str x) (.str x)
  | ref (a : Addr) : Is I (.ref a) (.ref a)
  | ty (n : String) : Is I (.ty n) (.ty n)
  | tup {p : Addr} {vs : List V} {ds : List D} : I p = some (.tup vs) → IsA I vs ds → Is I (.ref p) (.tup ds)
  | lst {p : Addr} {vs : List V} {ds : List D} : I p = some (.lst vs) → IsA I vs ds → Is I (.ref p) (.lst ds)
  | obj {p C dx : Addr} {fs : List (Str × V)} {ds : List (Str × D)} : I p = some (.ins C dx fs) → IsF I fs ds → Is I (.ref p) (.obj C ds)
  | dct {p : Addr} {kvs : List (Key × V)} : I p = some (.dK kvs) → Is I (.ref p) .dict
  | fact {v : V} {φ : V → Hp → Prop} {J : Hp} : Same J I → φ v J → Is I v (.fact φ)
inductive IsA (I : Hp) : List V → List D → Prop
  | nil : IsA I [] []
  | cons {v : V} {d : D} {vs : List V} {ds : List D} : Is I v d → IsA I vs ds → IsA I (v :: vs) (d :: ds)
inductive IsF (I : Hp) : List (Str × V) → List (Str × D) → Prop
  | nil : IsF I [] []
  | cons {f : Str} {v : V} {d : D} {vs : List (Str × V)} {ds : List (Str × D)} : Is I v d → IsF I vs ds → IsF I ((f, v) :: vs) ((f, d) :: ds)
end
mutual
theorem Is.mono {I J : Hp} (s : Same I J) : ∀ {v : V} {d : D}, Is I v d → Is J v d
  | _, _, .non => .non
  | _, _, .bl b => .bl b
  | _, _, .int i => .int i
  | _, _, .str x => .str x
  | _, _, .ref a => .ref a
  | _, _, .ty n => .ty n
  | _, _, .tup h a => .tup (s _ _ h) (IsA.mono s a)
  | _, _, .lst h a => .lst (s _ _ h) (IsA.mono s a)
  | _, _, .obj h a => .obj (s _ _ h) (IsF.mono s a)
  | _, _, .dct h => .dct (s _ _ h)
  | _, _, .fact h q => .fact (h.trans s) q
theorem IsA.mono {I J : Hp} (s : Same I J) : ∀ {vs : List V} {ds : List D}, IsA I vs ds → IsA J vs ds
  | _, _, .nil => .nil
  | _, _, .cons h a => .cons (Is.mono s h) (IsA.mono s a)
theorem IsF.mono {I J : Hp} (s : Same I J) : ∀ {vs : List (Str × V)} {ds : List (Str × D)}, IsF I vs ds → IsF J vs ds
  | _, _, .nil => .nil
  | _, _, .cons h a => .cons (Is.mono s h) (IsF.mono s a)
end
section
variable {I J : Hp} {v : V} {vs : List V} {ds es : List D} {d : D}
theorem Is.int_eq {n : Int} (h : Is I v (.int n)) : v = .int n := by cases h; rfl
theorem Is.bl_eq {n : Bool} (h : Is I v (.bl n)) : v = .bl n := by cases h; rfl
theorem Is.str_eq {n : Str} (h : Is I v (.str n)) : v = .str n := by cases h; rfl
theorem Is.non_eq (h : Is I v .non) : v = .non := by cases h; rfl
theorem Is.ref_eq {a : Addr} (h : Is I v (.ref a)) : v = .ref a := by cases h; rfl
theorem Is.tup_ex (h : Is I v (.tup ds)) : ∃ p vs, v = .ref p ∧ I p = some (.tup vs) ∧ IsA I vs ds := by
  cases h with | tup h a => exact ⟨_, _, rfl, h, a⟩
theorem Is.lst_ex (h : Is I v (.lst ds)) : ∃ p vs, v = .ref p ∧ I p = some (.lst vs) ∧ IsA I vs ds := by
  cases h with | lst h a => exact ⟨_, _, rfl, h, a⟩
theorem Is.obj_ex {C : Addr} {fs : List (Str × D)} (h : Is I v (.obj C fs)) : ∃ p dx vs, v = .ref p ∧ I p = some (.ins C dx vs) ∧ IsF I vs fs := by
  cases h with | obj h a => exact ⟨_, _, _, rfl, h, a⟩
theorem IsA.length : ∀ {vs : List V} {ds : List D}, IsA I vs ds → vs.length = ds.length
  | _, _, .nil => rfl
  | _, _, .cons _ a => by rw [List.length_cons, List.length_cons, a.length]
theorem IsA.get : ∀ {vs : List V} {ds : List D} {i : Nat} {d : D}, IsA I vs ds → ds[i]? = some d → ∃ v, vs[i]? = some v ∧ Is I v d
  | _, _, _, _, .nil, h => by simp at h
  | _, _, 0, _, .cons h _, e => by simp at e; subst e; exact ⟨_, rfl, h⟩
  | _, _, i + 1, d, .cons _ a, e => by
    obtain ⟨v, h1, h2⟩ := IsA.get (i := i) (d := d) a (by simpa using e)
    exact ⟨v, by simpa using h1, h2⟩
theorem IsA.of : ∀ {vs : List V} {ds : List D} {i : Nat} {v : V}, IsA I vs ds → vs[i]? = some v → ∃ d, ds[i]? = some d ∧ Is I v d
  | _, _, _, _, .nil, h => by simp at h
  | _, _, 0, _, .cons h _, e => by simp at e; subst e; exact ⟨_, rfl, h⟩
  | _, _, i + 1, d, .cons _ a, e => by
    obtain ⟨v, h1, h2⟩ := IsA.of (i := i) a (by simpa using e)
    exact ⟨v, by simpa using h1, h2⟩
theorem IsA.app : ∀ {vs us : List V} {ds es : List D}, IsA I vs ds → IsA I us es → IsA I (vs ++ us) (ds ++ es)
  | _, _, _, _, .nil, b => b
  | _, _, _, _, .cons h a, b => .cons h (IsA.app a b)
theorem IsA.one (h : Is I v d) : IsA I [v] [d] := .cons h .nil
theorem IsA.rev : ∀ {vs : List V} {ds : List D}, IsA I vs ds → IsA I vs.reverse ds.reverse
  | _, _, .nil => .nil
  | _, _, .cons h a => by rw [List.reverse_cons, List.reverse_cons]; exact (IsA.rev a).app (.one h)
theorem IsA.take : ∀ {vs : List V} {ds : List D} (n : Nat), IsA I vs ds → IsA I (vs.take n) (ds.take n)
  | _, _, 0, _ => .nil
  | _, _, _ + 1, .nil => .nil
  | _, _, n + 1, .cons h a => .cons h (IsA.take n a)
theorem IsA.drop : ∀ {vs : List V} {ds : List D} (n : Nat), IsA I vs ds → IsA I (vs.drop n) (ds.drop n)
  | _, _, 0, a => a
  | _, _, _ + 1, .nil => .nil
  | _, _, n + 1, .cons h a => IsA.drop n a
theorem IsA.ints : ∀ (ns : List Int), IsA I (ns.map V.int) (ns.map D.int)
  | [] => .nil
  | n :: r => .cons (.int n) (IsA.ints r)
theorem IsA.ints_eq : ∀ {vs : List V} {ns : List Int}, IsA I vs (ns.map D.int) → vs = ns.map V.int
  | _, [], h => by cases h; rfl
  | _, n :: r, h => by
    cases h with
    | cons h a => rw [h.int_eq, IsA.ints_eq a]; rfl
theorem IsF.get : ∀ {fs : List (Str × V)} {ds : List (Str × D)} {f : Str} {d : D}, IsF I fs ds → ds.lookup f = some d → ∃ v, fs.lookup f = some v ∧ Is I v d
  | _, _, _, _, .nil, e => by simp at e
  | _, _, f, d, .cons (f := g) h a, e => by
    rw [List.lookup_cons] at e
    cases hc : f == g with
    | true => rw [hc] at e; simp at e; subst e; exact ⟨_, by rw [List.lookup_cons, hc], h⟩
    | false =>
      rw [hc] at e
      obtain ⟨v, h1, h2⟩ := IsF.get a e
      exact ⟨v, by rw [List.lookup_cons, hc]; exact h1, h2⟩
theorem IsF.no : ∀ {fs : List (Str × V)} {ds : List (Str × D)} {f : Str}, IsF I fs ds → ds.lookup f = none → fs.lookup f = none
  | _, _, _, .nil, _ => rfl
  | _, _, f, .cons (f := g) h a, e => by
    rw [List.lookup_cons] at e ⊢
    cases hc : f == g with
    | true => rw [hc] at e; cases e
    | false => rw [hc] at e; exact IsF.no a e
end

/-! ### the heap: what stays (I), what may be changed (M) -/
structure W (I H : Hp) (M : List (Addr × HO)) : Prop where
  imm : Same I H
  mu : ∀ p ∈ M, H p.1 = some p.2 ∧ I p.1 = none
  nd : (M.map (·.1)).Nodup
section
variable {I H : Hp} {M M1 M2 : List (Addr × HO)} {p : Addr} {o o' : HO} {m : Addr × HO}
theorem same_new (h : H p = none) : Same H (upd H p o) := fun b x e => by
  rw [upd_ne (ne_of_none e h)]
  exact e
theorem W.fresh (w : W I H M) (h : H p = none) : I p = none := w.imm.free h
theorem W.notin (w : W I H M) (h : H p = none) : p ∉ M.map (·.1) := fun q => by
  obtain ⟨x, hx, e⟩ := List.mem_map.mp q
  have := (w.mu x hx).1
  rw [e, h] at this
  cases this
/-- a new thing that stays -/
theorem W.newI (w : W I H M) (h : H p = none) : W (upd I p o) (upd H p o) M where
  imm := fun b x e => by
    by_cases hb : b = p
    · subst hb; rw [upd_same] at e ⊢; exact e
    · rw [upd_ne hb] at e ⊢; exact w.imm b x e
  mu := fun x hx => by
    have q : x.1 ≠ p := fun e => w.notin h (e ▸ List.mem_map_of_mem hx)
    rw [upd_ne q, upd_ne q]
    exact w.mu x hx
  nd := w.nd
theorem W.same (w : W I H M) (h : H p = none) : Same I (upd I p o) := same_new (w.fresh h)
/-- a new thing that may be changed -/
theorem W.newM (w : W I H M) (h : H p = none) : W I (upd H p o) ((p, o) :: M) where
  imm := fun b x e => by
    rw [upd_ne (ne_of_none e (w.fresh h))]
    exact w.imm b x e
  mu := fun x hx => by
    rcases List.mem_cons.mp hx with e | hx
    · subst e; exact ⟨upd_same, w.fresh h⟩
    · have q : x.1 ≠ p := fun e => w.notin h (e ▸ List.mem_map_of_mem hx)
      rw [upd_ne q]
      exact w.mu x hx
  nd := List.nodup_cons.mpr ⟨w.notin h, w.nd⟩
theorem W.newM2 (w : W I H (m :: M)) (h : H p = none) : W I (upd H p o) (m :: (p, o) :: M) := by
  have q := w.newM (o := o) h
  refine ⟨q.imm, fun x hx => q.mu x ?_, ?_⟩
  · rcases List.mem_cons.mp hx with e | hx
    · exact List.mem_cons.mpr (.inr (List.mem_cons.mpr (.inl e)))
    · rcases List.mem_cons.mp hx with e | hx
      · exact List.mem_cons.mpr (.inl e)
      · exact List.mem_cons.mpr (.inr (List.mem_cons.mpr (.inr hx)))
  · have n := q.nd
    simp only [List.map_cons, List.nodup_cons, List.mem_cons, not_or] at n ⊢
    exact ⟨⟨fun e => n.1.1 e.symm, n.2.1⟩, n.1.2, n.2.2⟩
/-- a change -/
theorem W.put (w : W I H (M1 ++ (p, o) :: M2)) : W I (upd H p o') (M1 ++ (p, o') :: M2) := by
  have n := w.nd
  simp only [List.map_append, List.map_cons] at n
  have hp := w.mu (p, o) (List.mem_append_right _ List.mem_cons_self)
  refine ⟨fun b x e => ?_, fun x hx => ?_, by simpa only [List.map_append, List.map_cons] using n⟩
  · rw [upd_ne (ne_of_none e hp.2)]
    exact w.imm b x e
  · have n2 := List.nodup_append.mp n
    have n3 := List.nodup_cons.mp n2.2.1
    rcases List.mem_append.mp hx with h | h
    · have q : x.1 ≠ p := n2.2.2 _ (List.mem_map_of_mem h) _ List.mem_cons_self
      rw [upd_ne q]
      exact w.mu x (List.mem_append_left _ h)
    · rcases List.mem_cons.mp h with e | h
      · subst e; exact ⟨upd_same, hp.2⟩
      · have q : x.1 ≠ p := fun e => n3.1 (e ▸ List.mem_map_of_mem h)
        rw [upd_ne q]
        exact w.mu x (List.mem_append_right _ (List.mem_cons_of_mem _ h))
theorem W.put0 (w : W I H ((p, o) :: M2)) : W I (upd H p o') ((p, o') :: M2) := W.put (M1 := []) w
theorem W.put1 {m0 : Addr × HO} (w : W I H (m0 :: (p, o) :: M2)) : W I (upd H p o') (m0 :: (p, o') :: M2) := W.put (M1 := [m0]) w
theorem W.put2 {m0 m1 : Addr × HO} (w : W I H (m0 :: m1 :: (p, o) :: M2)) : W I (upd H p o') (m0 :: m1 :: (p, o') :: M2) := W.put (M1 := [m0, m1]) w
/-- what may be changed stays from now on -/
theorem W.frz (w : W I H (M1 ++ (p, o) :: M2)) : W (upd I p o) H (M1 ++ M2) := by
  have n := w.nd
  simp only [List.map_append, List.map_cons] at n
  have hp := w.mu (p, o) (List.mem_append_right _ List.mem_cons_self)
  have n2 := List.nodup_append.mp n
  have n3 := List.nodup_cons.mp n2.2.1
  refine ⟨fun b x e => ?_, fun x hx => ?_, ?_⟩
  · by_cases hb : b = p
    · subst hb; rw [upd_same] at e; cases e; exact hp.1
    · rw [upd_ne hb] at e; exact w.imm b x e
  · have q : x.1 ≠ p := by
      rcases List.mem_append.mp hx with h | h
      · exact n2.2.2 _ (List.mem_map_of_mem h) _ List.mem_cons_self
      · exact fun e => n3.1 (e ▸ List.mem_map_of_mem h)
    rw [upd_ne q]
    refine w.mu x ?_
    rcases List.mem_append.mp hx with h | h
    · exact List.mem_append_left _ h
    · exact List.mem_append_right _ (List.mem_cons_of_mem _ h)
  · rw [List.map_append]
    exact n.sublist (List.Sublist.append_left (List.sublist_cons_self _ _) _)
theorem W.frzS (w : W I H (M1 ++ (p, o) :: M2)) : Same I (upd I p o) := same_new (w.mu (p, o) (List.mem_append_right _ List.mem_cons_self)).2
theorem W.at (w : W I H (M1 ++ (p, o) :: M2)) : H p = some o := (w.mu (p, o) (List.mem_append_right _ List.mem_cons_self)).1
theorem W.at0 (w : W I H ((p, o) :: M2)) : H p = some o := W.at (M1 := []) w
theorem W.at1 {m0 : Addr × HO} (w : W I H (m0 :: (p, o) :: M2)) : H p = some o := W.at (M1 := [m0]) w
theorem W.at2 {m0 m1 : Addr × HO} (w : W I H (m0 :: m1 :: (p, o) :: M2)) : H p = some o := W.at (M1 := [m0, m1]) w
/-- the heap has more -/
theorem W.more {H' : Hp} (w : W I H M) (s : Same H H') : W I H' M := ⟨w.imm.trans s, fun x hx => ⟨s _ _ (w.mu x hx).1, (w.mu x hx).2⟩, w.nd⟩
end
end Fs

namespace Fs
open PySem PySem.Spec PyProof.Rows L2

/-! ### rules for several kinds at once -/
section
variable {X : Cx}
theorem opOr {f : Value → Value → Sem Value} {r r' : R2} (a : OpR X f r) (b : OpR X f r') : OpR X f (fun x y H Q => r x y H Q ∨ r' x y H Q) := by
  intro pins s σ H x y v u Q I rx ry h
  rcases h with h | h
  · exact a pins s σ H x y v u Q I rx ry h
  · exact b pins s σ H x y v u Q I rx ry h
theorem callOr {f : Value} {r r' : List V → Hp → VK → Prop} (a : CallR X f r) (b : CallR X f r') : CallR X f (fun xs H Q => r xs H Q ∨ r' xs H Q) := by
  intro pins s σ H xs us Q I rx h
  rcases h with h | h
  · exact a pins s σ H xs us Q I rx h
  · exact b pins s σ H xs us Q I rx h
theorem piOr {tg iter : Expr} {w w' : TI} (a : PI X tg iter w) (b : PI X tg iter w') : PI X tg iter (fun σ H R => w σ H R ∨ w' σ H R) := by
  refine ⟨fun pins s σ H R I h => ?_⟩
  rcases h with h | h
  · exact a.run pins s σ H R I h
  · exact b.run pins s σ H R I h
def rAddS : R2 := fun x y H Q => ∃ i j, x = .str i ∧ y = .str j ∧ i.length + j.length ≤ sizeLine ∧ Q (.str (i ++ j)) H
def rAddU (K : PySem.W.Frag) : R2 := fun x y H Q => rI0 (fun i j => .int (i + j)) x y H Q ∨ (rAddS x y H Q ∨ (rCat x y H Q ∨ rCatT K x y H Q))
theorem uo_add : OpR X (binaryOp .Add) (rAddU X.K) := opOr op_add (opOr op_add_str (opOr op_cat op_catT))
def rMulU : R2 := fun x y H Q => rI CMulW (fun i j => .int (i * j)) x y H Q ∨ rRep x y H Q
theorem uo_mul : OpR X (binaryOp .Mult) rMulU := opOr op_mulW op_rep
def rEqU (K : PySem.W.Frag) : R2 := fun x y H Q => rEq x y H Q ∨ rEqD K x y H Q
def rNeU (K : PySem.W.Frag) : R2 := fun x y H Q => rNe x y H Q ∨ rNeD K x y H Q
theorem uo_eq (hu : X.A.units + 64 < cLine) : OpR X (compareOp .Eq) (rEqU X.K) := opOr op_eq (op_eqD hu)
theorem uo_ne (hu : X.A.units + 64 < cLine) : OpR X (compareOp .NotEq) (rNeU X.K) := opOr op_ne (op_neD hu)
def rLenQ (K : PySem.W.Frag) : List V → Hp → VK → Prop := fun xs H Q => ∃ p ys, xs = [.ref p] ∧ (SqL K H p ys ∨ SqT K H p ys) ∧ Q (.int ys.length) H
def rLenStr : List V → Hp → VK → Prop := fun xs H Q => ∃ z, xs = [.str z] ∧ z.length ≤ sizeLine ∧ Q (.int z.length) H
def rLenU (K : PySem.W.Frag) : List V → Hp → VK → Prop := fun xs H Q => rLenQ K xs H Q ∨ rLenStr xs H Q
theorem uc_len : CallR X (.builtin "len") (rLenU X.K) := callOr call_len_seq call_len_str
def rAbs : List V → Hp → VK → Prop := fun xs H Q => ∃ i, xs = [.int i] ∧ Q (.int (if i < 0 then -i else i)) H
theorem uc_abs : CallR X (.builtin "abs") rAbs := call_abs
def rIsiU (K : PySem.W.Frag) : List V → Hp → VK → Prop := fun xs H Q => rIsi K xs H Q ∨ rIsiT K xs H Q
theorem uc_isi : CallR X (.builtin "isinstance") (rIsiU X.K) := callOr call_isi call_isiT
def rInt1 : List V → Hp → VK → Prop := fun xs H Q => (∃ i, xs = [.int i] ∧ Q (.int i) H) ∨ ∃ k, xs = [.bl k] ∧ Q (.int (if k then 1 else 0)) H
theorem uc_int : CallR X (.type "int") rInt1 := call_int1
def rMin2 : List V → Hp → VK → Prop := fun xs H Q => ∃ i j, xs = [.int i, .int j] ∧ Q (.int (if j < i then j else i)) H
def rMax2 : List V → Hp → VK → Prop := fun xs H Q => ∃ i j, xs = [.int i, .int j] ∧ Q (.int (if j > i then j else i)) H
def rMinU (K : PySem.W.Frag) : List V → Hp → VK → Prop := fun xs H Q => rMin2 xs H Q ∨ rMin K xs H Q
def rMaxU (K : PySem.W.Frag) : List V → Hp → VK → Prop := fun xs H Q => rMax2 xs H Q ∨ rMax K xs H Q
theorem uc_min (hc : X.calm = true) : CallR X (.builtin "min") (rMinU X.K) := callOr (call_min2 hc) (cr_min hc)
theorem uc_max (hc : X.calm = true) : CallR X (.builtin "max") (rMaxU X.K) := callOr (call_max2 hc) (cr_max hc)
def rListOf (K : PySem.W.Frag) : List V → Hp → VK → Prop := fun xs H Q => ∃ p ys, xs = [.ref p] ∧ (SqL K H p ys ∨ SqT K H p ys) ∧ ∀ l, H l = none → Q (.ref l) (upd H l (.lst ys))
theorem uc_list : CallR X (.type "list") (rListOf X.K) := call_list_of
def iSeqU (K : PySem.W.Frag) (tl : TE) : TI := fun σ H R => iList K tl σ H R ∨ iTup K tl σ H R
theorem pi_seq {tg l : Expr} {tl : TE} (h : PE X l tl) : PI X tg l (iSeqU X.K tl) := piOr (pi_list h) (pi_tup h)
end

/-! ### a def that may be called -/
structure Cal (P : Program) (w : World) (K : PySem.W.Frag) (mg : Str → Option Value) (base : Heap) (x : Str) (k : Nat) (ps : List Str) (dvs : List V) (sp : Sp) : Prop where
  ex : ∃ (f : Addr) (fd : FuncData) (ds : List Value), FnOk P w K mg base CX0 k f fd ps sp ∧ mg x = some (.ref f) ∧ PySem.W.keepIn K (.ref f) = true ∧ Binds K fd ps ds ∧ Vals dvs ds
section
variable {X : Cx} {x : Str} {p pos : Pos} {e : Expr} {es : List Expr} {t : TA} {k : Nat} {ps : List Str} {dvs : List V} {sp : Sp}
theorem pe_cal (c : Cal X.prog X.w X.K X.mg X.base x k ps dvs sp) (hr : Room k X.A) (hg : Gl X x) (ha : PA X (e :: es) t) (hdb : (x == ("__debug__" : Str)) = false := by decide)
    (he : starEach (e :: es) X.env = (false, eval e X.env) :: starEach es X.env := by rfl) (hpl : (backTo pos (starEach es X.env)).any (·.1) = false := by rfl) : PE X (.Call (.Name x p) (e :: es) [] pos) (tCall sp dvs E0 t) := by
  obtain ⟨f, fd, ds, F, hm, hk, hb, hd⟩ := c.ex
  exact pe_call F hr hg hm hk hb hd pass0 ha hdb he hpl
theorem pe_cal0 (c : Cal X.prog X.w X.K X.mg X.base x k ps dvs sp) (hr : Room k X.A) (hg : Gl X x) (hdb : (x == ("__debug__" : Str)) = false := by decide) : PE X (.Call (.Name x p) [] [] pos) (tCall sp dvs E0 tNil) := by
  obtain ⟨f, fd, ds, F, hm, hk, hb, hd⟩ := c.ex
  exact pe_call0 F hr hg hm hk hb hd pass0 hdb
end

/-! ### steps of a reading -/
section
variable {K : PySem.W.Frag} {σ σ' : L2.St} {I H : Hp} {M M1 M2 : List (Addr × HO)} {Q : VK} {R : Bool → Hp → Prop} {RA : List V → Hp → Prop} {G : Ends} {ta tb tc te : TE} {t u : TS} {c c' : TT} {tA tr : TA} {g : TG} {r r' : R2} {i : Nat} {v x y : V} {xs vs : List V} {d : D} {ds es : List D}
-- statements
theorem s_seq (h : t { G with nx := u G } σ H) : tSeq t u G σ H := h
theorem s_next (h : G.nx σ H) : tNext G σ H := h
theorem s_brk (h : G.bk σ H) : tBreak G σ H := h
theorem s_cnt (h : G.ct σ H) : tCont G σ H := h
theorem s_ifS (h : c σ H fun b H1 => if b = true then t G σ H1 else u G σ H1) : tIfS c t u G σ H := h
theorem s_asg (h : te σ H fun x H1 => g x σ H1 G.nx) : tAsg te g G σ H := h
theorem s_ret (h : te σ H G.rt) : tRet te G σ H := h
theorem s_retN (h : G.rt .non H) : tRetN G σ H := h
theorem s_drop (h : te σ H fun _ H1 => G.nx σ H1) : tDrop te G σ H := h
theorem s_par {i j : Nat} (h : tA σ H fun vs H1 => ∃ v w, vs = [v, w] ∧ G.nx ((σ.set i (some v)).set j (some w)) H1) : tPar i j tA G σ H := h
theorem s_par2 {P : V → V → Prop} (h : P x y) : ∃ v w, [x, y] = [v, w] ∧ P v w := ⟨x, y, rfl, h⟩
theorem s_gname {T : L2.St → Hp → Prop} (h : T (σ.set i (some v)) H) : gName i v σ H T := h
/-- a mid-word: the ways of a statement meet -/
theorem s_mid (Mid : L2.St → Hp → Prop) (k : ∀ σ H, Mid σ H → u G σ H) (h : ∀ N : L2.St → Hp → Prop, (∀ σ' H', Mid σ' H' → N σ' H') → t { G with nx := N } σ H) : tSeq t u G σ H := h _ k
/-- .. (elder form) -/
theorem s_cut (Mid : L2.St → Hp → Prop) (h : t { G with nx := Mid } σ H) (k : ∀ σ H, Mid σ H → u G σ H) (mono : ∀ {G' : Ends}, True := by trivial) (hm : (∀ σ H, Mid σ H → u G σ H) → t { G with nx := Mid } σ H → t { G with nx := u G } σ H) : tSeq t u G σ H := hm k h
-- expressions
theorem s_var (h : σ[i]? = some (some v)) (q : Q v H) : tVar i σ H Q := ⟨v, h, q⟩
theorem s_c (q : Q v H) : tC v σ H Q := q
theorem s_op (h : ta σ H fun x H1 => tb σ H1 fun y H2 => r x y H2 Q) : tOp r ta tb σ H Q := h
theorem s_un {r : V → Hp → VK → Prop} (h : ta σ H fun x H1 => r x H1 Q) : tUn r ta σ H Q := h
theorem s_test (h : ta σ H fun x H' => ∃ k, x = .bl k ∧ R k H') : tTest ta σ H R := h
theorem s_B (h : ta σ H fun x H' => ∃ k, x = .bl k ∧ R k H') : tB ta σ H R := h
theorem s_k {b : Bool} {P : Bool → Prop} (h : P b) : ∃ k, V.bl b = .bl k ∧ P k := ⟨b, rfl, h⟩
theorem s_and (h : c σ H fun b H1 => if b = true then c' σ H1 R else R false H1) : tAnd c c' σ H R := h
theorem s_or (h : c σ H fun b H1 => if b = true then R true H1 else c' σ H1 R) : tOr c c' σ H R := h
theorem s_not (h : c σ H fun b H1 => R (!b) H1) : tNot c σ H R := h
theorem s_andV (h : ta σ H fun x H1 => ∃ c, x = .bl c ∧ if c = true then tb σ H1 Q else Q (.bl false) H1) : tAndV ta tb σ H Q := h
theorem s_orV (h : ta σ H fun x H1 => ∃ c, x = .bl c ∧ if c = true then Q (.bl true) H1 else tb σ H1 Q) : tOrV ta tb σ H Q := h
theorem s_notV (h : ta σ H fun x H1 => ∃ c, x = .bl c ∧ Q (.bl (!c)) H1) : tNotV ta σ H Q := h
theorem s_if (h : c σ H fun b H1 => if b = true then ta σ H1 Q else tb σ H1 Q) : tIf c ta tb σ H Q := h
theorem s_isN (h : ta σ H fun x H1 => Q (.bl (decide (x = .non))) H1) : tIsN ta σ H Q := h
theorem s_notN (h : ta σ H fun x H1 => Q (.bl (!decide (x = .non))) H1) : tNotN ta σ H Q := h
theorem s_chain (h : ta σ H fun x H1 => tb σ H1 fun y H2 => r x y H2 fun z H3 => ∃ k, z = .bl k ∧ if k = true then tc σ H3 fun w H4 => r' y w H4 Q else Q (.bl false) H3) : tChain r r' ta tb tc σ H Q := by
  unfold tChain
  exact h
theorem s_nil (h : RA [] H) : tNil σ H RA := h
theorem s_cons (h : ta σ H fun x H1 => tr σ H1 fun xs H2 => RA (x :: xs) H2) : tCons ta tr σ H RA := h
theorem s_call {sp : Sp} {dvs : List V} {E : XK} (h : tA σ H fun vs H1 => sp (vs ++ dvs) H1 Q E) : tCall sp dvs E tA σ H Q := h
theorem s_cb {r : List V → Hp → VK → Prop} (h : tA σ H fun vs H1 => r vs H1 Q) : tCB r tA σ H Q := h
-- ifs
theorem s_ite {b : Bool} {A B : Prop} (h1 : b = true → A) (h2 : b = false → B) : if b = true then A else B := by
  cases b with
  | true => exact iteT (h1 rfl)
  | false => exact iteF (h2 rfl)
theorem s_iteN {b : Bool} {A B : Prop} (h : if b = true then B else A) : if (!b) = true then A else B := by
  cases b with
  | true => exact iteF (by simpa using h)
  | false => exact iteT (by simpa using h)
theorem s_iteD {p : Prop} [Decidable p] {A B : Prop} (h1 : p → A) (h2 : ¬ p → B) : if decide p = true then A else B := s_ite (fun h => h1 (of_decide_eq_true h)) fun h => h2 (of_decide_eq_false h)
theorem s_iteDp {p : Prop} [Decidable p] {A B : Prop} (hp : p) (h1 : A) : if decide p = true then A else B := s_iteD (fun _ => h1) fun q => absurd hp q
theorem s_iteDn {p : Prop} [Decidable p] {A B : Prop} (hp : ¬ p) (h1 : B) : if decide p = true then A else B := s_iteD (fun q => absurd q hp) fun _ => h1
theorem s_iteI {i j : Int} {A B : Prop} (h1 : i = j → A) (h2 : i ≠ j → B) : if decide (V.int i = V.int j) = true then A else B := s_iteD (fun h => h1 (V.int.inj h)) fun h => h2 fun e => h (congrArg V.int e)
theorem s_iteIp {i j : Int} {A B : Prop} (hp : i = j) (h1 : A) : if decide (V.int i = V.int j) = true then A else B := s_iteI (fun _ => h1) fun q => absurd hp q
theorem s_iteIn {i j : Int} {A B : Prop} (hp : i ≠ j) (h1 : B) : if decide (V.int i = V.int j) = true then A else B := s_iteI (fun q => absurd q hp) fun _ => h1
-- ints
theorem s_I0 {f : Int → Int → V} {i j : Int} (q : Q (f i j) H) : rI0 f (.int i) (.int j) H Q := ⟨i, j, rfl, rfl, q⟩
theorem s_I {C : Int → Int → Prop} {f : Int → Int → V} {i j : Int} (hc : C i j) (q : Q (f i j) H) : rI C f (.int i) (.int j) H Q := ⟨i, j, rfl, rfl, hc, q⟩
theorem s_U {f : Int → V} {i : Int} (q : Q (f i) H) : rU f (.int i) H Q := ⟨i, rfl, q⟩
theorem s_add {i j : Int} (q : Q (.int (i + j)) H) : rAddU K (.int i) (.int j) H Q := .inl ⟨i, j, rfl, rfl, q⟩
theorem s_addS {i j : Str} (h : i.length + j.length ≤ sizeLine) (q : Q (.str (i ++ j)) H) : rAddU K (.str i) (.str j) H Q := .inr (.inl ⟨i, j, rfl, rfl, h, q⟩)
theorem s_mul {i j : Int} (hc : CMulW i j) (q : Q (.int (i * j)) H) : rMulU (.int i) (.int j) H Q := .inl ⟨i, j, rfl, rfl, hc, q⟩
theorem s_eq (h : scal x y = true) (q : Q (.bl (decide (x = y))) H) : rEqU K x y H Q := .inl ⟨h, q⟩
theorem s_ne (h : scal x y = true) (q : Q (.bl (!decide (x = y))) H) : rNeU K x y H Q := .inl ⟨h, q⟩
theorem s_abs {i : Int} (q : Q (.int (if i < 0 then -i else i)) H) : rAbs [.int i] H Q := ⟨i, rfl, q⟩
theorem s_intB {b : Bool} (q : Q (.int (if b then 1 else 0)) H) : rInt1 [.bl b] H Q := .inr ⟨b, rfl, q⟩
theorem s_intI {i : Int} (q : Q (.int i) H) : rInt1 [.int i] H Q := .inl ⟨i, rfl, q⟩
theorem s_min2 {i j : Int} (q : Q (.int (if j < i then j else i)) H) : rMinU K [.int i, .int j] H Q := .inl ⟨i, j, rfl, q⟩
theorem s_max2 {i j : Int} (q : Q (.int (if j > i then j else i)) H) : rMaxU K [.int i, .int j] H Q := .inl ⟨i, j, rfl, q⟩
-- reading what stays
theorem atI_isa {i : Int} (a : IsA I vs ds) (h : atI ds i = some d) : ∃ v, atI vs i = some v ∧ Is I v d := by
  unfold atI at h ⊢
  rw [a.length]
  cases e : ixN ds.length i with
  | none => rw [e] at h; cases h
  | some j => rw [e] at h; exact a.get h
theorem s_ixT {i : Int} (w : W I H M) (h : Is I v (.tup ds)) (hd : atI ds i = some d) (q : ∀ u, Is I u d → Q u H) : rIx K v (.int i) H Q := by
  obtain ⟨p, vs, rfl, hp, a⟩ := h.tup_ex
  obtain ⟨u, e, hu⟩ := atI_isa a hd
  exact .inr (.inl ⟨p, vs, i, u, rfl, rfl, .inl (.inl (w.imm _ _ hp)), e, q u hu⟩)
theorem s_ixL {i : Int} (w : W I H M) (h : Is I v (.lst ds)) (hd : atI ds i = some d) (q : ∀ u, Is I u d → Q u H) : rIx K v (.int i) H Q := by
  obtain ⟨p, vs, rfl, hp, a⟩ := h.lst_ex
  obtain ⟨u, e, hu⟩ := atI_isa a hd
  exact .inl ⟨p, vs, i, u, rfl, rfl, .inl (.inl (w.imm _ _ hp)), e, q u hu⟩
/-- .. of a list that may be changed -/
theorem s_ixM {p : Addr} {i : Int} (h : H p = some (.lst vs)) (hd : atI vs i = some v) (q : Q v H) : rIx K (.ref p) (.int i) H Q := .inl ⟨p, vs, i, v, rfl, rfl, .inl (.inl h), hd, q⟩
theorem s_lenL (w : W I H M) (h : Is I v (.lst ds)) (q : Q (.int ds.length) H) : rLenU K [v] H Q := by
  obtain ⟨p, vs, rfl, hp, a⟩ := h.lst_ex
  exact .inl ⟨p, vs, rfl, .inl (.inl (.inl (w.imm _ _ hp))), by rw [a.length]; exact q⟩
theorem s_lenT (w : W I H M) (h : Is I v (.tup ds)) (q : Q (.int ds.length) H) : rLenU K [v] H Q := by
  obtain ⟨p, vs, rfl, hp, a⟩ := h.tup_ex
  exact .inl ⟨p, vs, rfl, .inr (.inl (.inl (w.imm _ _ hp))), by rw [a.length]; exact q⟩
theorem s_lenM {p : Addr} (h : H p = some (.lst vs)) (q : Q (.int vs.length) H) : rLenU K [.ref p] H Q := .inl ⟨p, vs, rfl, .inl (.inl (.inl h)), q⟩
-- new things
def NewT (Q : VK) (xs : List V) (H : Hp) : Prop := xs.length ≤ sizeLine ∧ ∀ p, H p = none → Q (.ref p) (upd H p (.tup xs))
def NewL (Q : VK) (xs : List V) (H : Hp) : Prop := xs.length ≤ sizeLine ∧ ∀ p, H p = none → Q (.ref p) (upd H p (.lst xs))
theorem s_tup (h : tA σ H fun xs H1 => NewT Q xs H1) : tTup tA σ H Q := h
theorem s_lst (h : tA σ H fun xs H1 => NewL Q xs H1) : tLst tA σ H Q := h
theorem s_newT (w : W I H M) (a : IsA I xs ds) (hz : xs.length ≤ 1000) (q : ∀ p J H', Same I J → I p = none → W J H' M → Is J (.ref p) (.tup ds) → Q (.ref p) H') : NewT Q xs H :=
  ⟨Nat.le_trans hz (by decide), fun p hp => q p _ _ (w.same hp) (w.fresh hp) (w.newI hp) (.tup upd_same (a.mono (w.same hp)))⟩
theorem s_newL (w : W I H M) (a : IsA I xs ds) (hz : xs.length ≤ 1000) (q : ∀ p J H', Same I J → I p = none → W J H' M → Is J (.ref p) (.lst ds) → Q (.ref p) H') : NewL Q xs H :=
  ⟨Nat.le_trans hz (by decide), fun p hp => q p _ _ (w.same hp) (w.fresh hp) (w.newI hp) (.lst upd_same (a.mono (w.same hp)))⟩
theorem s_newM (w : W I H M) (hz : xs.length ≤ 1000) (q : ∀ p H', W I H' ((p, .lst xs) :: M) → Q (.ref p) H') : NewL Q xs H :=
  ⟨Nat.le_trans hz (by decide), fun p hp => q p _ (w.newM hp)⟩
/-- .. behind the head (the bag) -/
theorem s_newM2 {m : Addr × HO} (w : W I H (m :: M)) (hz : xs.length ≤ 1000) (q : ∀ p H', W I H' (m :: (p, .lst xs) :: M) → Q (.ref p) H') : NewL Q xs H :=
  ⟨Nat.le_trans hz (by decide), fun p hp => q p _ (w.newM2 hp)⟩
-- unpacking
theorem s_gtup {n : Nat} {gs : TGs} {T : L2.St → Hp → Prop} (w : W I H M) (h : Is I v (.tup ds)) (hn : ds.length = n) (q : ∀ xs, IsA I xs ds → gs xs σ H T) : gTup K n gs v σ H T := by
  obtain ⟨p, vs, rfl, hp, a⟩ := h.tup_ex
  exact ⟨p, vs, rfl, .inl (.inl (w.imm _ _ hp)), by rw [a.length]; exact hn, q vs a⟩
theorem s_gtup2 {gs : TGs} {T : L2.St → Hp → Prop} {d0 d1 : D} (w : W I H M) (h : Is I v (.tup [d0, d1])) (q : ∀ x y, Is I x d0 → Is I y d1 → gs [x, y] σ H T) : gTup K 2 gs v σ H T :=
  s_gtup w h rfl fun _ a => by
    cases a with | cons h0 a =>
    cases a with | cons h1 a =>
    cases a
    exact q _ _ h0 h1
theorem s_gtup3 {gs : TGs} {T : L2.St → Hp → Prop} {d0 d1 d2 : D} (w : W I H M) (h : Is I v (.tup [d0, d1, d2])) (q : ∀ x y z, Is I x d0 → Is I y d1 → Is I z d2 → gs [x, y, z] σ H T) : gTup K 3 gs v σ H T :=
  s_gtup w h rfl fun _ a => by
    cases a with | cons h0 a =>
    cases a with | cons h1 a =>
    cases a with | cons h2 a =>
    cases a
    exact q _ _ _ h0 h1 h2
theorem s_gtup4 {gs : TGs} {T : L2.St → Hp → Prop} {d0 d1 d2 d3 : D} (w : W I H M) (h : Is I v (.tup [d0, d1, d2, d3])) (q : ∀ x y z u, Is I x d0 → Is I y d1 → Is I z d2 → Is I u d3 → gs [x, y, z, u] σ H T) : gTup K 4 gs v σ H T :=
  s_gtup w h rfl fun _ a => by
    cases a with | cons h0 a =>
    cases a with | cons h1 a =>
    cases a with | cons h2 a =>
    cases a with | cons h3 a =>
    cases a
    exact q _ _ _ _ h0 h1 h2 h3
theorem s_gtup5 {gs : TGs} {T : L2.St → Hp → Prop} {d0 d1 d2 d3 d4 : D} (w : W I H M) (h : Is I v (.tup [d0, d1, d2, d3, d4])) (q : ∀ x y z u t, Is I x d0 → Is I y d1 → Is I z d2 → Is I u d3 → Is I t d4 → gs [x, y, z, u, t] σ H T) : gTup K 5 gs v σ H T :=
  s_gtup w h rfl fun _ a => by
    cases a with | cons h0 a =>
    cases a with | cons h1 a =>
    cases a with | cons h2 a =>
    cases a with | cons h3 a =>
    cases a with | cons h4 a =>
    cases a
    exact q _ _ _ _ _ h0 h1 h2 h3 h4
theorem s_gnil {T : L2.St → Hp → Prop} (q : T σ H) : gNil [] σ H T := ⟨rfl, q⟩
theorem s_gcons {gs : TGs} {T : L2.St → Hp → Prop} (h : g x σ H fun σ' H' => gs xs σ' H' T) : gCons g gs (x :: xs) σ H T := ⟨x, xs, rfl, h⟩
-- fields
theorem s_fld {f : Str} (h : ta σ H fun x H1 => ∃ a C dx fs v, x = .ref a ∧ H1 a = some (.ins C dx fs) ∧ Cls K C ∧ NoAttr K C f ∧ fs.lookup f = some v ∧ Q v H1) : tFld K ta f σ H Q := h
theorem s_fldAt {C : Addr} {f : Str} {fs : List (Str × D)} (w : W I H M) (h : Is I v (.obj C fs)) (hc : Cls K C) (hn : NoAttr K C f) (hd : fs.lookup f = some d) (q : ∀ u, Is I u d → Q u H) :
    ∃ a C dx fs u, v = .ref a ∧ H a = some (.ins C dx fs) ∧ Cls K C ∧ NoAttr K C f ∧ fs.lookup f = some u ∧ Q u H := by
  obtain ⟨p, dx, vs, rfl, hp, a⟩ := h.obj_ex
  obtain ⟨u, e, hu⟩ := a.get hd
  exact ⟨p, C, dx, vs, u, rfl, w.imm _ _ hp, hc, hn, e, q u hu⟩
-- isinstance
def D.tn : D → Option String
  | .non => some "NoneType" | .bl _ => some "bool" | .int _ => some "int" | .str _ => some "str" | .tup _ => some "tuple" | .lst _ => some "list" | .dict => some "dict" | _ => none
theorem Is.tyx {a : String} (w : W I H M) (h : Is I v d) (e : d.tn = some a) : TyX K H v (.type a) := by
  cases h with
  | non => cases e; exact .base .non
  | bl b => cases e; exact .base (.bl b)
  | int n => cases e; exact .base (.int n)
  | str n => cases e; exact .base (.str n)
  | tup hp _ => cases e; exact .base (.tup (w.imm _ _ hp))
  | lst hp _ => cases e; exact .base (.lst (w.imm _ _ hp))
  | ref a => cases e
  | ty n => cases e
  | obj _ _ => cases e
  | dct hp => cases e; exact .base (.dK (w.imm _ _ hp))
  | fact _ _ => cases e
theorem s_isi {a b : String} {k : Bool} (w : W I H M) (h : Is I v d) (e : d.tn = some a) (hb : kitB a b = some k) (q : Q (.bl k) H) : rIsiU K [v, .ty b] H Q :=
  .inl ⟨v, .ty b, .type a, .type b, k, rfl, .ty b, h.tyx w e, kit_ty hb, q⟩
theorem kit_ii : kitB "int" "int" = some true := by decide +kernel
theorem kit_ib : kitB "int" "bool" = some false := by decide +kernel
theorem kit_bi : kitB "bool" "int" = some true := by decide +kernel
theorem kit_bb : kitB "bool" "bool" = some true := by decide +kernel
theorem kit_tt : kitB "tuple" "tuple" = some true := by decide +kernel
theorem kit_ll : kitB "list" "list" = some true := by decide +kernel
end
end Fs

namespace Fs
open PySem PySem.Spec PyProof.Rows L2

/-! ### the built-ins' names -/
structure Bn (mg : Str → Option Value) : Prop where
  len_ : mg "len" = none
  abs_ : mg "abs" = none
  isinstance_ : mg "isinstance" = none
  min_ : mg "min" = none
  max_ : mg "max" = none
  sum_ : mg "sum" = none
  sorted_ : mg "sorted" = none
  range_ : mg "range" = none
  zip_ : mg "zip" = none
  enumerate_ : mg "enumerate" = none
  reversed_ : mg "reversed" = none
  int_ : mg "int" = none
  bool_ : mg "bool" = none
  tuple_ : mg "tuple" = none
  list_ : mg "list" = none
  str_ : mg "str" = none
  dict_ : mg "dict" = none
  ValueError_ : mg "ValueError" = none
  set_ : mg "set" = none
  any_ : mg "any" = none
  all_ : mg "all" = none
section
variable {X : Cx} {pos : Pos}
theorem pe_globI {x : Str} {n : Int} (hg : Gl X x) (hm : ∃ t, X.mg x = some (.int n t)) (hd : (x == ("__debug__" : Str)) = false := by decide) : PE X (.Name x pos) (tC (.int n)) := by
  obtain ⟨t, e⟩ := hm
  exact pe_glob hg e ⟨t, rfl⟩ hd
theorem get_list : PGet X (rIxL X.K) := by
  intro pins s σ H x y v u Q I rx ry h
  obtain ⟨p, xs, i, z, rfl, rfl, hq, he, q⟩ := h
  cases rx
  obtain ⟨t, rfl⟩ := ry
  obtain ⟨its, r, pl, hz⟩ := I.list hq
  obtain ⟨j, h1, h2, h3, h4, h5⟩ := atI_get he
  obtain ⟨w, ew, rw'⟩ := r.get h2
  have hl := r.length
  have hn := line63
  have fin : EP X pins σ Q w s := ⟨z, H, I, rw', q⟩
  by_cases h0 : 0 ≤ i
  · have hj : i.toNat = j := by
      rw [seqIndex_of h0 h5] at h1
      exact Option.some.inj h1
    exact wpAny_getItem_list pl.isList h0 (by omega) (by rw [hj]; simpa using ew) fin
  · have hj : (i + (its.toArray.size : Int)).toNat = j := by
      rw [seqIndex_neg (by omega) h4] at h1
      rw [List.size_toArray, ← hl]
      exact Option.some.inj h1
    exact wpAny_getItem_list_neg pl.isList (by omega) (by rw [List.size_toArray] <;> omega) (by omega) (by rw [hj]; simpa using ew) fin
theorem ps_augL {o i e : Expr} {to ti te : TE} {tpos : Pos} (ho : PE X o to) (hi : PE X i ti) (he : PE X e te)
    (ha : ∀ ov iv new, augStore i ov iv new = (do holding [new, ov, iv] (setItem ov iv new); release [new, ov, iv] []; pure .next) := by intros; rfl) : PS X (.AugAssign (.Subscript o i tpos) .Add e pos) (tAugS to ti te (rIxL X.K) (ipI fun i j => i + j) rSetL) :=
  ps_augS ho hi get_list he ip_add set_list ha
end

/-! ### loops -/
section
variable {K : PySem.W.Frag} {σ : L2.St} {I H : Hp} {M : List (Addr × HO)} {G : Ends} {c : TT} {tb : TS} {g : TG}
theorem s_while (Pv : L2.St → Hp → Prop) (μ : L2.St → Nat) (h0 : Pv σ H)
    (hs : ∀ σ H, Pv σ H → c σ H fun b H1 => if b = true then ∃ N : L2.St → Hp → Prop, (∀ σ' H', N σ' H' → ∃ m', m' < μ σ ∧ m' = μ σ' ∧ Pv σ' H') ∧ tb { G with nx := N, ct := N, bk := G.nx } σ H1 else G.nx σ H1) : tWhile c tb G σ H := by
  refine ⟨fun m σ H => m = μ σ ∧ Pv σ H, ⟨_, rfl, h0⟩, ?_⟩
  rintro m σ H ⟨rfl, p⟩
  exact hs σ H p
theorem s_wN {Pv : L2.St → Hp → Prop} {μ : L2.St → Nat} {m : Nat} {σ1 : L2.St} (h : tb { G with nx := fun σ' H' => Pv σ' H' ∧ μ σ' < m, ct := fun σ' H' => Pv σ' H' ∧ μ σ' < m, bk := G.nx } σ1 H) :
    ∃ N : L2.St → Hp → Prop, (∀ σ' H', N σ' H' → ∃ m', m' < m ∧ m' = μ σ' ∧ Pv σ' H') ∧ tb { G with nx := N, ct := N, bk := G.nx } σ1 H :=
  ⟨_, fun _ _ h => ⟨_, h.2, rfl, h.1⟩, h⟩
theorem s_for {wi : TI} (h : wi σ H fun J H1 => ∃ W : Nat → Nat → L2.St → Hp → Prop, (∃ m, W 0 m σ H1) ∧ ∀ i m σ H, W i m σ H →
  (J.stop i H ∧ G.nx σ H) ∨ (J.go i H ∧ ∃ N : L2.St → Hp → Prop, (∀ σ' H', N σ' H' → ∃ m', m' < m ∧ W (i + 1) m' σ' H') ∧ ∀ x H', J.yld i H x H' → g x σ H' fun σ2 H2 => tb { G with nx := N, ct := N, bk := G.nx } σ2 H2)) : tFor wi g tb G σ H := h
theorem s_rng1 {ta : TA} {R : It → Hp → Prop} (h : ta σ H fun vs H1 => ∃ j : Int, vs = [.int j] ∧ -(2 ^ 62) ≤ j ∧ j < 2 ^ 62 ∧ R (Itr 0 j.toNat) H1) : iRng1 ta σ H R := h
theorem s_rng1' {P : Int → Prop} {j : Int} (h1 : -(2 ^ 62) ≤ j) (h2 : j < 2 ^ 62) (h : P j) : ∃ i : Int, [V.int j] = [.int i] ∧ -(2 ^ 62) ≤ i ∧ i < 2 ^ 62 ∧ P i := ⟨j, rfl, h1, h2, h⟩
theorem s_iL {tl : TE} {R : It → Hp → Prop} (h : tl σ H fun x H1 => ∃ a, x = .ref a ∧ (∃ xs, SqL K H1 a xs) ∧ R (Itl K a) H1) : iList K tl σ H R := h
theorem s_iT {tl : TE} {R : It → Hp → Prop} (h : tl σ H fun x H1 => ∃ a, x = .ref a ∧ (∃ xs, SqT K H1 a xs) ∧ R (Itt K a) H1) : iTup K tl σ H R := h
/-- a for over a list that stays: the word Pv over the turn, the slots, the heap; it says W of an extension of I -/
theorem s_forL {ds : List D} {v : V} (w : W I H M) (h : Is I v (.lst ds)) (Pv : Nat → L2.St → Hp → Prop) (h0 : Pv 0 σ H) (hI : ∀ i σ H, Pv i σ H → Same I H)
    (hs : ∀ i d x σ H, ds[i]? = some d → Is I x d → Pv i σ H → g x σ H fun σ2 H2 => tb { G with nx := Pv (i + 1), ct := Pv (i + 1), bk := G.nx } σ2 H2) (hd : ∀ σ H, Pv ds.length σ H → G.nx σ H) :
    ∃ a, v = .ref a ∧ (∃ xs, SqL K H a xs) ∧ ∃ W : Nat → Nat → L2.St → Hp → Prop, (∃ m, W 0 m σ H) ∧ ∀ i m σ H, W i m σ H →
      ((Itl K a).stop i H ∧ G.nx σ H) ∨ ((Itl K a).go i H ∧ ∃ N : L2.St → Hp → Prop, (∀ σ' H', N σ' H' → ∃ m', m' < m ∧ W (i + 1) m' σ' H') ∧ ∀ x H', (Itl K a).yld i H x H' → g x σ H' fun σ2 H2 => tb { G with nx := N, ct := N, bk := G.nx } σ2 H2) := by
  obtain ⟨p, vs, rfl, hp, a⟩ := h.lst_ex
  refine ⟨p, rfl, ⟨vs, .inl (.inl (w.imm _ _ hp))⟩, ?_⟩
  refine for_it (walk_list (K := K) (xs := vs)) Pv h0 (fun i σ H _ q => .inl (.inl (hI i σ H q _ _ hp))) (fun i x σ H H' hi q y => ?_) (fun σ H q => hd σ H (by rw [← a.length]; exact q))
  obtain ⟨rfl, e⟩ := y
  obtain ⟨d, e1, e2⟩ := a.of e
  exact hs i d x σ _ e1 e2 q
theorem s_forT {ds : List D} {v : V} (w : W I H M) (h : Is I v (.tup ds)) (Pv : Nat → L2.St → Hp → Prop) (h0 : Pv 0 σ H) (hI : ∀ i σ H, Pv i σ H → Same I H)
    (hs : ∀ i d x σ H, ds[i]? = some d → Is I x d → Pv i σ H → g x σ H fun σ2 H2 => tb { G with nx := Pv (i + 1), ct := Pv (i + 1), bk := G.nx } σ2 H2) (hd : ∀ σ H, Pv ds.length σ H → G.nx σ H) :
    ∃ a, v = .ref a ∧ (∃ xs, SqT K H a xs) ∧ ∃ W : Nat → Nat → L2.St → Hp → Prop, (∃ m, W 0 m σ H) ∧ ∀ i m σ H, W i m σ H →
      ((Itt K a).stop i H ∧ G.nx σ H) ∨ ((Itt K a).go i H ∧ ∃ N : L2.St → Hp → Prop, (∀ σ' H', N σ' H' → ∃ m', m' < m ∧ W (i + 1) m' σ' H') ∧ ∀ x H', (Itt K a).yld i H x H' → g x σ H' fun σ2 H2 => tb { G with nx := N, ct := N, bk := G.nx } σ2 H2) := by
  obtain ⟨p, vs, rfl, hp, a⟩ := h.tup_ex
  refine ⟨p, rfl, ⟨vs, .inl (.inl (w.imm _ _ hp))⟩, ?_⟩
  refine for_it (walk_tup (K := K) (xs := vs)) Pv h0 (fun i σ H _ q => .inl (.inl (hI i σ H q _ _ hp))) (fun i x σ H H' hi q y => ?_) (fun σ H q => hd σ H (by rw [← a.length]; exact q))
  obtain ⟨rfl, e⟩ := y
  obtain ⟨d, e1, e2⟩ := a.of e
  exact hs i d x σ _ e1 e2 q
theorem s_forR {lo : Int} {n : Nat} (Pv : Nat → L2.St → Hp → Prop) (h0 : Pv 0 σ H)
    (hs : ∀ i σ H, i < n → Pv i σ H → g (.int (lo + i)) σ H fun σ2 H2 => tb { G with nx := Pv (i + 1), ct := Pv (i + 1), bk := G.nx } σ2 H2) (hd : ∀ σ H, Pv n σ H → G.nx σ H) :
    ∃ W : Nat → Nat → L2.St → Hp → Prop, (∃ m, W 0 m σ H) ∧ ∀ i m σ H, W i m σ H →
      ((Itr lo n).stop i H ∧ G.nx σ H) ∨ ((Itr lo n).go i H ∧ ∃ N : L2.St → Hp → Prop, (∀ σ' H', N σ' H' → ∃ m', m' < m ∧ W (i + 1) m' σ' H') ∧ ∀ x H', (Itr lo n).yld i H x H' → g x σ H' fun σ2 H2 => tb { G with nx := N, ct := N, bk := G.nx } σ2 H2) := for_range Pv h0 hs hd
end

/-! ### changing a list -/
section
variable {K : PySem.W.Frag} {σ : L2.St} {I H : Hp} {M : List (Addr × HO)} {Q : VK} {x v : V} {xs vs : List V} {p : Addr} {ta te ti : TE} {tA : TA}
theorem s_bm {T : String} {r : V → List V → Hp → VK → Prop} (h : ta σ H fun x H1 => tyV K T x H1 ∧ tA σ H1 fun xs H2 => r x xs H2 Q) : tBM K T r ta tA σ H Q := h
theorem s_bm0 {T : String} {r : V → List V → Hp → VK → Prop} (h : ta σ H fun x H1 => tyV K T x H1 ∧ r x [] H1 Q) : tBM0 K T r ta σ H Q := h
theorem s_tyL {A : Prop} (h : H p = some (.lst xs)) (a : A) : tyV K "list" (.ref p) H ∧ A := ⟨.inl ⟨rfl, _, .inl (.inl h)⟩, a⟩
theorem s_app (h : H p = some (.lst xs)) (hz : xs.length ≤ 100000) (q : Q .non (upd H p (.lst (xs ++ [x])))) : rAppend (.ref p) [x] H Q := ⟨p, xs, x, rfl, rfl, h, Nat.lt_of_le_of_lt hz (by decide), q⟩
theorem s_clear (h : H p = some (.lst xs)) (q : Q .non (upd H p (.lst []))) : rClear (.ref p) [] H Q := ⟨p, xs, rfl, rfl, h, q⟩
theorem s_gsub {T : L2.St → Hp → Prop} {t : TSet} (h : ta σ H fun o H1 => ti σ H1 fun i H2 => t o i v H2 fun H3 => T σ H3) : gSub ta ti t v σ H T := h
theorem s_setL {T : Hp → Prop} {k : Int} {j : Nat} (h : H p = some (.lst xs)) (hj : ixN xs.length k = some j) (q : T (upd H p (.lst (xs.set j v)))) : rSetL (.ref p) (.int k) v H T := ⟨p, xs, k, j, rfl, rfl, h, hj, q⟩
theorem s_augS {G : Ends} {tget : V → V → Hp → VK → Prop} {tip : TIp} {tset : TSet} (h : ta σ H fun o H1 => ti σ H1 fun i H2 => tget o i H2 fun x H3 => te σ H3 fun y H4 => tip x y H4 fun z H5 => tset o i z H5 fun H6 => G.nx σ H6) : tAugS ta ti te tget tip tset G σ H := h
theorem s_ixLM {k : Int} (h : H p = some (.lst xs)) (hd : atI xs k = some v) (q : Q v H) : rIxL K (.ref p) (.int k) H Q := ⟨p, xs, k, v, rfl, rfl, .inl (.inl h), hd, q⟩
theorem s_ipI {f : Int → Int → Int} {i j : Int} (q : Q (.int (f i j)) H) : ipI f (.int i) (.int j) H Q := ⟨i, j, rfl, rfl, q⟩
def RevQ (K : PySem.W.Frag) (Q : VK) (v : V) (H : Hp) : Prop := ∃ a xs, v = .ref a ∧ SqL K H a xs ∧ ∀ p, H p = none → Q (.ref p) (upd H p (.lst xs.reverse))
theorem s_rev (h : te σ H fun x H1 => RevQ K Q x H1) : tRevL K te σ H Q := h
theorem s_rev' {ds : List D} (w : W I H M) (h : Is I v (.lst ds)) (q : ∀ p J H', Same I J → I p = none → W J H' M → Is J (.ref p) (.lst ds.reverse) → Q (.ref p) H') : RevQ K Q v H := by
  obtain ⟨p, vs, rfl, hp, a⟩ := h.lst_ex
  exact ⟨p, vs, rfl, .inl (.inl (w.imm _ _ hp)), fun l hl => q l _ _ (w.same hl) (w.fresh hl) (w.newI hl) (.lst upd_same (a.rev.mono (w.same hl)))⟩
end

section
variable {K : PySem.W.Frag} {σ : L2.St} {I H : Hp} {M : List (Addr × HO)} {Q : VK} {x v : V} {xs vs : List V} {p : Addr} {ta te ti : TE} {tA : TA} {m0 m1 : Addr × HO} {d0 d1 : D} {ds : List D}
theorem s_setW0 {T : Hp → Prop} {k : Int} {j : Nat} (w : W I H ((p, .lst xs) :: M)) (hj : ixN xs.length k = some j) (q : ∀ H', W I H' ((p, .lst (xs.set j v)) :: M) → T H') : rSetL (.ref p) (.int k) v H T := s_setL w.at0 hj (q _ w.put0)
theorem s_setW1 {T : Hp → Prop} {k : Int} {j : Nat} (w : W I H (m0 :: (p, .lst xs) :: M)) (hj : ixN xs.length k = some j) (q : ∀ H', W I H' (m0 :: (p, .lst (xs.set j v)) :: M) → T H') : rSetL (.ref p) (.int k) v H T := s_setL w.at1 hj (q _ w.put1)
theorem s_appW0 (w : W I H ((p, .lst xs) :: M)) (hz : xs.length ≤ 100000) (q : ∀ H', W I H' ((p, .lst (xs ++ [x])) :: M) → Q .non H') : rAppend (.ref p) [x] H Q := s_app w.at0 hz (q _ w.put0)
theorem s_appW1 (w : W I H (m0 :: (p, .lst xs) :: M)) (hz : xs.length ≤ 100000) (q : ∀ H', W I H' (m0 :: (p, .lst (xs ++ [x])) :: M) → Q .non H') : rAppend (.ref p) [x] H Q := s_app w.at1 hz (q _ w.put1)
theorem s_appW2 (w : W I H (m0 :: m1 :: (p, .lst xs) :: M)) (hz : xs.length ≤ 100000) (q : ∀ H', W I H' (m0 :: m1 :: (p, .lst (xs ++ [x])) :: M) → Q .non H') : rAppend (.ref p) [x] H Q := s_app w.at2 hz (q _ w.put2)
theorem W.frz0 {o : HO} (w : W I H ((p, o) :: M)) : W (upd I p o) H M := W.frz (M1 := []) w
theorem W.frz1 {o : HO} (w : W I H (m0 :: (p, o) :: M)) : W (upd I p o) H (m0 :: M) := W.frz (M1 := [m0]) w
theorem W.frz2 {o : HO} (w : W I H (m0 :: m1 :: (p, o) :: M)) : W (upd I p o) H (m0 :: m1 :: M) := W.frz (M1 := [m0, m1]) w
theorem W.frzS0 {o : HO} (w : W I H ((p, o) :: M)) : Same I (upd I p o) := W.frzS (M1 := []) w
theorem W.frzS1 {o : HO} (w : W I H (m0 :: (p, o) :: M)) : Same I (upd I p o) := W.frzS (M1 := [m0]) w
theorem W.frzS2 {o : HO} (w : W I H (m0 :: m1 :: (p, o) :: M)) : Same I (upd I p o) := W.frzS (M1 := [m0, m1]) w
/-- a list that grew stays from now on -/
theorem W.done0 (w : W I H ((p, .lst vs) :: M)) (a : IsA I vs ds) : ∃ J, Same I J ∧ W J H M ∧ Is J (.ref p) (.lst ds) := ⟨_, w.frzS0, w.frz0, .lst upd_same (a.mono w.frzS0)⟩
theorem W.done1 (w : W I H (m0 :: (p, .lst vs) :: M)) (a : IsA I vs ds) : ∃ J, Same I J ∧ W J H (m0 :: M) ∧ Is J (.ref p) (.lst ds) := ⟨_, w.frzS1, w.frz1, .lst upd_same (a.mono w.frzS1)⟩
theorem W.done2 (w : W I H (m0 :: m1 :: (p, .lst vs) :: M)) (a : IsA I vs ds) : ∃ J, Same I J ∧ W J H (m0 :: m1 :: M) ∧ Is J (.ref p) (.lst ds) := ⟨_, w.frzS2, w.frz2, .lst upd_same (a.mono w.frzS2)⟩
-- an item by an open place
theorem at_nat {α : Type} {l : List α} {i : Int} (h0 : 0 ≤ i) (h1 : i < l.length) : ∃ d, d ∈ l ∧ atI l i = some d := by
  have h2 : i.toNat < l.length := by omega
  have e : (i.toNat : Int) = i := by omega
  refine ⟨l[i.toNat], List.getElem_mem h2, ?_⟩
  have q := atI_nat (List.getElem?_eq_getElem h2)
  rw [e] at q
  exact q
theorem at_ints {ns : List Int} {z : Int} (h0 : 0 ≤ z) (h1 : z < ns.length) : ∃ n, n ∈ ns ∧ atI (ns.map D.int) z = some (.int n) := by
  obtain ⟨d, hd, e⟩ := at_nat (l := ns.map D.int) h0 (by simpa using h1)
  obtain ⟨n, hn, rfl⟩ := List.mem_map.mp hd
  exact ⟨n, hn, e⟩
theorem s_ixAny {i : Int} (w : W I H M) (h : Is I v (.lst ds)) (h0 : 0 ≤ i) (h1 : i < ds.length) (q : ∀ d u, d ∈ ds → Is I u d → Q u H) : rIx K v (.int i) H Q := by
  obtain ⟨d, hd, e⟩ := at_nat h0 h1
  exact s_ixL w h e fun u hu => q d u hd hu
theorem s_ixB {b : Bool} {m n : Int} (w : W I H M) (h : Is I v (.lst [.int m, .int n])) (q : ∀ k, k = m ∨ k = n → Q (.int k) H) : rIx K v (.int (if b then 1 else 0)) H Q := by
  cases b with
  | true => exact s_ixL w h (d := .int n) rfl fun u hu => by rw [hu.int_eq]; exact q n (.inr rfl)
  | false => exact s_ixL w h (d := .int m) rfl fun u hu => by rw [hu.int_eq]; exact q m (.inl rfl)
-- slices
theorem s_sl {r : V → Option Int → Option Int → Hp → VK → Prop} {tl th : TO} (h : te σ H fun x H1 => tl σ H1 fun lo H2 => th σ H2 fun hi H3 => r x lo hi H3 Q) : tSl r te tl th σ H Q := h
theorem s_noP {R : Option Int → Hp → Prop} (h : R none H) : tNoPart σ H R := h
theorem s_part {R : Option Int → Hp → Prop} (h : te σ H fun x H1 => ∃ i, x = .int i ∧ R (some i) H1) : tPart te σ H R := h
theorem s_part' {P : Int → Prop} {i : Int} (h : P i) : ∃ j, V.int i = .int j ∧ P j := ⟨i, rfl, h⟩
theorem s_slK {a : Addr} {lo hi : Option Int} (h : SqL K H a xs) (q : ∀ p, H p = none → Q (.ref p) (upd H p (.lst (cutV xs lo hi)))) : rSlL K (.ref a) lo hi H Q := ⟨a, xs, rfl, h, q⟩
-- comprehensions
theorem s_lc0 {wi : TI} {g : TG} {tt : TT} {xs : List Nat} (h : wi σ H fun J H1 => ∀ D, H1 D = none → ∃ W : Nat → Nat → Hp → Prop, (∃ m, W 0 m (upd H1 D (.lst []))) ∧ ∀ i m H, W i m H →
  (J.stop i H ∧ Q (.ref D) H) ∨ (J.go i H ∧ ∃ Nx : Hp → Prop, (∀ H', Nx H' → ∃ m', m' < m ∧ W (i + 1) m' H') ∧ ∀ x H', J.yld i H x H' → g x (wipe σ xs) H' fun σ2 H2 => wipe σ2 xs = wipe σ xs ∧ tt σ2 H2 fun b H3 =>
    if b = true then te σ2 H3 fun y H4 => ∃ acc, H4 D = some (.lst acc) ∧ acc.length < sizeLine ∧ Nx (upd H4 D (.lst (acc ++ [y]))) else Nx H3)) : tLc wi g tt te xs σ H Q := h
theorem s_yes {R : Bool → Hp → Prop} (h : R true H) : tYes σ H R := h
theorem s_iL' {R : Addr → Prop} (w : W I H M) (h : Is I v (.lst ds)) (q : ∀ a vs, v = .ref a → I a = some (.lst vs) → IsA I vs ds → R a) : ∃ a, v = .ref a ∧ (∃ xs, SqL K H a xs) ∧ R a := by
  obtain ⟨p, vs, rfl, hp, a⟩ := h.lst_ex
  exact ⟨p, rfl, ⟨vs, .inl (.inl (w.imm _ _ hp))⟩, q p vs rfl hp a⟩
end
/-- a written power -/
theorem op_powC {X : Cx} (n : Int) : OpR X (binaryOp .Pow) (rI (fun i j => CPow i j ∧ i ^ j.toNat = n) fun _ _ => .int n) := by
  intro pins s σ H x y v u Q I rx ry h
  obtain ⟨i, j, rfl, rfl, ⟨hc, e⟩, q⟩ := h
  exact op_pow pins s σ H _ _ v u Q I rx ry ⟨i, j, rfl, rfl, hc, by show Q (V.int (i ^ j.toNat)) H; rw [e]; exact q⟩
theorem cut63 (ns : List Int) (lo hi : Option Int) : ∃ ms : List Int, cutV (ns.map V.int) lo hi = ms.map V.int := by
  unfold cutV
  refine ⟨(ns.drop (HT.sIx (ns.map V.int).length 0 lo)).take (HT.sIx (ns.map V.int).length (ns.map V.int).length hi - HT.sIx (ns.map V.int).length 0 lo), ?_⟩
  rw [List.map_take, List.map_drop]

/-! ### sizes of numbers -/
def Bd (k : Nat) (x : Int) : Prop := x.natAbs < 2 ^ k
theorem Bd.mono {j k : Nat} {x : Int} (h : Bd j x) (hk : j ≤ k) : Bd k x := Nat.lt_of_lt_of_le h (Nat.pow_le_pow_right (by decide) hk)
theorem Bd.mul {j k : Nat} {x y : Int} (hx : Bd j x) (hy : Bd k y) : Bd (j + k) (x * y) := wide_lt hx hy
theorem Bd.neg {k : Nat} {x : Int} (h : Bd k x) : Bd k (-x) := by unfold Bd at *; rw [Int.natAbs_neg]; exact h
theorem Bd.add {k : Nat} {x y : Int} (hx : Bd k x) (hy : Bd k y) : Bd (k + 1) (x + y) := by
  unfold Bd at *
  have : (2 : Nat) ^ (k + 1) = 2 ^ k + 2 ^ k := by rw [Nat.pow_succ]; omega
  omega
theorem Bd.sub {k : Nat} {x y : Int} (hx : Bd k x) (hy : Bd k y) : Bd (k + 1) (x - y) := by
  unfold Bd at *
  have : (2 : Nat) ^ (k + 1) = 2 ^ k + 2 ^ k := by rw [Nat.pow_succ]; omega
  omega
theorem Bd.le {k : Nat} {x y : Int} (h : Bd k y) (hx : x.natAbs ≤ y.natAbs) : Bd k x := Nat.lt_of_le_of_lt hx h
theorem Bd.of {k : Nat} {x : Int} (n : Nat) (h : x.natAbs ≤ n) (hn : n < 2 ^ k := by decide) : Bd k x := Nat.lt_of_le_of_lt h hn
theorem Bd.cm {j k : Nat} {x y : Int} (hx : Bd j x) (hy : Bd k y) (h : j + k ≤ 900000 := by omega) : CMulW x y :=
  wide_mul (hx.mono (Nat.le_succ j)) (hy.mono (Nat.le_succ k)) (Nat.succ_pos _) (Nat.succ_pos _) (by omega)
theorem Bd.cd {k : Nat} {x y : Int} (hy : Bd k y) (h0 : 0 < y) (h : k ≤ 8000 := by omega) : CDivW x y := wide_div h0 (hy.mono (Nat.le_succ k)) (Nat.succ_pos _) (by omega)
theorem cm64 {i j : Int} (h1 : -18446744073709551616 ≤ i) (h2 : i ≤ 18446744073709551616) (h3 : -18446744073709551616 ≤ j) (h4 : j ≤ 18446744073709551616) : CMulW i j :=
  Bd.cm (j := 65) (k := 65) (Bd.of 18446744073709551616 (by omega)) (Bd.of 18446744073709551616 (by omega))
theorem cd64 {i j : Int} (h1 : 0 < j) (h2 : j ≤ 18446744073709551616) : CDivW i j := Bd.cd (k := 65) (Bd.of 18446744073709551616 (by omega)) h1

theorem W.zero {H : Hp} : W (fun _ => none) H [] := ⟨fun _ _ h => (nomatch h), fun _ h => (nomatch h), List.nodup_nil⟩
/-! ### fractions as data -/
abbrev fr (a b : Int) : D := .tup [.int a, .int b]

/-! ### the bag of draws: c is where its cells stand -/
structure BagAt (o : HO) (c : Addr) (x y z : Int) : Prop where
  ob : o = .lst [.int x, .int y, .int z, .ref c]
  x0 : 0 ≤ x
  y0 : 0 ≤ y
  y1 : y < 2147483647
  z0 : 0 ≤ z
def Bag (I : Hp) (c : Addr) (o : HO) : Prop := (∃ ns : List Int, I c = some (.lst (ns.map V.int)) ∧ ∀ n ∈ ns, 0 ≤ n) ∧ ∃ x y z, BagAt o c x y z
theorem Bag.mono {I J : Hp} {c : Addr} {o : HO} (s : Same I J) (h : Bag I c o) : Bag J c o := by
  obtain ⟨⟨ns, h1, h2⟩, h3⟩ := h
  exact ⟨⟨ns, s _ _ h1, h2⟩, h3⟩
end Fs

namespace Fs
open PySem PySem.Spec PyProof.Rows L2

/-! ### what stayed may be changed from now on -/
def del (I : Hp) (p : Addr) : Hp := fun a => if a = p then none else I a
theorem del_ne {I : Hp} {p a : Addr} (h : a ≠ p) : del I p a = I a := if_neg h
theorem del_same {I : Hp} {p : Addr} : del I p p = none := if_pos rfl
theorem same_del {J I : Hp} {p : Addr} (s : Same J I) (h : J p = none) : Same J (del I p) := fun b o e => by
  rw [del_ne (ne_of_none e h)]
  exact s b o e
section
variable {I J H : Hp} {M : List (Addr × HO)} {p : Addr} {o : HO} {m : Addr × HO}
theorem W.unf (w : W I H M) (h : I p = some o) : W (del I p) H ((p, o) :: M) where
  imm := fun b x e => by
    by_cases hb : b = p
    · subst hb; rw [del_same] at e; cases e
    · rw [del_ne hb] at e; exact w.imm b x e
  mu := fun x hx => by
    rcases List.mem_cons.mp hx with e | hx
    · subst e; exact ⟨w.imm _ _ h, del_same⟩
    · have q := w.mu x hx
      refine ⟨q.1, ?_⟩
      by_cases hb : x.1 = p
      · rw [hb]; exact del_same
      · rw [del_ne hb]; exact q.2
  nd := List.nodup_cons.mpr (And.intro (fun q => (by
    obtain ⟨x, hx, e⟩ := List.mem_map.mp q
    have := (w.mu x hx).2
    rw [e, h] at this
    cases this)) w.nd)
theorem W.swap {m0 m1 : Addr × HO} (w : W I H (m0 :: m1 :: M)) : W I H (m1 :: m0 :: M) := by
  refine ⟨w.imm, fun x hx => w.mu x ?_, ?_⟩
  · rcases List.mem_cons.mp hx with e | hx
    · exact List.mem_cons.mpr (.inr (List.mem_cons.mpr (.inl e)))
    · rcases List.mem_cons.mp hx with e | hx
      · exact List.mem_cons.mpr (.inl e)
      · exact List.mem_cons.mpr (.inr (List.mem_cons.mpr (.inr hx)))
  · have n := w.nd
    simp only [List.map_cons, List.nodup_cons, List.mem_cons, not_or] at n ⊢
    exact ⟨⟨fun e => n.1.1 e.symm, n.2.1⟩, n.1.2, n.2.2⟩
/-- behind the head -/
theorem W.unf1 (w : W I H (m :: M)) (h : I p = some o) : W (del I p) H (m :: (p, o) :: M) := (w.unf h).swap
theorem W.less (w : W I H (m :: M)) : W I H M := ⟨w.imm, fun x hx => w.mu x (List.mem_cons_of_mem _ hx), (List.nodup_cons.mp w.nd).2⟩
/-- fewer facts -/
theorem W.sub (w : W I H M) (s : Same J I) : W J H M := ⟨s.trans w.imm, fun x hx => ⟨(w.mu x hx).1, s.free (w.mu x hx).2⟩, w.nd⟩
theorem Bag.at {c : Addr} (h : Bag I c o) (hp : I p = none) : c ≠ p := by
  obtain ⟨⟨ns, h1, _⟩, _⟩ := h
  exact ne_of_none h1 hp
theorem Bag.del {c : Addr} (h : Bag I c o) (hp : c ≠ p) : Bag (del I p) c o := by
  obtain ⟨⟨ns, h1, h2⟩, h3⟩ := h
  exact ⟨⟨ns, by rw [del_ne hp]; exact h1, h2⟩, h3⟩
end

/-! ### == of data without truths -/
mutual
def D.pd : D → PyData
  | .non => .none
  | .bl b => .bool b
  | .int i => .int i
  | .str x => .str x
  | .ref _ => .none
  | .ty _ => .none
  | .tup ds => .tuple (D.pds ds)
  | .lst ds => .list (D.pds ds)
  | .obj _ _ => .none
  | .dict => .none
  | .fact _ => .none
def D.pds : List D → List PyData
  | [] => []
  | d :: ds => D.pd d :: D.pds ds
end
/-- data of at most this depth, no truths in it -/
inductive NB : Nat → D → Prop
  | non {k : Nat} : NB k .non
  | int {k : Nat} (i : Int) : NB k (.int i)
  | str {k : Nat} {x : Str} (h : PyData.strOk x = true) : NB k (.str x)
  | tup {k : Nat} {ds : List D} (h : ∀ d ∈ ds, NB k d) : NB (k + 1) (.tup ds)
  | lst {k : Nat} {ds : List D} (h : ∀ d ∈ ds, NB k d) : NB (k + 1) (.lst ds)
theorem NB.mono {j : Nat} {d : D} (h : NB j d) : ∀ {k : Nat}, j ≤ k → NB k d := by
  induction h with
  | non => intro k _; exact .non
  | int i => intro k _; exact .int i
  | str h => intro k _; exact .str h
  | @tup j ds h ih =>
    intro k e
    cases k with
    | zero => omega
    | succ k => exact .tup fun d hd => ih d hd (by omega)
  | @lst j ds h ih =>
    intro k e
    cases k with
    | zero => omega
    | succ k => exact .lst fun d hd => ih d hd (by omega)
theorem pds_can : ∀ {ds : List D} {k : Nat}, (∀ d ∈ ds, (D.pd d).canLay0 = true ∧ (D.pd d).depth ≤ k) → PyData.canLayAll0 (D.pds ds) = true ∧ PyData.depthAll (D.pds ds) ≤ k
  | [], _, _ => ⟨by simp [D.pds, PyData.canLayAll0], by simp [D.pds, PyData.depthAll]⟩
  | d :: ds, k, h => by
    obtain ⟨h1, h2⟩ := h d List.mem_cons_self
    obtain ⟨h3, h4⟩ := pds_can (ds := ds) (k := k) fun e he => h e (List.mem_cons_of_mem _ he)
    exact ⟨by simp [D.pds, PyData.canLayAll0, h1, h3], by simp only [D.pds, PyData.depthAll]; omega⟩
theorem NB.can {k : Nat} {d : D} (h : NB k d) : (D.pd d).canLay0 = true ∧ (D.pd d).depth ≤ k := by
  induction h with
  | non => exact ⟨by simp [D.pd, PyData.canLay0], by simp [D.pd, PyData.depth]⟩
  | int i => exact ⟨by simp [D.pd, PyData.canLay0], by simp [D.pd, PyData.depth]⟩
  | str h => exact ⟨by simp [D.pd, PyData.canLay0, h], by simp [D.pd, PyData.depth]⟩
  | tup h ih =>
    obtain ⟨h1, h2⟩ := pds_can ih
    exact ⟨by simp [D.pd, PyData.canLay0, h1], by simp only [D.pd, PyData.depth]; omega⟩
  | lst h ih =>
    obtain ⟨h1, h2⟩ := pds_can ih
    exact ⟨by simp [D.pd, PyData.canLay0, h1], by simp only [D.pd, PyData.depth]; omega⟩
theorem NB.shaped {k : Nat} {d : D} (h : NB k d) (hk : k ≤ 64) : SeqAt.shaped (D.pd d) = true := by
  obtain ⟨h1, h2⟩ := h.can
  unfold SeqAt.shaped
  rw [h1, decide_eq_true (by omega)]
  rfl
theorem pds_eqv : ∀ {ds es : List D} {P : D → Prop}, (∀ d ∈ ds, ∀ e, P e → (PyData.eqv d.pd e.pd = true ↔ d = e)) → (∀ e ∈ es, P e) → (PyData.eqvAll (D.pds ds) (D.pds es) = true ↔ ds = es)
  | [], [], _, _, _ => by simp [D.pds, PyData.eqvAll]
  | [], e :: es, _, _, _ => by simp [D.pds, PyData.eqvAll]
  | d :: ds, [], _, _, _ => by simp [D.pds, PyData.eqvAll]
  | d :: ds, e :: es, P, h, g => by
    have h1 := h d List.mem_cons_self e (g e List.mem_cons_self)
    have h2 := pds_eqv (ds := ds) (es := es) (P := P) (fun x hx => h x (List.mem_cons_of_mem _ hx)) fun x hx => g x (List.mem_cons_of_mem _ hx)
    simp only [D.pds, PyData.eqvAll, Bool.and_eq_true, h1, h2, List.cons.injEq]
theorem NB.eqv {k : Nat} {d : D} (h : NB k d) : ∀ {j : Nat} {e : D}, NB j e → (PyData.eqv d.pd e.pd = true ↔ d = e) := by
  induction h with
  | non => intro j e g; cases g <;> simp [D.pd, PyData.eqv]
  | int i => intro j e g; cases g <;> simp [D.pd, PyData.eqv]
  | str h => intro j e g; cases g <;> simp [D.pd, PyData.eqv]
  | @tup k ds h ih =>
    intro j e g
    cases g with
    | non => simp [D.pd, PyData.eqv]
    | int i => simp [D.pd, PyData.eqv]
    | str h => simp [D.pd, PyData.eqv]
    | @tup j es g =>
      simp only [D.pd, PyData.eqv, D.tup.injEq]
      exact pds_eqv (P := fun e => ∃ j, NB j e) (fun d hd e he => by obtain ⟨j, he⟩ := he; exact ih d hd he) fun e he => ⟨_, g e he⟩
    | lst g => simp [D.pd, PyData.eqv]
  | @lst k ds h ih =>
    intro j e g
    cases g with
    | non => simp [D.pd, PyData.eqv]
    | int i => simp [D.pd, PyData.eqv]
    | str h => simp [D.pd, PyData.eqv]
    | @lst j es g =>
      simp only [D.pd, PyData.eqv, D.lst.injEq]
      exact pds_eqv (P := fun e => ∃ j, NB j e) (fun d hd e he => by obtain ⟨j, he⟩ := he; exact ih d hd he) fun e he => ⟨_, g e he⟩
    | tup g => simp [D.pd, PyData.eqv]
section
variable {K : PySem.W.Frag} {I H : Hp} {M : List (Addr × HO)} {Q : VK} {x y v : V} {d e : D} {ds es : List D} {j k : Nat}
theorem isA_dp (f : ∀ d ∈ ds, ∀ v, Is I v d → Dp K H v d.pd) : ∀ {vs : List V}, IsA I vs ds → DpAll K H vs (D.pds ds) := by
  induction ds with
  | nil => intro vs a; cases a; exact .nil
  | cons d ds ih =>
    intro vs a
    cases a with
    | cons h a => exact .cons (f d List.mem_cons_self _ h) (ih (fun e he => f e (List.mem_cons_of_mem _ he)) a)
theorem NB.dp (w : W I H M) (n : NB k d) : ∀ {v : V}, Is I v d → Dp K H v d.pd := by
  induction n with
  | non => intro v h; cases h; exact .non
  | int i => intro v h; cases h; exact .int i
  | str s => intro v h; cases h; exact .str _
  | tup n ih =>
    intro v h
    cases h with
    | tup hp a => exact .tup (.inl (.inl (w.imm _ _ hp))) (isA_dp (fun d hd v hv => ih d hd hv) a)
  | lst n ih =>
    intro v h
    cases h with
    | lst hp a => exact .lst (.inl (.inl (w.imm _ _ hp))) (isA_dp (fun d hd v hv => ih d hd hv) a)
theorem s_eqD {b : Bool} (w : W I H M) (hx : Is I x d) (hy : Is I y e) (n : NB k d) (m : NB j e) (hk : k ≤ 64) (hj : j ≤ 64) (hb : b = true ↔ d = e) (q : Q (.bl b) H) : rEqU K x y H Q :=
  .inr ⟨d.pd, e.pd, n.dp w hx, m.dp w hy, n.shaped hk, m.shaped hj, by
    have h1 := n.eqv m
    have h2 : PyData.eqv d.pd e.pd = b := by rw [Bool.eq_iff_iff, h1, hb]
    rw [h2]; exact q⟩
theorem s_neD {b : Bool} (w : W I H M) (hx : Is I x d) (hy : Is I y e) (n : NB k d) (m : NB j e) (hk : k ≤ 64) (hj : j ≤ 64) (hb : b = true ↔ d = e) (q : Q (.bl (!b)) H) : rNeU K x y H Q :=
  .inr ⟨d.pd, e.pd, n.dp w hx, m.dp w hy, n.shaped hk, m.shaped hj, by
    have h1 := n.eqv m
    have h2 : PyData.eqv d.pd e.pd = b := by rw [Bool.eq_iff_iff, h1, hb]
    rw [h2]; exact q⟩
theorem s_eqT (w : W I H M) (hx : Is I x d) (hy : Is I y d) (n : NB 60 d) (q : Q (.bl true) H) : rEqU K x y H Q := s_eqD w hx hy n n (by decide) (by decide) (b := true) (by simp) q
theorem s_neT (w : W I H M) (hx : Is I x d) (hy : Is I y d) (n : NB 60 d) (q : Q (.bl false) H) : rNeU K x y H Q := s_neD w hx hy n n (by decide) (by decide) (b := true) (by simp) q
theorem NB.fr {a b : Int} {k : Nat} : NB (k + 1) (fr a b) := .tup fun d hd => by
  rcases List.mem_cons.mp hd with rfl | hd
  · exact .int a
  · rw [List.mem_singleton.mp hd]; exact .int b
/-- lists -/
theorem s_catI (w : W I H M) (hx : Is I x (.lst ds)) (hy : Is I y (.lst es)) (hz : ds.length + es.length ≤ 100000) (q : ∀ p J H', Same I J → I p = none → W J H' M → Is J (.ref p) (.lst (ds ++ es)) → Q (.ref p) H') : rAddU K x y H Q := by
  obtain ⟨p1, vs, rfl, h1, a1⟩ := hx.lst_ex
  obtain ⟨p2, us, rfl, h2, a2⟩ := hy.lst_ex
  exact .inr (.inr (.inl ⟨p1, p2, vs, us, rfl, rfl, w.imm _ _ h1, w.imm _ _ h2, by rw [a1.length, a2.length]; exact Nat.le_trans hz (by decide), fun p hp => q p _ _ (w.same hp) (w.fresh hp) (w.newI hp) (.lst upd_same ((a1.app a2).mono (w.same hp)))⟩))
theorem s_listI (w : W I H M) (hx : Is I x (.lst ds)) (q : ∀ p J H', Same I J → I p = none → W J H' M → Is J (.ref p) (.lst ds) → Q (.ref p) H') : rListOf K [x] H Q := by
  obtain ⟨p1, vs, rfl, h1, a1⟩ := hx.lst_ex
  exact ⟨p1, vs, rfl, .inl (.inl (.inl (w.imm _ _ h1))), fun p hp => q p _ _ (w.same hp) (w.fresh hp) (w.newI hp) (.lst upd_same (a1.mono (w.same hp)))⟩
theorem s_listT (w : W I H M) (hx : Is I x (.tup ds)) (q : ∀ p J H', Same I J → I p = none → W J H' M → Is J (.ref p) (.lst ds) → Q (.ref p) H') : rListOf K [x] H Q := by
  obtain ⟨p1, vs, rfl, h1, a1⟩ := hx.tup_ex
  exact ⟨p1, vs, rfl, .inr (.inl (.inl (w.imm _ _ h1))), fun p hp => q p _ _ (w.same hp) (w.fresh hp) (w.newI hp) (.lst upd_same (a1.mono (w.same hp)))⟩
def cutD (ds : List D) (lo hi : Option Int) : List D := (ds.drop (HT.sIx ds.length 0 lo)).take (HT.sIx ds.length ds.length hi - HT.sIx ds.length 0 lo)
theorem IsA.cut {vs : List V} (a : IsA I vs ds) (lo hi : Option Int) : IsA I (cutV vs lo hi) (cutD ds lo hi) := by
  unfold cutV cutD
  rw [a.length]
  exact (a.drop _).take _
theorem s_slI {lo hi : Option Int} (w : W I H M) (hx : Is I x (.lst ds)) (q : ∀ p J H', Same I J → I p = none → W J H' M → Is J (.ref p) (.lst (cutD ds lo hi)) → Q (.ref p) H') : rSlL K x lo hi H Q := by
  obtain ⟨p1, vs, rfl, h1, a1⟩ := hx.lst_ex
  exact ⟨p1, vs, rfl, .inl (.inl (w.imm _ _ h1)), fun p hp => q p _ _ (w.same hp) (w.fresh hp) (w.newI hp) (.lst upd_same ((a1.cut lo hi).mono (w.same hp)))⟩
end

/-! ### defs with defaults -/
section
variable {P : Program} {w : World} {K : PySem.W.Frag} {mg : Str → Option Value} {base : Heap}
theorem _root_.L2.FunD.ok0 {x qual : Str} {st : Stmt} {dvs : List V} {f : Addr} {fd : FuncData} {N ps : List Str} {k : Nat} {sp : Sp} (F : FunD K x qual (defArgs st) (defBody st) (defScope st) dvs [] f fd) (S : FnScope N ps (defScope st)) (len : ∀ vs H Q E, sp vs H Q E → vs.length = ps.length)
    (hbody : ∀ (cdv : Value) (A : Around) (outer : List Env) (s : Shared) (H : Hp) (vs : List V) (Q : VK) (E : XK), Room k (A.deeper (envOfC qual (defScope st) s.heap.objs.size f cdv)) → sp vs H Q E →
      ∃ t, PSs (cxOf CX0 P w K mg base N qual (defScope st) f cdv A outer s H E).nox (defBody st) t ∧ t { nx := fun _ H' => Q .non H', rt := Q } (start N vs) H) : FnOk P w K mg base CX0 (k + 1) f fd ps sp :=
  F.ok S len fun cdv A outer s H vs Q E hr h => let ⟨t, a, b⟩ := hbody cdv A outer s H vs Q E hr h; ⟨t, a.nox, b⟩
/-- what the top has left of such a def -/
theorem funD_mk {x qual : Str} {st : Stmt} {f T : Addr} {oc to_ : Value} {od an td : Option Addr} {osl tsl : Array (Option Value)} {kV doc pm cdv ct : Value} {its : List Value} {n : Nat} {dvs : List V} (l : K.lookup f = some ⟨oc, od, .func (PySem.W.fnOf x qual (defArgs st) (defBody st) (defScope st) (.ref T) kV doc pm an cdv ct), osl⟩)
    (c : PySem.W.codeIn K cdv qual = true) (k : PySem.W.keepIn K (.ref f) = true) (lT : K.lookup T = some ⟨to_, td, .seq its.toArray n, tsl⟩) (hv : Vals dvs its) (hd : dvs ≠ []) :
    FunD K x qual (defArgs st) (defBody st) (defScope st) dvs [] f (PySem.W.fnOf x qual (defArgs st) (defBody st) (defScope st) (.ref T) kV doc pm an cdv ct) :=
  ⟨⟨oc, od, .ref T, kV, doc, pm, an, cdv, ct, osl, rfl, l, c, .inr ⟨hd, T, _, its, n, rfl, lT, rfl, hv⟩, .inl rfl⟩, k⟩
end
end Fs

namespace Fs
open PySem PySem.Spec PyProof.Rows L2
/-! ### fractions are rational numbers -/
abbrev frq (q : Rat) : D := fr q.num q.den
/-- its numbers have at most so many bits -/
structure Sz (k : Nat) (q : Rat) : Prop where
  n : Bd k q.num
  d : Bd k (q.den : Int)
theorem Sz.mono {j k : Nat} {q : Rat} (h : Sz j q) (hk : j ≤ k) : Sz k q := ⟨h.n.mono hk, h.d.mono hk⟩
theorem den_pos' (q : Rat) : (0 : Int) < (q.den : Int) := by have := q.den_pos; omega
theorem gcd_q (q : Rat) : Int.gcd q.num q.den = 1 := q.reduced
theorem gcd_pos' {t b : Int} (h : b ≠ 0) : (0 : Int) < (Int.gcd t b : Int) := by
  have : 0 < Int.gcd t b := Int.gcd_pos_of_ne_zero_right _ h
  omega
theorem gcd_abs (t b : Int) : Int.gcd (if t < 0 then -t else t) (if b < 0 then -b else b) = Int.gcd t b := by
  split <;> split <;> simp [Int.gcd_neg, Int.neg_gcd]
theorem gcd_le_right' {t b : Int} (h : b ≠ 0) : (Int.gcd t b : Int).natAbs ≤ b.natAbs := by
  have := Nat.le_of_dvd (by omega) (Nat.gcd_dvd_right t.natAbs b.natAbs)
  show Int.gcd t b ≤ _
  exact this
theorem low_num {t b : Int} (h : b ≠ 0) : (if b < 0 then -t else t) / (Int.gcd t b : Int) = (Rat.divInt t b).num := by
  rw [Rat.num_divInt, Int.gcd_comm b t]
  by_cases hb : b < 0
  · rw [if_pos hb, Int.sign_eq_neg_one_of_neg hb]
    congr 1
    omega
  · rw [if_neg hb, Int.sign_eq_one_of_pos (by omega)]
    congr 1
    omega
theorem low_den {t b : Int} (h : b ≠ 0) : (if b < 0 then -b else b) / (Int.gcd t b : Int) = ((Rat.divInt t b).den : Int) := by
  rw [Rat.den_divInt, if_neg h, Int.gcd_comm b t, Int.natCast_ediv]
  congr 1
  split <;> omega
theorem div_abs_le {a g : Int} (hg : 0 < g) (hd : g ∣ a) : (a / g).natAbs ≤ a.natAbs := by
  obtain ⟨c, rfl⟩ := hd
  rw [Int.mul_ediv_cancel_left _ (by omega), Int.natAbs_mul]
  exact Nat.le_mul_of_pos_left _ (by omega)
theorem num_le {t b : Int} (h : b ≠ 0) : (Rat.divInt t b).num.natAbs ≤ t.natAbs := by
  rw [← low_num h]
  have hd : (Int.gcd t b : Int) ∣ (if b < 0 then -t else t) := by
    split
    · exact Int.dvd_neg.mpr (Int.gcd_dvd_left _ _)
    · exact Int.gcd_dvd_left _ _
  have := div_abs_le (gcd_pos' (t := t) h) hd
  split at this <;> split <;> omega
theorem den_le {t b : Int} (h : b ≠ 0) : ((Rat.divInt t b).den : Int).natAbs ≤ b.natAbs := by
  rw [← low_den h]
  have hd : (Int.gcd t b : Int) ∣ (if b < 0 then -b else b) := by
    split
    · exact Int.dvd_neg.mpr (Int.gcd_dvd_right _ _)
    · exact Int.gcd_dvd_right _ _
  have := div_abs_le (gcd_pos' (t := t) h) hd
  split at this <;> split <;> omega
theorem Sz.divInt {j k : Nat} {t b : Int} (h : b ≠ 0) (ht : Bd j t) (hb : Bd k b) (m : Nat) (hj : j ≤ m := by omega) (hk : k ≤ m := by omega) : Sz m (Rat.divInt t b) := ⟨(ht.le (num_le h)).mono hj, (hb.le (den_le h)).mono hk⟩
theorem den_ne (q : Rat) : (q.den : Int) ≠ 0 := by have := q.den_pos; omega
theorem add_dv (p q : Rat) : Rat.divInt (p.num * q.den + q.num * p.den) (p.den * q.den) = p + q := by
  have h := Rat.divInt_add_divInt p.num q.num (den_ne p) (den_ne q)
  rw [Rat.num_divInt_den, Rat.num_divInt_den] at h
  exact h.symm
theorem sub_dv (p q : Rat) : Rat.divInt (p.num * q.den - q.num * p.den) (p.den * q.den) = p - q := by
  have h := Rat.divInt_sub_divInt p.num q.num (den_ne p) (den_ne q)
  rw [Rat.num_divInt_den, Rat.num_divInt_den] at h
  exact h.symm
theorem mul_dv (p q : Rat) : Rat.divInt (p.num * q.num) (p.den * q.den) = p * q := by
  have h := Rat.divInt_mul_divInt p.num q.num (d₁ := p.den) (d₂ := q.den)
  rw [Rat.num_divInt_den, Rat.num_divInt_den] at h
  exact h.symm
theorem div_dv (p q : Rat) : Rat.divInt (p.num * q.den) (p.den * q.num) = p / q := by
  have h := Rat.divInt_mul_divInt p.num q.den (d₁ := p.den) (d₂ := q.num)
  rw [Rat.num_divInt_den, ← Rat.inv_divInt q.num q.den, Rat.num_divInt_den] at h
  rw [Rat.div_def]
  exact h.symm
theorem den_mul_ne (p q : Rat) : (p.den * q.den : Int) ≠ 0 := Int.mul_ne_zero (den_ne p) (den_ne q)
theorem Sz.add {j k : Nat} {p q : Rat} (hp : Sz j p) (hq : Sz k q) : Sz (j + k + 1) (p + q) := by
  rw [← add_dv]
  exact Sz.divInt (den_mul_ne p q) (Bd.add (hp.n.mul hq.d) ((hq.n.mul hp.d).mono (by omega))) (hp.d.mul hq.d) _
theorem Sz.sub {j k : Nat} {p q : Rat} (hp : Sz j p) (hq : Sz k q) : Sz (j + k + 1) (p - q) := by
  rw [← sub_dv]
  exact Sz.divInt (den_mul_ne p q) (Bd.sub (hp.n.mul hq.d) ((hq.n.mul hp.d).mono (by omega))) (hp.d.mul hq.d) _
theorem Sz.mul {j k : Nat} {p q : Rat} (hp : Sz j p) (hq : Sz k q) : Sz (j + k) (p * q) := by
  rw [← mul_dv]
  exact Sz.divInt (den_mul_ne p q) (hp.n.mul hq.n) (hp.d.mul hq.d) _
theorem Sz.div {j k : Nat} {p q : Rat} (hp : Sz j p) (hq : Sz k q) (h0 : q ≠ 0) : Sz (j + k) (p / q) := by
  rw [← div_dv]
  exact Sz.divInt (Int.mul_ne_zero (den_ne p) (fun h => h0 (Rat.num_eq_zero.mp h))) (hp.n.mul hq.d) (hp.d.mul hq.n) _
theorem Sz.neg {k : Nat} {q : Rat} (h : Sz k q) : Sz k (-q) := ⟨by rw [Rat.neg_num]; exact h.n.neg, by rw [Rat.neg_den]; exact h.d⟩
theorem Sz.int {k : Nat} {n : Int} (h : Bd k n) (hk : 0 < k := by decide) : Sz k (n : Rat) := ⟨h, Bd.of 1 (by rw [Rat.den_intCast]; decide) (by
  have : 2 ^ 1 ≤ 2 ^ k := Nat.pow_le_pow_right (by decide) hk
  omega)⟩
theorem frq_int (n : Int) : frq (n : Rat) = fr n 1 := rfl
theorem frq_zero : frq 0 = fr 0 1 := rfl
theorem frq_inj {p q : Rat} (h : frq p = frq q) : p = q := by
  injection h with h
  injection h with h1 h
  injection h with h2 _
  injection h1 with h1
  injection h2 with h2
  exact Rat.ext h1 (by omega)
theorem frq_of {a b : Int} (hb : 0 < b) (g : Int.gcd a b = 1) : fr a b = frq (Rat.divInt a b) := by
  have h1 := low_num (t := a) (b := b) (by omega)
  have h2 := low_den (t := a) (b := b) (by omega)
  rw [if_neg (by omega), g] at h1 h2
  simp only [Int.natCast_one, Int.ediv_one] at h1 h2
  rw [frq, ← h1, ← h2]
theorem gcd_step {a b : Int} (ha : 0 ≤ a) (hb : 0 ≤ b) : Int.gcd b (a % b) = Int.gcd a b := by
  obtain ⟨m, rfl⟩ := Int.eq_ofNat_of_zero_le ha
  obtain ⟨n, rfl⟩ := Int.eq_ofNat_of_zero_le hb
  show Nat.gcd n (m % n) = Nat.gcd m n
  rw [Nat.gcd_comm n, ← Nat.gcd_rec, Nat.gcd_comm]
theorem gcd_end {a : Int} (ha : 0 ≤ a) : (Int.gcd a 0 : Int) = a := by
  rw [Int.gcd_zero_right]
  omega
end Fs

namespace Fs
open PySem PySem.Spec PyProof.Rows L2
/-! ### the rules with the written part as a letter (for a comprehension's block) -/
section
variable {X : Cx} {K : PySem.W.Frag}
theorem k_add (h : X.K = K) : OpR X (binaryOp .Add) (rAddU K) := h ▸ uo_add
theorem k_eq (h : X.K = K) (hu : X.A.units + 64 < cLine) : OpR X (compareOp .Eq) (rEqU K) := h ▸ uo_eq hu
theorem k_ne (h : X.K = K) (hu : X.A.units + 64 < cLine) : OpR X (compareOp .NotEq) (rNeU K) := h ▸ uo_ne hu
theorem k_ix (h : X.K = K) : IxR X (rIx K) := h ▸ ix_seq
theorem k_len (h : X.K = K) : CallR X (.builtin "len") (rLenU K) := h ▸ uc_len
theorem k_isi (h : X.K = K) : CallR X (.builtin "isinstance") (rIsiU K) := h ▸ uc_isi
theorem k_min (h : X.K = K) (hc : X.calm = true) : CallR X (.builtin "min") (rMinU K) := h ▸ uc_min hc
theorem k_max (h : X.K = K) (hc : X.calm = true) : CallR X (.builtin "max") (rMaxU K) := h ▸ uc_max hc
theorem k_sum (h : X.K = K) (hc : X.calm = true) : CallR X (.builtin "sum") (rSum K) := h ▸ cr_sum hc
theorem k_list (h : X.K = K) : CallR X (.type "list") (rListOf K) := h ▸ uc_list
theorem k_sl (h : X.K = K) : SlR X (rSlL K) := h ▸ sl_list
theorem kpi_list {tg l : Expr} {tl : TE} (h : X.K = K) (e : PE X l tl) : PI X tg l (iList K tl) := h ▸ pi_list e
theorem kpi_tup {tg l : Expr} {tl : TE} (h : X.K = K) (e : PE X l tl) : PI X tg l (iTup K tl) := h ▸ pi_tup e
theorem kpe_fld {e : Expr} {ta : TE} {f : Str} {pos : Pos} (h : X.K = K) (he : PE X e ta) (hb : attributeBase e f X.env (eval e X.env) = eval e X.env) : PE X (.Attribute e f pos) (tFld K ta f) := h ▸ pe_fld he hb
theorem kpg_tup {es : List Expr} {k : Nat} {t : TGs} {n : Nat} {pos : Pos} (h : X.K = K) (hc : X.calm = true) (hg : PGs X es t)
    (hn : (assignEach es X.env).length = n := by rfl) (hst : (assignEach es X.env).findIdx? (·.1) = none := by rfl) : PG X (.Tuple es k pos) (gTup K n t) := h ▸ pg_tup hc hg hn hst
end
/-! ### comprehensions -/
/-- what stands behind a comprehension's source -/
def LcGo (J : It) (g : TG) (tt : TT) (te : TE) (xs : List Nat) (σ : L2.St) (Q : VK) (H1 : Hp) : Prop := ∀ D, H1 D = none → ∃ W : Nat → Nat → Hp → Prop, (∃ m, W 0 m (upd H1 D (.lst []))) ∧ ∀ i m H, W i m H →
  (J.stop i H ∧ Q (.ref D) H) ∨ (J.go i H ∧ ∃ Nx : Hp → Prop, (∀ H', Nx H' → ∃ m', m' < m ∧ W (i + 1) m' H') ∧ ∀ x H', J.yld i H x H' → g x (wipe σ xs) H' fun σ2 H2 => wipe σ2 xs = wipe σ xs ∧ tt σ2 H2 fun b H3 =>
    if b = true then te σ2 H3 fun y H4 => ∃ acc, H4 D = some (.lst acc) ∧ acc.length < sizeLine ∧ Nx (upd H4 D (.lst (acc ++ [y]))) else Nx H3)
section
variable {K : PySem.W.Frag} {σ : L2.St} {I H : Hp} {M : List (Addr × HO)} {Q : VK} {x v : V} {b c : Addr} {o : HO} {te : TE} {wi : TI} {g : TG} {tt : TT} {xs : List Nat} {ds : List D} {k : Nat}
theorem s_lcc (h : wi σ H fun J H1 => LcGo J g tt te xs σ Q H1) : tLc wi g tt te xs σ H Q := h
theorem s_lcRng {n : Int} {lo : Int} (h1 : -(2 ^ 62) ≤ n) (h2 : n < 2 ^ 62) (h : LcGo (Itr 0 n.toNat) g tt te xs σ Q H) : ∃ j : Int, [V.int n] = [.int j] ∧ -(2 ^ 62) ≤ j ∧ j < 2 ^ 62 ∧ LcGo (Itr 0 j.toNat) g tt te xs σ Q H := ⟨n, rfl, h1, h2, h⟩
/-- turns that draw nothing, one name as target, no test; what the i-th turn gives is told by f -/
theorem lc_pure {J : It} {n : Nat} {Gd : Hp → Prop} {Y : Nat → Hp → V → Hp → Prop} (wk : Walk J n Gd Y) (w : W I H M) (hG : ∀ H', Same I H' → Gd H') (f : Nat → D) (hn : n ≤ 100000)
    (hw : ∀ v, wipe ((wipe σ xs).set k (some v)) xs = wipe σ xs)
    (step : ∀ i v D acc J' H0 H' C, i < n → Same I J' → W J' H0 ((D, .lst acc) :: M) → Y i H0 v H' → (∀ y J'' H4, Same J' J'' → W J'' H4 ((D, .lst acc) :: M) → Is J'' y (f i) → C y H4) → te ((wipe σ xs).set k (some v)) H' C)
    (q : ∀ p J' H', Same I J' → I p = none → W J' H' M → Is J' (.ref p) (.lst ((List.range n).map f)) → Q (.ref p) H') : LcGo J (gName k) tYes te xs σ Q H := by
  intro D nD
  have w1 := w.newM (o := .lst []) nD
  refine lc_it wk (fun i H' => ∃ acc J', Same I J' ∧ W J' H' ((D, .lst acc) :: M) ∧ IsA J' acc ((List.range i).map f) ∧ acc.length = i) ⟨[], I, Same.refl _, w1, .nil, rfl⟩ (fun i H' _ ⟨acc, J', s, w', _⟩ => hG H' (s.trans w'.imm)) ?_ ?_
  · rintro i v H0 H' hi ⟨acc, J', s, w', a, hl⟩ hy
    refine ⟨hw v, ?_⟩
    refine s_yes (iteT (step i v D acc J' H0 H' _ hi s w' hy fun y J'' H4 s2 w2 h2 => ?_))
    refine ⟨acc, w2.at0, by rw [hl]; exact Nat.lt_of_lt_of_le hi (Nat.le_trans hn (by decide)), acc ++ [y], J'', s.trans s2, w2.put0, ?_, by rw [List.length_append, hl]; rfl⟩
    rw [List.range_succ, List.map_append]
    exact (a.mono s2).app (.one h2)
  · rintro H' ⟨acc, J', s, w', a, hl⟩
    obtain ⟨J2, s2, w2, h2⟩ := w'.done0 a
    refine q D J2 H' (s.trans s2) (w.fresh nD) w2 h2
/-- turns that draw -/
theorem lc_bag {J : It} {n : Nat} {Gd : Hp → Prop} {Y : Nat → Hp → V → Hp → Prop} (wk : Walk J n Gd Y) (w : W I H ((b, o) :: M)) (hb : Bag I c o) (hG : ∀ H', Same I H' → Gd H') (P : Nat → D → Prop) (hn : n ≤ 100000)
    (hw : ∀ v, wipe ((wipe σ xs).set k (some v)) xs = wipe σ xs)
    (step : ∀ i v D acc o' J' H0 H' C, i < n → Same I J' → Bag J' c o' → W J' H0 ((b, o') :: (D, .lst acc) :: M) → Y i H0 v H' →
      (∀ y d o'' J'' H4, Same J' J'' → Bag J'' c o'' → W J'' H4 ((b, o'') :: (D, .lst acc) :: M) → Is J'' y d → P i d → C y H4) → te ((wipe σ xs).set k (some v)) H' C)
    (q : ∀ p ds o' J' H', Same I J' → I p = none → Bag J' c o' → W J' H' ((b, o') :: M) → Is J' (.ref p) (.lst ds) → ds.length = n → (∀ i d, ds[i]? = some d → P i d) → Q (.ref p) H') : LcGo J (gName k) tYes te xs σ Q H := by
  intro D nD
  have w1 := w.newM2 (o := .lst []) nD
  refine lc_it wk (fun i H' => ∃ acc J' o' ds, Same I J' ∧ Bag J' c o' ∧ W J' H' ((b, o') :: (D, .lst acc) :: M) ∧ IsA J' acc ds ∧ acc.length = i ∧ ds.length = i ∧ ∀ j d, ds[j]? = some d → P j d) ⟨[], I, o, [], Same.refl _, hb, w1, .nil, rfl, rfl, fun j d h => by simp at h⟩ (fun i H' _ ⟨acc, J', o', ds, s, _, w', _⟩ => hG H' (s.trans w'.imm)) ?_ ?_
  · rintro i v H0 H' hi ⟨acc, J', o', ds, s, hb', w', a, hl, hl2, hp⟩ hy
    refine ⟨hw v, ?_⟩
    refine s_yes (iteT (step i v D acc o' J' H0 H' _ hi s hb' w' hy fun y d o'' J'' H4 s2 hb2 w2 h2 hd => ?_))
    refine ⟨acc, w2.at1, by rw [hl]; exact Nat.lt_of_lt_of_le hi (Nat.le_trans hn (by decide)), acc ++ [y], J'', o'', ds ++ [d], s.trans s2, hb2, w2.put1, (a.mono s2).app (.one h2), by rw [List.length_append, hl]; rfl, by rw [List.length_append, hl2]; rfl, fun j e h => ?_⟩
    by_cases hj : j < ds.length
    · rw [List.getElem?_append_left hj] at h
      exact hp j e h
    · rw [List.getElem?_append_right (by omega)] at h
      have h3 : j - ds.length = 0 := by
        cases hz : j - ds.length with
        | zero => rfl
        | succ m => rw [hz] at h; simp at h
      rw [h3] at h
      simp at h
      subst h
      have : j = i := by omega
      rw [this]
      exact hd
  · rintro H' ⟨acc, J', o', ds, s, hb', w', a, hl, hl2, hp⟩
    obtain ⟨J2, s2, w2, h2⟩ := w'.done1 a
    exact q D ds o' J2 H' (s.trans s2) (w.fresh nD) (hb'.mono s2) w2 h2 hl2 hp
theorem s_iLc {J : Addr → Prop} (w : W I H M) (h : Is I v (.lst ds)) (q : ∀ a vs, v = .ref a → I a = some (.lst vs) → IsA I vs ds → J a) : ∃ a, v = .ref a ∧ (∃ xs, SqL K H a xs) ∧ J a := s_iL' w h q
end

/-! ### sums of fractions -/
def rs (qs : List Rat) : Rat := qs.foldl (· + ·) 0
theorem rs_nil : rs [] = 0 := rfl
theorem rs_snoc (qs : List Rat) (q : Rat) : rs (qs ++ [q]) = rs qs + q := by simp [rs, List.foldl_append]
theorem rs_take {qs : List Rat} {i : Nat} {q : Rat} (h : qs[i]? = some q) : rs (qs.take (i + 1)) = rs (qs.take i) + q := by
  rw [List.take_add_one, h, ← rs_snoc]
  rfl
theorem rs_from (ys : List Rat) : ∀ a : Rat, ys.foldl (· + ·) a = a + rs ys := by
  induction ys with
  | nil => intro a; simp [rs, Rat.add_zero]
  | cons y ys ih =>
    intro a
    show ys.foldl (· + ·) (a + y) = a + (ys.foldl (· + ·) (0 + y))
    rw [ih, ih, Rat.zero_add, Rat.add_assoc]
theorem rs_cons (y : Rat) (ys : List Rat) : rs (y :: ys) = y + rs ys := by
  show ys.foldl (· + ·) (0 + y) = _
  rw [rs_from, Rat.zero_add]
theorem rs_app (xs ys : List Rat) : rs (xs ++ ys) = rs xs + rs ys := by
  unfold rs
  rw [List.foldl_append, rs_from]
  rfl
/-- top and bottom by themselves -/
structure Sz2 (j k : Nat) (q : Rat) : Prop where
  n : Bd j q.num
  d : Bd k (q.den : Int)
theorem Sz2.mono {i j k l : Nat} {q : Rat} (h : Sz2 i k q) (hj : i ≤ j) (hk : k ≤ l) : Sz2 j l q := ⟨h.n.mono hj, h.d.mono hk⟩
theorem Sz2.sz {j k m : Nat} {q : Rat} (h : Sz2 j k q) (hj : j ≤ m) (hk : k ≤ m) : Sz m q := ⟨h.n.mono hj, h.d.mono hk⟩
theorem Sz.sz2 {k : Nat} {q : Rat} (h : Sz k q) : Sz2 k k q := ⟨h.n, h.d⟩
theorem Sz2.add {j k l m : Nat} {p q : Rat} (hp : Sz2 j k p) (hq : Sz2 l m q) (n : Nat) (h1 : j + m + 1 ≤ n) (h2 : l + k + 1 ≤ n) : Sz2 n (k + m) (p + q) := by
  rw [← add_dv]
  have b1 : Bd (n - 1) (p.num * q.den) := (hp.n.mul hq.d).mono (by omega)
  have b2 : Bd (n - 1) (q.num * p.den) := (hq.n.mul hp.d).mono (by omega)
  have b3 := (Bd.add b1 b2).mono (show n - 1 + 1 ≤ n by omega)
  exact ⟨b3.le (num_le (den_mul_ne p q)), (hp.d.mul hq.d).le (den_le (den_mul_ne p q))⟩
theorem Sz2.rs {j k : Nat} {qs : List Rat} (h : ∀ q ∈ qs, Sz2 j k q) : ∀ i, i ≤ qs.length → Sz2 (j + (k + 1) * i + 1) (k * i + 1) (rs (qs.take i))
  | 0, _ => ⟨Bd.of 0 (by simp [rs_nil]) (Nat.pow_pos (by decide)), Bd.of 1 (by simp [rs_nil]) (by
      have : 2 ^ 1 ≤ 2 ^ (k * 0 + 1) := Nat.pow_le_pow_right (by decide) (by omega)
      omega)⟩
  | i + 1, hi => by
    have hi' : i < qs.length := hi
    have e : qs[i]? = some qs[i] := List.getElem?_eq_getElem hi'
    rw [rs_take e]
    have ih := Sz2.rs h i (by omega)
    have hq := h _ (List.getElem_mem hi')
    have e1 : (k + 1) * (i + 1) = (k + 1) * i + k + 1 := by rw [Nat.mul_add]; omega
    have e2 : k * (i + 1) = k * i + k := by rw [Nat.mul_add]; omega
    have e3 : k * i ≤ (k + 1) * i := Nat.mul_le_mul_right _ (by omega)
    exact (ih.add hq (j + (k + 1) * (i + 1) + 1) (by omega) (by omega)).mono (Nat.le_refl _) (by omega)
theorem frqs_of {S : Rat → Prop} : ∀ {ds : List D}, (∀ (i : Nat) d, ds[i]? = some d → ∃ q, d = frq q ∧ S q) → ∃ qs : List Rat, ds = qs.map frq ∧ ∀ q ∈ qs, S q
  | [], _ => ⟨[], rfl, fun _ h => nomatch h⟩
  | d :: ds, h => by
    obtain ⟨q, rfl, hq⟩ := h 0 _ rfl
    obtain ⟨qs, rfl, hs⟩ := frqs_of (S := S) (ds := ds) fun i e he => h (i + 1) e (by simpa using he)
    exact ⟨q :: qs, rfl, fun r hr => by
      rcases List.mem_cons.mp hr with rfl | hr
      · exact hq
      · exact hs r hr⟩
theorem atI0 {α : Type} {l : List α} {i : Nat} {x : α} (h : l[i]? = some x) : atI l (0 + (i : Int)) = some x := by
  rw [Int.zero_add]
  exact atI_nat h
theorem NB.list {α : Type} {f : α → D} {k : Nat} {l : List α} (h : ∀ x ∈ l, NB k (f x)) : NB (k + 1) (.lst (l.map f)) := .lst fun d hd => by
  obtain ⟨x, hx, rfl⟩ := List.mem_map.mp hd
  exact h x hx
theorem NB.frqs {qs : List Rat} {k : Nat} : NB (k + 2) (.lst (qs.map frq)) := NB.list fun _ _ => NB.fr
theorem NB.ints {ns : List Int} {k : Nat} : NB (k + 1) (.lst (ns.map D.int)) := NB.list fun n _ => .int n
theorem s_listC {K : PySem.W.Frag} {I H : Hp} {M : List (Addr × HO)} {Q : VK} {x : V} {ds : List D} (w : W I H M) (hx : Is I x (.lst ds)) (q : ∀ p vs J H', Same I J → I p = none → W J H' M → J p = some (.lst vs) → IsA I vs ds → Q (.ref p) H') : rListOf K [x] H Q := by
  obtain ⟨p1, vs, rfl, h1, a1⟩ := hx.lst_ex
  exact ⟨p1, vs, rfl, .inl (.inl (.inl (w.imm _ _ h1))), fun p hp => q p vs _ _ (w.same hp) (w.fresh hp) (w.newI hp) upd_same a1⟩
/-- for x, y in zip(xs, ys), two lists of one length that stay -/
def ZipQ (K : PySem.W.Frag) (x y : V) (H : Hp) (R : It → Hp → Prop) : Prop := ∃ a b xs ys, [x, y] = [.ref a, .ref b] ∧ SqL K H a xs ∧ SqL K H b ys ∧ R (Itz K a b) H
theorem s_zip {K : PySem.W.Frag} {σ : L2.St} {H : Hp} {ta : TA} {R : It → Hp → Prop} (h : ta σ H fun vs H1 => ∃ a b xs ys, vs = [.ref a, .ref b] ∧ SqL K H1 a xs ∧ SqL K H1 b ys ∧ R (Itz K a b) H1) : iZip K ta σ H R := h
theorem s_zipL {K : PySem.W.Frag} {σ : L2.St} {I H : Hp} {M : List (Addr × HO)} {x y : V} {ds es : List D} {g : TG} {tb : TS} {G : Ends} (w : W I H M) (hx : Is I x (.lst ds)) (hy : Is I y (.lst es)) (hl : ds.length = es.length) (Pv : Nat → L2.St → Hp → Prop) (h0 : Pv 0 σ H) (hI : ∀ i σ H, Pv i σ H → Same I H)
    (hs : ∀ i d e x y T σ H H', ds[i]? = some d → es[i]? = some e → Is I x d → Is I y e → Pv i σ H → H T = none → H' = upd H T (.tup [x, y]) → g (.ref T) σ H' fun σ2 H2 => tb { G with nx := Pv (i + 1), ct := Pv (i + 1), bk := G.nx } σ2 H2) (hd : ∀ σ H, Pv ds.length σ H → G.nx σ H) :
    ∃ a b xs ys, [x, y] = [V.ref a, .ref b] ∧ SqL K H a xs ∧ SqL K H b ys ∧ ∃ W : Nat → Nat → L2.St → Hp → Prop, (∃ m, W 0 m σ H) ∧ ∀ i m σ H, W i m σ H →
      ((Itz K a b).stop i H ∧ G.nx σ H) ∨ ((Itz K a b).go i H ∧ ∃ N : L2.St → Hp → Prop, (∀ σ' H', N σ' H' → ∃ m', m' < m ∧ W (i + 1) m' σ' H') ∧ ∀ x H', (Itz K a b).yld i H x H' → g x σ H' fun σ2 H2 => tb { G with nx := N, ct := N, bk := G.nx } σ2 H2) := by
  obtain ⟨p1, vs, rfl, h1, a1⟩ := hx.lst_ex
  obtain ⟨p2, us, rfl, h2, a2⟩ := hy.lst_ex
  refine ⟨p1, p2, vs, us, rfl, .inl (.inl (w.imm _ _ h1)), .inl (.inl (w.imm _ _ h2)), ?_⟩
  refine RZ.for_zipL (K := K) (xs := vs) (ys := us) (by rw [a1.length, a2.length, hl]) Pv h0 (fun i σ H q => ⟨.inl (.inl (hI i σ H q _ _ h1)), .inl (.inl (hI i σ H q _ _ h2))⟩) (fun i x y T σ H e1 e2 q nT => ?_) (fun σ H q => hd σ H (by rw [← a1.length]; exact q))
  obtain ⟨d, f1, g1⟩ := a1.of e1
  obtain ⟨e, f2, g2⟩ := a2.of e2
  exact hs i d e x y T σ H _ f1 f2 g1 g2 q nT rfl
theorem s_aug {σ : L2.St} {H : Hp} {G : Ends} {i : Nat} {te : TE} {ti : TIp} {x : V} (h : σ[i]? = some (some x)) (q : te σ H fun y H1 => ti x y H1 fun z H2 => G.nx (σ.set i (some z)) H2) : tAug i te ti G σ H := ⟨x, h, q⟩
/-- a list is taken away: fractions stay -/
theorem Is.delF {I : Hp} {v : V} {a b : Int} {p : Addr} {vs : List V} (h : Is I v (fr a b)) (hp : I p = some (.lst vs)) : Is (del I p) v (fr a b) := by
  obtain ⟨t, us, rfl, ht, au⟩ := h.tup_ex
  have ne : t ≠ p := fun e => by rw [e, hp] at ht; cases ht
  refine .tup (by rw [del_ne ne]; exact ht) ?_
  cases au with | cons h1 au =>
  cases au with | cons h2 au =>
  cases au
  cases h1
  cases h2
  exact .cons (.int _) (.cons (.int _) .nil)
theorem IsA.delF {I : Hp} {p : Addr} {us : List V} (hp : I p = some (.lst us)) : ∀ {qs : List Rat} {vs : List V}, IsA I vs (qs.map frq) → IsA (del I p) vs (qs.map frq)
  | [], _, h => by cases h; exact .nil
  | q :: qs, _, h => by
    cases h with
    | cons h a => exact .cons (h.delF hp) (IsA.delF hp a)
theorem Is.delL {I : Hp} {p l : Addr} {us : List V} {qs : List Rat} (h : Is I (.ref l) (.lst (qs.map frq))) (hp : I p = some (.lst us)) (ne : l ≠ p) : Is (del I p) (.ref l) (.lst (qs.map frq)) := by
  cases h with
  | lst h a => exact .lst (by rw [del_ne ne]; exact h) (a.delF hp)
def rIns : V → List V → Hp → VK → Prop := fun x vs H Q => ∃ (l : Addr) (xs : List V) (i : Int) (y : V), x = .ref l ∧ vs = [.int i, y] ∧ H l = some (.lst xs) ∧ xs.length < sizeLine ∧ 0 ≤ i ∧ i < 2 ^ 63 ∧ Q .non (upd H l (.lst (xs.take i.toNat ++ [y] ++ xs.drop i.toNat)))
theorem mt_ins {X : Cx} : MtR X "list.insert" rIns := mt_insert
theorem s_insW1 {I H : Hp} {M : List (Addr × HO)} {m0 : Addr × HO} {p : Addr} {xs : List V} {i : Int} {y : V} {Q : VK} (w : W I H (m0 :: (p, .lst xs) :: M)) (hz : xs.length ≤ 100000) (h0 : 0 ≤ i) (h1 : i < 1000000) (q : ∀ H', W I H' (m0 :: (p, .lst (xs.take i.toNat ++ [y] ++ xs.drop i.toNat)) :: M) → Q .non H') : rIns (.ref p) [.int i, y] H Q :=
  ⟨p, xs, i, y, rfl, rfl, w.at1, Nat.lt_of_le_of_lt hz (by decide), h0, by omega, q _ w.put1⟩
theorem s_popW1 {I H : Hp} {M : List (Addr × HO)} {m0 : Addr × HO} {p : Addr} {xs : List V} {y : V} {Q : VK} (w : W I H (m0 :: (p, .lst xs) :: M)) (hy : xs[xs.length - 1]? = some y) (q : ∀ H', W I H' (m0 :: (p, .lst xs.dropLast) :: M) → Q y H') : rPop (.ref p) [] H Q :=
  ⟨p, xs, y, rfl, rfl, w.at1, hy, q _ w.put1⟩
/-! ### a displayed dict of one pair -/
def DispQ (Q : VK) (p : Addr) (x y : V) (H2 : Hp) : Prop := H2 p = some (.dK []) ∧ ∃ kvs : List (Key × V), [(x, y)] = kvs.map (fun kv => (kV kv.1, kv.2)) ∧ kvs.length ≤ 15 ∧ Q (.ref p) (upd H2 p (.dK (mergeK [] kvs)))
section
variable {σ : L2.St} {I H : Hp} {M : List (Addr × HO)} {Q : VK} {tk tv : TE} {p : Addr} {y : V}
theorem s_disp1 (w : W I H M) (q : ∀ p H', I p = none → W I H' ((p, .dK []) :: M) → tk σ H' fun x H1 => tv σ H1 fun y H2 => DispQ Q p x y H2) : tDisp [(tk, tv)] σ H Q := fun p hp => q p _ (w.fresh hp) (w.newM hp)
theorem s_dispI {n : Int} (w : W I H ((p, .dK []) :: M)) (q : ∀ J H', Same I J → W J H' M → Is J (.ref p) .dict → Q (.ref p) H') : DispQ Q p (.int n) y H :=
  have w2 := w.put0 (o' := .dK (mergeK [] [(Sum.inl n, y)]))
  ⟨w.at0, [(Sum.inl n, y)], rfl, by simp, q _ _ w2.frzS0 w2.frz0 (.dct upd_same)⟩
theorem s_dispS {n : Str} (w : W I H ((p, .dK []) :: M)) (q : ∀ J H', Same I J → W J H' M → Is J (.ref p) .dict → Q (.ref p) H') : DispQ Q p (.str n) y H :=
  have w2 := w.put0 (o' := .dK (mergeK [] [(Sum.inr n, y)]))
  ⟨w.at0, [(Sum.inr n, y)], rfl, by simp, q _ _ w2.frzS0 w2.frz0 (.dct upd_same)⟩
end
def D.whole : D → Bool
  | .int _ => true
  | _ => false
/-- its kind is known to isinstance -/
def Ty (d : D) : Prop := ∃ a, d.tn = some a
end Fs

namespace Fs
open PySem PySem.Spec PyProof.Rows L2
/-! ### own classes -/
/-- what is asked of a class of the text -/
structure OwnC (K : PySem.W.Frag) (C : Addr) : Prop where
  cl : Cls K C
  ha : PySem.W.findIn K (.ref C) "__class__" = some (some (.builtin "object.__class__"))
  hn : PySem.W.specialIn K (.builtin "object.__class__") "__get__" = some (some (.builtin "getset_descriptor.__get__"))
  htk : PySem.W.takesIn K (.builtin "object.__class__") = some true
  hm : PySem.W.mroIn K C (.type "object") = some true
/-- a class that may be made, by its __init__ -/
structure Mak (P : Program) (w : World) (K : PySem.W.Frag) (mg : Str → Option Value) (base : Heap) (x : Str) (C : Addr) (k : Nat) (ps : List Str) (dvs : List V) (sp : Sp) : Prop where
  ex : ∃ (f : Addr) (fd : FuncData) (ds : List Value), Mk K C f ∧ FnOk P w K mg base CX0 k f fd ps sp ∧ mg x = some (.ref C) ∧ Binds K fd ps ds ∧ Vals dvs ds
/-- a method -/
structure Met (P : Program) (w : World) (K : PySem.W.Frag) (mg : Str → Option Value) (base : Heap) (m : Str) (C : Addr) (k : Nat) (ps : List Str) (dvs : List V) (sp : Sp) : Prop where
  ex : ∃ (f : Addr) (fd : FuncData) (ds : List Value), Cls K C ∧ Meth K C m f ∧ FnOk P w K mg base CX0 k f fd ps sp ∧ Binds K fd ps ds ∧ Vals dvs ds
section
variable {X : Cx} {x m : Str} {C : Addr} {p pos apos : Pos} {e o : Expr} {es : List Expr} {ta : TE} {t : TA} {k : Nat} {ps : List Str} {dvs : List V} {sp : Sp}
theorem pe_mk (c : Mak X.prog X.w X.K X.mg X.base x C k ps dvs sp) (hr : Room (k + 1) X.A) (hg : Gl X x) (ha : PA X (e :: es) t) (hdb : (x == ("__debug__" : Str)) = false := by decide)
    (he : starEach (e :: es) X.env = (false, eval e X.env) :: starEach es X.env := by rfl) (hpl : (backTo pos (starEach es X.env)).any (·.1) = false := by rfl) : PE X (.Call (.Name x p) (e :: es) [] pos) (tMake C sp dvs E0 t) := by
  obtain ⟨f, fd, ds, M, F, hm, hb, hd⟩ := c.ex
  exact pe_make M F hr hg hm hb hd pass0 ha hdb he hpl
theorem pe_mk0 (c : Mak X.prog X.w X.K X.mg X.base x C k ps dvs sp) (hr : Room (k + 1) X.A) (hg : Gl X x) (hdb : (x == ("__debug__" : Str)) = false := by decide) : PE X (.Call (.Name x p) [] [] pos) (tMake C sp dvs E0 tNil) := by
  obtain ⟨f, fd, ds, M, F, hm, hb, hd⟩ := c.ex
  exact pe_make0 M F hr hg hm hb hd pass0 hdb
theorem pe_met {pl : Sem Bool} (he : PE X o ta) (c : Met X.prog X.w X.K X.mg X.base m C k ps dvs sp) (hr : Room k X.A) (ha : PA X (e :: es) t)
    (hst : starEach (e :: es) X.env = (false, eval e X.env) :: starEach es X.env := by rfl) (hpl : (backTo pos (starEach es X.env)).any (·.1) = false := by rfl)
    (ht : eval (.Call (.Attribute o m apos) (e :: es) [] pos) X.env = (do
      let ov ← eval o X.env
      standAt apos.atName
      let (f, first) ← holding [ov] (getMethod ov m pl)
      callWith pos f first (backTo pos (starEach (e :: es) X.env)) (backToKw pos (keywordEach [] X.env))) := by rfl) :
    PE X (.Call (.Attribute o m apos) (e :: es) [] pos) (tMeth C m sp dvs E0 ta t) := by
  obtain ⟨f, fd, ds, c, hm, F, hb, hd⟩ := c.ex
  exact pe_meth he c hm F hr hb hd pass0 ha hst hpl ht
theorem pe_met0 {pl : Sem Bool} (he : PE X o ta) (c : Met X.prog X.w X.K X.mg X.base m C k ps dvs sp) (hr : Room k X.A)
    (ht : eval (.Call (.Attribute o m apos) [] [] pos) X.env = (do
      let ov ← eval o X.env
      standAt apos.atName
      let (f, first) ← holding [ov] (getMethod ov m pl)
      callWith pos f first (backTo pos (starEach [] X.env)) (backToKw pos (keywordEach [] X.env))) := by rfl) :
    PE X (.Call (.Attribute o m apos) [] [] pos) (tMeth C m sp dvs E0 ta tNil) := by
  obtain ⟨f, fd, ds, c, hm, F, hb, hd⟩ := c.ex
  exact pe_meth0 he c hm F hr hb hd pass0 ht
end
/-- a class made with keywords -/
structure MakK (P : Program) (w : World) (K : PySem.W.Frag) (mg : Str → Option Value) (base : Heap) (x : Str) (C : Addr) (k : Nat) (ps : List Str) (n : Nat) (ks : List Str) (gV : List V → List V → List V) (sp : Sp) : Prop where
  ex : ∃ (f : Addr) (fd : FuncData) (g : List Value → List Value → List Value), Mk K C f ∧ FnOk P w K mg base CX0 k f fd ps sp ∧ mg x = some (.ref C) ∧ KBn K fd ps (n + 1) ks g gV
section
variable {X : Cx} {x : Str} {C : Addr} {p pos : Pos} {e : Expr} {es : List Expr} {kws : List Keyword} {t tk : TA} {k n : Nat} {ps ks : List Str} {gV : List V → List V → List V} {sp : Sp}
theorem pe_mkK (c : MakK X.prog X.w X.K X.mg X.base x C k ps n ks gV sp) (hr : Room (k + 1) X.A) (hg : Gl X x) (ha : PA X (e :: es) t) (hkw : PK X kws tk)
    (hall : (backToKw pos (keywordEach kws X.env)).all (·.1.isSome) = true := by rfl) (hks : (backToKw pos (keywordEach kws X.env)).filterMap (·.1) = ks := by rfl) (hdb : (x == ("__debug__" : Str)) = false := by decide)
    (he : starEach (e :: es) X.env = (false, eval e X.env) :: starEach es X.env := by rfl) (hpl : ((backTo pos (starEach (e :: es) X.env)).any (·.1) || (backToKw pos (keywordEach kws X.env)).any (·.1.isNone)) = false := by rfl) :
    PE X (.Call (.Name x p) (e :: es) kws pos) (tMakeK C n ks.length sp gV E0 t tk) := by
  obtain ⟨f, fd, g, M, F, hm, hb⟩ := c.ex
  exact pe_makeK M F hr hg hm hb pass0 ha hkw hall hks hdb he hpl
theorem pe_mkK0 (c : MakK X.prog X.w X.K X.mg X.base x C k ps 0 ks gV sp) (hr : Room (k + 1) X.A) (hg : Gl X x) (hkw : PK X kws tk)
    (hall : (backToKw pos (keywordEach kws X.env)).all (·.1.isSome) = true := by rfl) (hks : (backToKw pos (keywordEach kws X.env)).filterMap (·.1) = ks := by rfl) (hdb : (x == ("__debug__" : Str)) = false := by decide)
    (hpl : ((backTo pos (starEach [] X.env)).any (·.1) || (backToKw pos (keywordEach kws X.env)).any (·.1.isNone)) = false := by rfl) :
    PE X (.Call (.Name x p) [] kws pos) (tMakeK C 0 ks.length sp gV E0 tNil tk) := by
  obtain ⟨f, fd, g, M, F, hm, hb⟩ := c.ex
  exact pe_makeK0 M F hr hg hm hb pass0 hkw hall hks hdb hpl
end
theorem Vals.dt {vs : List V} {us : List Value} (r : Vals vs us) (j : Nat) : Vals ((vs.drop j).take 1) ((us.drop j).take 1) := by
  induction r generalizing j with
  | nil => simp; exact .nil
  | cons h r ih =>
    cases j with
    | zero => exact .cons h .nil
    | succ j => exact ih j
theorem kps_fld {X : Cx} {K : PySem.W.Frag} {o value : Expr} {f : Str} {pos pos' : Pos} {ta tv : TE} (h : X.K = K) (ha : PE X o ta) (hv : PE X value tv) (hs : swapsWith value (some (.Attribute o f pos')) pos.line X.env = pure false) : PS X (.Assign [.Attribute o f pos'] value pos) (sFld K ta tv f) := h ▸ ps_fld ha hv hs
/-! steps -/
def MakeQ (C : Addr) (sp : Sp) (E : XK) (Q : VK) (vs : List V) (H1 : Hp) : Prop := ∀ x dx, H1 x = none → H1 dx = none → dx ≠ x → sp (.ref x :: vs) (upd (upd H1 dx (.own x)) x (.ins C dx [])) (fun v H2 => v = .non ∧ Q (.ref x) H2) E
def SfQ (K : PySem.W.Frag) (f : Str) (G : Ends) (σ : L2.St) (x y : V) (H2 : Hp) : Prop := ∃ a C dx fs, x = .ref a ∧ H2 a = some (.ins C dx fs) ∧ Cls K C ∧ NoAttr K C f ∧ fs.length < 1000 ∧ G.nx σ (upd H2 a (.ins C dx (putF f y fs)))
def MethQ (C : Addr) (m : Str) (x : V) (H : Hp) (A : Prop) : Prop := ∃ a dx fs, x = .ref a ∧ H a = some (.ins C dx fs) ∧ fs.lookup m = none ∧ A
theorem putF_new {f : Str} {v : V} : ∀ {fs : List (Str × V)}, f ∉ fs.map (·.1) → putF f v fs = fs ++ [(f, v)]
  | [], _ => rfl
  | (g, x) :: r, h => by
    have h1 : ¬ g = f := fun e => h (by rw [e]; exact List.mem_cons_self)
    have h2 : f ∉ r.map (·.1) := fun e => h (List.mem_cons_of_mem _ e)
    show (if g = f then _ else (g, x) :: putF f v r) = _
    rw [if_neg h1, putF_new h2]
    rfl
section
variable {K : PySem.W.Frag} {σ : L2.St} {I H : Hp} {M : List (Addr × HO)} {Q : VK} {G : Ends} {ta tv : TE} {tA : TA} {C : Addr} {sp : Sp} {dvs vs : List V} {E : XK} {m f : Str} {v x y : V} {fs : List (Str × D)} {L : List Str}
theorem s_make (h : tA σ H fun vs H1 => MakeQ C sp E Q (vs ++ dvs) H1) : tMake C sp dvs E tA σ H Q := h
theorem s_makeW (w : W I H M) (q : ∀ x dx H', I x = none → W I H' ((x, .ins C dx []) :: M) → sp (.ref x :: vs) H' (fun v H2 => v = .non ∧ Q (.ref x) H2) E) : MakeQ C sp E Q vs H := fun x dx hx hd ne => by
  have w1 : W I (upd H dx (.own x)) M := w.more (same_new hd)
  have hx1 : upd H dx (.own x) x = none := by rw [upd_ne ne.symm]; exact hx
  exact q x dx _ (w.fresh hx) (w1.newM hx1)
def MakeKQ (C : Addr) (sp : Sp) (gV : List V → List V → List V) (E : XK) (Q : VK) (vs zs : List V) (H2 : Hp) : Prop := ∀ x dx, H2 x = none → H2 dx = none → dx ≠ x → sp (gV (.ref x :: vs) zs) (upd (upd H2 dx (.own x)) x (.ins C dx [])) (fun v H3 => v = .non ∧ Q (.ref x) H3) E
theorem s_makeK {gV : List V → List V → List V} {n m : Nat} {tK : TA} (h : tA σ H fun vs H1 => tK σ H1 fun zs H2 => vs.length = n ∧ zs.length = m ∧ MakeKQ C sp gV E Q vs zs H2) : tMakeK C n m sp gV E tA tK σ H Q := h
theorem s_mkKQ {gV : List V → List V → List V} {zs us : List V} (hg : ∀ x, gV (x :: vs) zs = x :: us) (h : MakeQ C sp E Q us H) : MakeKQ C sp gV E Q vs zs H := fun x dx a b c => by rw [hg]; exact h x dx a b c
theorem s_makeW2 {m0 : Addr × HO} (w : W I H (m0 :: M)) (q : ∀ x dx H', I x = none → W I H' ((x, .ins C dx []) :: m0 :: M) → sp (.ref x :: vs) H' (fun v H2 => v = .non ∧ Q (.ref x) H2) E) : MakeQ C sp E Q vs H := s_makeW w q
theorem s_sfld (h : tv σ H fun y H1 => ta σ H1 fun x H2 => SfQ K f G σ x y H2) : sFld K ta tv f G σ H := h
theorem s_sfW {a dx : Addr} {gs : List (Str × V)} (w : W I H ((a, .ins C dx gs) :: M)) (hc : Cls K C) (hn : ∀ f ∈ L, NoAttr K C f) (hf : f ∈ L) (hg : gs.length < 1000) (q : ∀ H', W I H' ((a, .ins C dx (putF f y gs)) :: M) → G.nx σ H') : SfQ K f G σ (.ref a) y H :=
  ⟨a, C, dx, gs, rfl, w.at0, hc, hn f hf, hg, q _ w.put0⟩
theorem s_meth (h : ta σ H fun x H1 => MethQ C m x H1 (tA σ H1 fun vs H2 => sp (x :: (vs ++ dvs)) H2 Q E)) : tMeth C m sp dvs E ta tA σ H Q := h
theorem s_methAt {A : Prop} (w : W I H M) (h : Is I v (.obj C fs)) (hm : m ∉ fs.map (·.1)) (q : A) : MethQ C m v H A := by
  obtain ⟨p, dx, vs, rfl, hp, a⟩ := h.obj_ex
  refine ⟨p, dx, vs, rfl, w.imm _ _ hp, a.no ?_, q⟩
  cases e : fs.lookup m with
  | none => rfl
  | some d =>
    exfalso
    apply hm
    clear a hp h
    induction fs with
    | nil => cases e
    | cons g r ih =>
      rw [List.lookup_cons] at e
      cases hc : m == g.1 with
      | true => rw [beq_iff_eq.mp hc]; exact List.mem_cons_self
      | false => rw [hc] at e; exact List.mem_cons_of_mem _ (ih (fun q => hm (List.mem_cons_of_mem _ q)) e)
theorem s_fldA {d : D} (w : W I H M) (h : Is I v (.obj C fs)) (hc : Cls K C) (hn : ∀ f ∈ L, NoAttr K C f) (hf : f ∈ L) (hd : fs.lookup f = some d) (q : ∀ u, Is I u d → Q u H) :
    ∃ a C dx fs u, v = .ref a ∧ H a = some (.ins C dx fs) ∧ Cls K C ∧ NoAttr K C f ∧ fs.lookup f = some u ∧ Q u H := s_fldAt w h hc (hn f hf) hd q
def FldQ (K : PySem.W.Frag) (f : Str) (Q : VK) (x : V) (H1 : Hp) : Prop := tFld K (fun _ H Q => Q x H) f [] H1 Q
theorem s_fldQ (h : ta σ H fun x H1 => FldQ K f Q x H1) : tFld K ta f σ H Q := h
theorem s_fldI {d : D} (w : W I H M) (h : Is I v (.obj C fs)) (hc : Cls K C) (hn : ∀ f ∈ L, NoAttr K C f) (hf : f ∈ L) (hd : fs.lookup f = some d) (q : ∀ u, Is I u d → Q u H) : FldQ K f Q v H := s_fldA w h hc hn hf hd q
theorem Is.tyo (o : OwnC K C) (w : W I H M) (h : Is I v (.obj C fs)) : TyX K H v (.ref C) := by
  obtain ⟨p, dx, vs, rfl, hp, a⟩ := h.obj_ex
  exact .base (.ins (w.imm _ _ hp) o.cl o.ha o.hn o.htk o.hm)
theorem s_isiO {b : String} {k : Bool} (o : OwnC K C) (w : W I H M) (h : Is I v (.obj C fs)) (hb : PySem.W.kitOne K (.ref C) (.type b) = some k) (q : Q (.bl k) H) : rIsiU K [v, .ty b] H Q :=
  .inl ⟨v, .ty b, .ref C, .type b, k, rfl, .ty b, h.tyo o w, hb, q⟩
theorem s_isiC {a : String} {d : D} {k : Bool} (w : W I H M) (h : Is I v d) (e : d.tn = some a) (hb : PySem.W.kitOne K (.type a) (.ref C) = some k) (q : Q (.bl k) H) : rIsiU K [v, .ref C] H Q :=
  .inl ⟨v, .ref C, .type a, .ref C, k, rfl, .own C, h.tyx w e, hb, q⟩
theorem s_isiOC {C' : Addr} {k : Bool} (o : OwnC K C) (w : W I H M) (h : Is I v (.obj C fs)) (hb : PySem.W.kitOne K (.ref C) (.ref C') = some k) (q : Q (.bl k) H) : rIsiU K [v, .ref C'] H Q :=
  .inl ⟨v, .ref C', .ref C, .ref C', k, rfl, .own C', h.tyo o w, hb, q⟩
end
theorem s_intN {n : Int} {A B : Prop} (h : B) : if decide (V.int n = V.non) = true then A else B := s_iteDn (fun q => nomatch q) h
theorem s_refN {n : Addr} {A B : Prop} (h : B) : if decide (V.ref n = V.non) = true then A else B := s_iteDn (fun q => nomatch q) h
theorem s_nonN {A B : Prop} (h : A) : if decide (V.non = V.non) = true then A else B := s_iteDp rfl h
/-- an own class is no built-in one -/
structure KitC (K : PySem.W.Frag) (C : Addr) : Prop where
  i : PySem.W.kitOne K (.ref C) (.type "int") = some false
  b : PySem.W.kitOne K (.ref C) (.type "bool") = some false
  t : PySem.W.kitOne K (.ref C) (.type "tuple") = some false
  l : PySem.W.kitOne K (.ref C) (.type "list") = some false
  s : PySem.W.kitOne K (.ref C) (.type "str") = some false
  d : PySem.W.kitOne K (.ref C) (.type "dict") = some false
theorem kit_mro {K : PySem.W.Frag} {C : Addr} {b : String} {r : Bool} (hk : PySem.W.kitMeta b = true) (hm : PySem.W.mroIn K C (.type b) = some r) : PySem.W.kitOne K (.ref C) (.type b) = some r := by
  have e : ¬ (Value.ref C == Value.type b) = true := fun h => by cases (beq_iff_eq.mp h)
  show (if (Value.ref C == Value.type b) = true then some true else PySem.W.kitCls K (.ref C) (.type b)) = some r
  rw [if_neg e]
  show (if PySem.W.kitMeta b = true then PySem.W.subIn K (.ref C) (.type b) else none) = some r
  rw [if_pos hk]
  exact hm
/-- of a known kind, or an instance that is no int -/
def TyK (K : PySem.W.Frag) (d : D) : Prop := Ty d ∨ ∃ C fs, d = .obj C fs ∧ OwnC K C ∧ PySem.W.kitOne K (.ref C) (.type "int") = some false
theorem TyK.of {K : PySem.W.Frag} {d : D} (h : Ty d) : TyK K d := .inl h
/-- a part -/
abbrev prt (C : Addr) (b l : Int) (g : D) (w s : Int) : D := .obj C [("base", .int b), ("least", .int l), ("greatest", g), ("grow", .int w), ("shrink", .int s)]
end Fs

namespace Fs
open PySem PySem.Spec PyProof.Rows L2
/-! ### texts -/
/-- a text times a number: here only its length is told -/
def rMulS : R2 := fun x y H Q => ∃ (z : Str) (n : Int), x = .str z ∧ y = .int n ∧ 0 ≤ n ∧ n ≤ 1000 ∧ z.length ≤ 1000 ∧ ∀ z' : Str, z'.length ≤ z.length * n.toNat → Q (.str z') H
theorem rep_len (x : Array Nat) : ∀ (n : Nat) (acc : Array Nat), ((List.replicate n x).foldl (· ++ ·) acc).size = acc.size + n * x.size
  | 0, acc => by simp
  | n + 1, acc => by
    rw [List.replicate_succ, List.foldl_cons, rep_len x n, Array.size_append, Nat.add_mul]
    omega
theorem op_mulS {X : Cx} : OpR X (binaryOp .Mult) rMulS := by
  intro pins s σ H x y v u Q I rx ry h
  obtain ⟨z, n, rfl, rfl, h0, h1, h2, q⟩ := h
  obtain ⟨t, rfl⟩ := rx
  obtain ⟨t', rfl⟩ := ry
  have hz : z.length * n.toNat ≤ 1000 * 1000 := Nat.mul_le_mul h2 (by omega)
  refine PySem.P.mul_str (by simp; omega) (fun hn _ => ?_) (fun hn _ => ?_) ?_
  · have : (1000 : Int) ≤ (2 ^ 63 - 1) / n := by
      refine Int.le_ediv_of_mul_le (by omega) ?_
      have : 1000 * n ≤ 1000 * 1000 := Int.mul_le_mul_of_nonneg_left h1 (by decide)
      omega
    have h3 : (z.length : Int) ≤ 1000 := by omega
    omega
  · exact decide_eq_false (by
      have : (1000 * 1000 : Nat) ≤ sizeLine := by decide
      omega)
  · by_cases hn : n < 1
    · rw [if_pos hn]
      exact ⟨by decide, .str Str.empty, H, I.tok _, ⟨_, rfl⟩, q _ (Nat.zero_le _)⟩
    · rw [if_neg hn]
      by_cases hc : (n == 1 || z.length == 0) = true
      · rw [if_pos hc]
        refine ⟨.str z, H, I, ⟨_, rfl⟩, q _ ?_⟩
        have : 1 ≤ n.toNat := by omega
        exact Nat.le_mul_of_pos_right _ this
      · rw [if_neg hc]
        have e : Str.length ⟨(List.replicate n.toNat z.cps).foldl (· ++ ·) #[]⟩ = n.toNat * z.length := by
          have := rep_len z.cps n.toNat #[]
          show Array.size _ = _
          rw [this]
          simp [Str.length]
        have : (1000 * 1000 : Nat) ≤ sizeLine := by decide
        rw [Nat.mul_comm] at hz
        exact ⟨by rw [e]; omega, .str _, H, I.tok _, ⟨_, rfl⟩, q _ (by rw [e, Nat.mul_comm]; exact Nat.le_refl _)⟩
section
variable {K : PySem.W.Frag} {X : Cx} {σ : L2.St} {I H : Hp} {M : List (Addr × HO)} {Q : VK} {G : Ends} {z y : Str} {n : Int} {te : TE} {g : TG} {tb : TS}
theorem small_line {n : Nat} (h : n ≤ 100000) : n ≤ sizeLine := Nat.le_trans h (by decide)
theorem s_mulS (h0 : 0 ≤ n) (h1 : n ≤ 1000) (h2 : z.length ≤ 1000) (q : ∀ z' : Str, z'.length ≤ z.length * n.toNat → Q (.str z') H) : rMulS (.str z) (.int n) H Q := ⟨z, n, rfl, rfl, h0, h1, h2, q⟩
theorem s_lenS (hz : z.length ≤ 100000) (q : Q (.int z.length) H) : rLenU K [.str z] H Q := .inr ⟨z, rfl, small_line hz, q⟩
theorem s_addT (hz : z.length + y.length ≤ 100000) (q : Q (.str (z ++ y)) H) : rAddU K (.str z) (.str y) H Q := .inr (.inl ⟨z, y, rfl, rfl, small_line hz, q⟩)
theorem s_ixS (h0 : 0 ≤ n) (h1 : n < z.length) (hz : z.length ≤ 100000) (q : ∀ c, Q (.str ⟨#[c]⟩) H) : rIx K (.str z) (.int n) H Q := by
  obtain ⟨c, _, e⟩ := at_nat (l := z.cps.toList) h0 (by rw [Array.length_toList]; exact h1)
  exact .inr (.inr ⟨z, n, c, rfl, rfl, small_line hz, e, q c⟩)
theorem cut_len {lo hi : Option Int} : (cutS z lo hi).length ≤ z.length := by
  show Array.size _ ≤ Array.size _
  simp only [cutS, List.size_toArray, List.length_take, List.length_drop, Array.length_toList]
  omega
theorem s_cutS {lo hi : Option Int} (hz : z.length ≤ 100000) (q : ∀ z' : Str, z'.length ≤ z.length → Q (.str z') H) : rSlS (.str z) lo hi H Q := ⟨z, rfl, small_line hz, q _ cut_len⟩
theorem s_ltS (q : Q (.bl (decide (z.cps.toList < y.cps.toList))) H) : (fun x y H Q => ∃ i j, x = V.str i ∧ y = V.str j ∧ Q (V.bl (decide (i.cps.toList < j.cps.toList))) H : R2) (.str z) (.str y) H Q := ⟨z, y, rfl, rfl, q⟩
def rLtS : R2 := fun x y H Q => ∃ i j, x = V.str i ∧ y = V.str j ∧ Q (.bl (decide (i.cps.toList < j.cps.toList))) H
def rGtS : R2 := fun x y H Q => ∃ i j, x = V.str i ∧ y = V.str j ∧ Q (.bl (decide (j.cps.toList < i.cps.toList))) H
def rNiS : R2 := fun x y H Q => ∃ (c : Nat) (z : Str), x = .str ⟨#[c]⟩ ∧ y = .str z ∧ Q (.bl (!decide (c ∈ z.cps.toList))) H
theorem u_ltS : OpR X (compareOp .Lt) rLtS := op_lt_str
theorem u_gtS : OpR X (compareOp .Gt) rGtS := op_gt_str
theorem u_niS : OpR X (compareOp .NotIn) rNiS := op_notIn_sign
theorem s_lts (q : Q (.bl (decide (z.cps.toList < y.cps.toList))) H) : rLtS (.str z) (.str y) H Q := ⟨z, y, rfl, rfl, q⟩
theorem s_gts (q : Q (.bl (decide (y.cps.toList < z.cps.toList))) H) : rGtS (.str z) (.str y) H Q := ⟨z, y, rfl, rfl, q⟩
theorem s_nis {c : Nat} (q : Q (.bl (!decide (c ∈ z.cps.toList))) H) : rNiS (.str ⟨#[c]⟩) (.str z) H Q := ⟨c, z, rfl, rfl, q⟩
/-- sep.join(list) : only the length is told -/
def rJoin (K : PySem.W.Frag) : V → List V → Hp → VK → Prop := fun x xs H Q => ∃ a p, ∃ ys : List Str, x = .str a ∧ xs = [.ref p] ∧ (SqL K H p (ys.map V.str) ∨ SqT K H p (ys.map V.str)) ∧
    (ys.map (·.length)).sum + ys.length * a.length ≤ 16777216 ∧ Q (.str (Txt.join a ys)) H
theorem k_join {o e : Expr} {to te : TE} {apos pos : Pos} (h : X.K = K) (ho : PE X o to) (he : PE X e te) (hs : starEach [e] X.env = [(false, eval e X.env)] := by rfl) (hbase : attributeBase o "join" X.env (eval o X.env) = eval o X.env := by rfl) (hline : (apos.endLine == pos.line) = true := by rfl) :
    PE X (.Call (.Attribute o "join" apos) [e] [] pos) (tM1 (rJoin K) to te) := h ▸ pe_join ho he hs hbase hline
theorem s_m1 {r : V → List V → Hp → VK → Prop} {to : TE} (h : to σ H fun x H1 => (∃ a, x = .str a) ∧ te σ H1 fun y H2 => r x [y] H2 Q) : tM1 r to te σ H Q := h
/-- for c in text -/
theorem s_iS {R : It → Hp → Prop} (h : te σ H fun v H1 => ∃ x, v = .str x ∧ R (Its x) H1) : iStr te σ H R := h
theorem s_forS (Pv : Nat → L2.St → Hp → Prop) (h0 : Pv 0 σ H)
    (hs : ∀ i c σ H, z.cps.toList[i]? = some c → Pv i σ H → g (.str ⟨#[c]⟩) σ H fun σ2 H2 => tb { G with nx := Pv (i + 1), ct := Pv (i + 1), bk := G.nx } σ2 H2) (hd : ∀ σ H, Pv z.length σ H → G.nx σ H) :
    ∃ x, V.str z = .str x ∧ ∃ W : Nat → Nat → L2.St → Hp → Prop, (∃ m, W 0 m σ H) ∧ ∀ i m σ H, W i m σ H →
      ((Its x).stop i H ∧ G.nx σ H) ∨ ((Its x).go i H ∧ ∃ N : L2.St → Hp → Prop, (∀ σ' H', N σ' H' → ∃ m', m' < m ∧ W (i + 1) m' σ' H') ∧ ∀ v H', (Its x).yld i H v H' → g v σ H' fun σ2 H2 => tb { G with nx := N, ct := N, bk := G.nx } σ2 H2) := by
  refine ⟨z, rfl, ?_⟩
  refine for_it walk_str Pv h0 (fun i σ H _ q => trivial) (fun i x σ H H' hi q y => ?_) (fun σ H q => hd σ H q)
  obtain ⟨rfl, c, e, rfl⟩ := y
  exact hs i c σ _ (by rw [Array.getElem?_toList]; exact e) q
end
end Fs

namespace Fs
open PySem PySem.Spec PyProof.Rows L2
/-! ### what is known, as a list of facts; what may be changed, by what it holds -/
inductive ME where
  | raw (p : Addr) (o : HO)
  | ml (p : Addr) (ds : List D)
  | mi (p C : Addr) (fs : List (Str × D))
  | bag (b : Addr)
  | dk (p : Addr) (kvs : List (Key × D))
  | dt (p : Addr) (kvs : List (List Key × D))
  /-- a cell that is shown; a table of code objects, all of one name -/
  | cel (c : Addr) (v : V)
  | tb (p : Addr) (q : Str)
/-- pairs with the same keys -/
inductive IsP (I : Hp) {κ : Type} : List (κ × V) → List (κ × D) → Prop
  | nil : IsP I [] []
  | cons {f : κ} {v : V} {d : D} {vs : List (κ × V)} {ds : List (κ × D)} : Is I v d → IsP I vs ds → IsP I ((f, v) :: vs) ((f, d) :: ds)
theorem IsP.mono {I J : Hp} {κ : Type} (s : Same I J) : ∀ {vs : List (κ × V)} {ds : List (κ × D)}, IsP I vs ds → IsP J vs ds
  | _, _, .nil => .nil
  | _, _, .cons h a => .cons (h.mono s) (IsP.mono s a)
def topO : HO := .ext fun _ => True
def CelO (o : Obj) (v : V) : Prop := ∃ u, o.data = .cell (some u) ∧ RelV v u
inductive Cn (I : Hp) : ME → Addr × HO → Prop
  | raw {p : Addr} {o : HO} (hn : ∀ vs, o ≠ .tup vs) : Cn I (.raw p o) (p, o)
  | ml {p : Addr} {vs : List V} {ds : List D} : IsA I vs ds → Cn I (.ml p ds) (p, .lst vs)
  | mi {p C dx : Addr} {vs : List (Str × V)} {fs : List (Str × D)} : IsF I vs fs → Cn I (.mi p C fs) (p, .ins C dx vs)
  | bag {b c : Addr} {o : HO} : Bag I c o → Cn I (.bag b) (b, o)
  | dk {p : Addr} {vs : List (Key × V)} {ds : List (Key × D)} : IsP I vs ds → Cn I (.dk p ds) (p, .dK vs)
  | dt {p : Addr} {vs : List (List Key × V)} {ds : List (List Key × D)} : IsP I vs ds → Cn I (.dt p ds) (p, .dT vs)
  | cel {c : Addr} {v : V} {o : Obj} : CelO o v → Cn I (.cel c v) (c, .frz o topO)
  | tb {p : Addr} {q : Str} {ps : Array Value} : TriplesOk ps.toList → (∀ (pos : Pos) (cv : Value), codeAmong pos ps.toList = some cv → ∃ c, cv = .ref c ∧ I c = some (LamX.CodeO c q)) → Cn I (.tb p q) (p, .tbl ps)
theorem Cn.mono {I J : Hp} {e : ME} {m : Addr × HO} (s : Same I J) (h : Cn I e m) : Cn J e m := by
  cases h with
  | raw hn => exact .raw hn
  | ml a => exact .ml (a.mono s)
  | mi a => exact .mi (a.mono s)
  | bag b => exact .bag (b.mono s)
  | dk b => exact .dk (b.mono s)
  | dt b => exact .dt (b.mono s)
  | cel b => exact .cel b
  | tb a b => exact .tb a fun pos cv e => let ⟨c, h1, h2⟩ := b pos cv e; ⟨c, h1, s _ _ h2⟩
inductive CnA (I : Hp) : List ME → List (Addr × HO) → Prop
  | nil : CnA I [] []
  | cons {e : ME} {m : Addr × HO} {M : List ME} {Mc : List (Addr × HO)} : Cn I e m → CnA I M Mc → CnA I (e :: M) (m :: Mc)
theorem CnA.mono {I J : Hp} (s : Same I J) : ∀ {M : List ME} {Mc : List (Addr × HO)}, CnA I M Mc → CnA J M Mc
  | _, _, .nil => .nil
  | _, _, .cons h a => .cons (h.mono s) (CnA.mono s a)
structure Wf (F : List (V × D)) (H : Hp) (M : List ME) : Prop where
  ex : ∃ I Mc, W I H Mc ∧ CnA I M Mc ∧ ∀ f ∈ F, Is I f.1 f.2
/-- one is changed -/
inductive Foc : List ME → ME → List ME → ME → Prop
  | here {e e' : ME} {M : List ME} : Foc (e :: M) e (e' :: M) e'
  | there {e e' m : ME} {M M' : List ME} : Foc M e M' e' → Foc (m :: M) e (m :: M') e'
/-- one is taken out -/
inductive Rem : List ME → ME → List ME → Prop
  | here {e : ME} {M : List ME} : Rem (e :: M) e M
  | there {e m : ME} {M M' : List ME} : Rem M e M' → Rem (m :: M) e (m :: M')
section
variable {I H : Hp} {M M' : List ME} {Mc : List (Addr × HO)} {e e' : ME}
theorem CnA.foc (a : CnA I M Mc) (f : Foc M e M' e') : ∃ M1 m M2, Mc = M1 ++ m :: M2 ∧ Cn I e m ∧ ∀ J m', Same I J → Cn J e' m' → CnA J M' (M1 ++ m' :: M2) := by
  induction f generalizing Mc with
  | here =>
    cases a with
    | cons h a => exact ⟨[], _, _, rfl, h, fun J m' s h' => .cons h' (a.mono s)⟩
  | there f ih =>
    cases a with
    | cons h a =>
      obtain ⟨M1, m, M2, rfl, h1, h2⟩ := ih a
      exact ⟨_ :: M1, m, M2, rfl, h1, fun J m' s h' => .cons (h.mono s) (h2 J m' s h')⟩
theorem CnA.rem (a : CnA I M Mc) (f : Rem M e M') : ∃ M1 m M2, Mc = M1 ++ m :: M2 ∧ Cn I e m ∧ CnA I M' (M1 ++ M2) := by
  induction f generalizing Mc with
  | here =>
    cases a with
    | cons h a => exact ⟨[], _, _, rfl, h, a⟩
  | there f ih =>
    cases a with
    | cons h a =>
      obtain ⟨M1, m, M2, rfl, h1, h2⟩ := ih a
      exact ⟨_ :: M1, m, M2, rfl, h1, .cons h h2⟩
theorem CnA.mem (a : CnA I M Mc) (h : e ∈ M) : ∃ m, m ∈ Mc ∧ Cn I e m := by
  induction a with
  | nil => cases h
  | cons h1 a ih =>
    rcases List.mem_cons.mp h with rfl | h
    · exact ⟨_, List.mem_cons_self, h1⟩
    · obtain ⟨m, q1, q2⟩ := ih h
      exact ⟨m, List.mem_cons_of_mem _ q1, q2⟩
theorem CnA.sub (a : CnA I M Mc) (s : List.Sublist M' M) : ∃ Mc', List.Sublist Mc' Mc ∧ CnA I M' Mc' := by
  induction s generalizing Mc with
  | slnil => cases a; exact ⟨[], .slnil, .nil⟩
  | cons _ s ih =>
    cases a with
    | cons h a =>
      obtain ⟨Mc', h1, h2⟩ := ih a
      exact ⟨Mc', .cons _ h1, h2⟩
  | cons_cons _ s ih =>
    cases a with
    | cons h a =>
      obtain ⟨Mc', h1, h2⟩ := ih a
      exact ⟨_ :: Mc', .cons_cons _ h1, .cons h h2⟩
theorem CnA.perm {M' : List ME} (p : List.Perm M M') : ∀ {Mc : List (Addr × HO)}, CnA I M Mc → ∃ Mc', List.Perm Mc Mc' ∧ CnA I M' Mc' := by
  induction p with
  | nil => intro Mc a; exact ⟨Mc, .refl _, a⟩
  | cons x p ih =>
    intro Mc a
    cases a with
    | cons h a =>
      obtain ⟨Mc', h1, h2⟩ := ih a
      exact ⟨_ :: Mc', .cons _ h1, .cons h h2⟩
  | swap x y l =>
    intro Mc a
    cases a with
    | cons h a =>
      cases a with
      | cons h' a => exact ⟨_, .swap _ _ _, .cons h' (.cons h a)⟩
  | trans p q ih1 ih2 =>
    intro Mc a
    obtain ⟨M1, h1, a1⟩ := ih1 a
    obtain ⟨M2, h2, a2⟩ := ih2 a1
    exact ⟨M2, h1.trans h2, a2⟩
theorem W.subl {Mc' : List (Addr × HO)} (w : W I H Mc) (s : List.Sublist Mc' Mc) : W I H Mc' := ⟨w.imm, fun x hx => w.mu x (s.subset hx), w.nd.sublist (s.map _)⟩
theorem W.perm {Mc' : List (Addr × HO)} (w : W I H Mc) (s : List.Perm Mc Mc') : W I H Mc' := ⟨w.imm, fun x hx => w.mu x (s.mem_iff.mpr hx), (s.map _).nodup_iff.mp w.nd⟩
end
/-- known -/
inductive Rk (F : List (V × D)) (M : List ME) : V → D → Prop
  | mem {v : V} {d : D} : (v, d) ∈ F → Rk F M v d
  | int (n : Int) : Rk F M (.int n) (.int n)
  | bl (n : Bool) : Rk F M (.bl n) (.bl n)
  | str (n : Str) : Rk F M (.str n) (.str n)
  | non : Rk F M .non .non
  | ml {p : Addr} {ds : List D} : .ml p ds ∈ M → Rk F M (.ref p) (.lst ds)
  | mi {p C : Addr} {fs : List (Str × D)} : .mi p C fs ∈ M → Rk F M (.ref p) (.obj C fs)
/-- known for good -/
inductive Kn (F : List (V × D)) : V → D → Prop
  | mem {v : V} {d : D} : (v, d) ∈ F → Kn F v d
  | int (n : Int) : Kn F (.int n) (.int n)
  | bl (n : Bool) : Kn F (.bl n) (.bl n)
  | str (n : Str) : Kn F (.str n) (.str n)
  | non : Kn F .non .non
  | ty (n : String) : Kn F (.ty n) (.ty n)
  | ref (a : Addr) : Kn F (.ref a) (.ref a)
inductive KnA (F : List (V × D)) : List V → List D → Prop
  | nil : KnA F [] []
  | cons {v : V} {d : D} {vs : List V} {ds : List D} : Kn F v d → KnA F vs ds → KnA F (v :: vs) (d :: ds)
/-- all facts of F' are among F's -/
def KS (F' F : List (V × D)) : Prop := ∀ f ∈ F', Kn F f.1 f.2
theorem KS.nil {F : List (V × D)} : KS [] F := fun _ h => nomatch h
theorem KS.refl {F : List (V × D)} : KS F F := fun _ h => .mem h
theorem KS.cons {F F' : List (V × D)} {v : V} {d : D} (h : Kn F v d) (r : KS F' F) : KS ((v, d) :: F') F := fun f hf => by
  rcases List.mem_cons.mp hf with rfl | hf
  · exact h
  · exact r f hf
theorem Kn.more {F : List (V × D)} {g : V × D} {v : V} {d : D} (h : Kn F v d) : Kn (g :: F) v d := by
  cases h with
  | mem h => exact .mem (List.mem_cons_of_mem _ h)
  | int n => exact .int n
  | bl n => exact .bl n
  | str n => exact .str n
  | non => exact .non
  | ty n => exact .ty n
  | ref a => exact .ref a
theorem KS.drop {F F' : List (V × D)} {g : V × D} (r : KS F' F) : KS F' (g :: F) := fun f hf => (r f hf).more
section
variable {I H H' : Hp} {F F' : List (V × D)} {M M' : List ME} {Mc : List (Addr × HO)} {v x y : V} {d : D} {ds : List D} {vs xs : List V}
theorem Kn.is (hF : ∀ f ∈ F, Is I f.1 f.2) (h : Kn F v d) : Is I v d := by
  cases h with
  | mem h => exact hF _ h
  | int n => exact .int n
  | bl n => exact .bl n
  | str n => exact .str n
  | non => exact .non
  | ty n => exact .ty n
  | ref a => exact .ref a
theorem KnA.is (hF : ∀ f ∈ F, Is I f.1 f.2) : ∀ {vs : List V} {ds : List D}, KnA F vs ds → IsA I vs ds
  | _, _, .nil => .nil
  | _, _, .cons h a => .cons (h.is hF) (KnA.is hF a)
theorem Rk.of (h : Kn F v d) (hd : (∃ n, d = .ref n) ∨ (∃ n, d = .ty n) → False) : Rk F M v d := by
  cases h with
  | mem h => exact .mem h
  | int n => exact .int n
  | bl n => exact .bl n
  | str n => exact .str n
  | non => exact .non
  | ty n => exact (hd (.inr ⟨_, rfl⟩)).elim
  | ref a => exact (hd (.inl ⟨_, rfl⟩)).elim
/-- what is known is there to be read -/
theorem Rk.rd (w : W I H Mc) (a : CnA I M Mc) (hF : ∀ f ∈ F, Is I f.1 f.2) (h : Rk F M v d) : Is H v d := by
  cases h with
  | mem h => exact (hF _ h).mono w.imm
  | int n => exact .int n
  | bl n => exact .bl n
  | str n => exact .str n
  | non => exact .non
  | ml h =>
    obtain ⟨m, h1, h2⟩ := a.mem h
    cases h2 with
    | ml b => exact .lst (w.mu _ h1).1 (b.mono w.imm)
  | mi h =>
    obtain ⟨m, h1, h2⟩ := a.mem h
    cases h2 with
    | mi b => exact .obj (w.mu _ h1).1 (b.mono w.imm)
theorem Rk.lst (w : W I H Mc) (a : CnA I M Mc) (hF : ∀ f ∈ F, Is I f.1 f.2) (h : Rk F M v (.lst ds)) : ∃ p vs, v = .ref p ∧ H p = some (.lst vs) ∧ IsA I vs ds := by
  cases h with
  | mem h =>
    obtain ⟨p, vs, e, h1, h2⟩ := (hF _ h).lst_ex
    exact ⟨p, vs, e, w.imm _ _ h1, h2⟩
  | ml h =>
    obtain ⟨m, h1, h2⟩ := a.mem h
    cases h2 with
    | ml b => exact ⟨_, _, rfl, (w.mu _ h1).1, b⟩
theorem Rk.tup (w : W I H Mc) (a : CnA I M Mc) (hF : ∀ f ∈ F, Is I f.1 f.2) (h : Rk F M v (.tup ds)) : ∃ p vs, v = .ref p ∧ H p = some (.tup vs) ∧ IsA I vs ds := by
  cases h with
  | mem h =>
    obtain ⟨p, vs, e, h1, h2⟩ := (hF _ h).tup_ex
    exact ⟨p, vs, e, w.imm _ _ h1, h2⟩
theorem Rk.obj {C : Addr} {fs : List (Str × D)} (w : W I H Mc) (a : CnA I M Mc) (hF : ∀ f ∈ F, Is I f.1 f.2) (h : Rk F M v (.obj C fs)) : ∃ p dx vs, v = .ref p ∧ H p = some (.ins C dx vs) ∧ IsF I vs fs := by
  cases h with
  | mem h =>
    obtain ⟨p, dx, vs, e, h1, h2⟩ := (hF _ h).obj_ex
    exact ⟨p, dx, vs, e, w.imm _ _ h1, h2⟩
  | mi h =>
    obtain ⟨m, h1, h2⟩ := a.mem h
    cases h2 with
    | mi b => exact ⟨_, _, _, rfl, (w.mu _ h1).1, b⟩
theorem Wf.sub (w : Wf F H M) (k : KS F' F) (s : List.Sublist M' M) : Wf F' H M' := by
  obtain ⟨I, Mc, w, a, hF⟩ := w.ex
  obtain ⟨Mc', h1, h2⟩ := a.sub s
  exact ⟨I, Mc', w.subl h1, h2, fun f hf => (k f hf).is hF⟩
theorem Wf.perm (w : Wf F H M) (s : List.Perm M M') : Wf F H M' := by
  obtain ⟨I, Mc, w, a, hF⟩ := w.ex
  obtain ⟨Mc', h1, h2⟩ := a.perm s
  exact ⟨I, Mc', w.perm h1, h2, hF⟩
theorem Wf.tail {f : V × D} (w : Wf (f :: F) H M) : Wf F H M := w.sub KS.refl.drop (.refl _)
theorem Wf.int_eq {n : Int} (w : Wf F H M) (h : Kn F v (.int n)) : v = .int n := by
  obtain ⟨I, Mc, w, a, hF⟩ := w.ex
  exact (h.is hF).int_eq
theorem Wf.eq0 {n : Int} (w : Wf ((v, .int n) :: F) H M) : v = .int n ∧ Wf F H M := ⟨w.int_eq (.mem List.mem_cons_self), w.tail⟩
theorem Wf.add (w : Wf F H M) (h : Kn F v d) : Wf ((v, d) :: F) H M := w.sub (KS.cons h KS.refl) (.refl _)
theorem Wf.more (w : Wf F H M) (s : Same H H') : Wf F H' M := by
  obtain ⟨I, Mc, w, a, hF⟩ := w.ex
  exact ⟨I, Mc, w.more s, a, hF⟩
/-- for contracts in the elder form -/
theorem Wf.old (w : Wf F H M) : ∃ I Mc, W I H Mc ∧ (∀ v d, Kn F v d → Is I v d) ∧ (∀ J H', Same I J → W J H' Mc → Wf F H' M) ∧ ∀ J H' r d, Same I J → W J H' Mc → Is J r d → Wf ((r, d) :: F) H' M := by
  obtain ⟨I, Mc, w, a, hF⟩ := w.ex
  refine ⟨I, Mc, w, fun v d h => h.is hF, fun J H' s w' => ⟨J, Mc, w', a.mono s, fun f hf => (hF f hf).mono s⟩, fun J H' r d s w' h => ⟨J, Mc, w', a.mono s, fun f hf => ?_⟩⟩
  rcases List.mem_cons.mp hf with rfl | hf
  · exact h
  · exact (hF f hf).mono s
theorem Wf.oldB {b : Addr} (w : Wf F H M) (hb : .bag b ∈ M) : ∃ I Mc c o, W I H ((b, o) :: Mc) ∧ Bag I c o ∧ (∀ v d, Kn F v d → Is I v d) ∧ (∀ J H' o', Same I J → W J H' ((b, o') :: Mc) → Bag J c o' → Wf F H' M) ∧ ∀ J H' o' r d, Same I J → W J H' ((b, o') :: Mc) → Bag J c o' → Is J r d → Wf ((r, d) :: F) H' M := by
  obtain ⟨M1, M2, rfl⟩ := List.append_of_mem hb
  have hp : List.Perm (M1 ++ .bag b :: M2) (.bag b :: (M1 ++ M2)) := List.perm_middle
  obtain ⟨I, Mc, w, a, hF⟩ := (w.perm hp).ex
  cases a with
  | cons h a =>
    cases h with
    | @bag _ c o hb =>
      have z : ∀ J H' o', Same I J → W J H' ((b, o') :: _) → Bag J c o' → ∀ F', (∀ f ∈ F', Is J f.1 f.2) → Wf F' H' (M1 ++ .bag b :: M2) := fun J H' o' s w' hb' F' hF' =>
        Wf.perm (M := .bag b :: (M1 ++ M2)) ⟨J, _, w', .cons (.bag hb') (a.mono s), hF'⟩ hp.symm
      refine ⟨I, _, _, _, w, hb, fun v d h => h.is hF, fun J H' o' s w' hb' => z J H' o' s w' hb' F fun f hf => (hF f hf).mono s, fun J H' o' r d s w' hb' h => z J H' o' s w' hb' _ fun f hf => ?_⟩
      rcases List.mem_cons.mp hf with rfl | hf
      · exact h
      · exact (hF f hf).mono s
end

/-! ### steps -/
section
variable {K : PySem.W.Frag} {σ : L2.St} {H : Hp} {F : List (V × D)} {M M' : List ME} {Q : VK} {G : Ends} {v x y u : V} {vs xs us : List V} {d e : D} {ds es : List D} {p : Addr} {i : Int} {g : TG} {tb : TS} {te : TE} {tt : TT} {sp : Sp} {C : Addr} {E : XK} {f m : Str} {fs : List (Str × D)} {L : List Str}
theorem Wf.put {o' : HO} {e e' : ME} (w : Wf F H M) (f : Foc M e M' e') (h : ∀ I m, (∀ f ∈ F, Is I f.1 f.2) → Cn I e m → m.1 = p ∧ Cn I e' (p, o')) : Wf F (upd H p o') M' := by
  obtain ⟨I, Mc, w, a, hF⟩ := w.ex
  obtain ⟨M1, m, M2, rfl, h1, h2⟩ := a.foc f
  obtain ⟨h3, h4⟩ := h I m hF h1
  obtain ⟨p', o⟩ := m
  cases h3
  exact ⟨I, _, w.put, h2 I _ (Same.refl _) h4, hF⟩
theorem Wf.lstAt (w : Wf F H M) (h : .ml p ds ∈ M) : ∃ vs, H p = some (.lst vs) ∧ vs.length = ds.length := by
  obtain ⟨I, Mc, w, a, hF⟩ := w.ex
  obtain ⟨m, h1, h2⟩ := a.mem h
  cases h2 with
  | ml b => exact ⟨_, (w.mu _ h1).1, b.length⟩
theorem Foc.mem {e e' : ME} (f : Foc M e M' e') : e ∈ M := by
  induction f with
  | here => exact List.mem_cons_self
  | there _ ih => exact List.mem_cons_of_mem _ ih
theorem Rem.mem {e : ME} (f : Rem M e M') : e ∈ M := by
  induction f with
  | here => exact List.mem_cons_self
  | there _ ih => exact List.mem_cons_of_mem _ ih
theorem Wf.frzL (w : Wf F H M) (r : Rem M (.ml p ds) M') : Wf ((.ref p, .lst ds) :: F) H M' := by
  obtain ⟨I, Mc, w, a, hF⟩ := w.ex
  obtain ⟨M1, m, M2, rfl, h1, h2⟩ := a.rem r
  cases h1 with
  | ml b =>
    refine ⟨_, _, w.frz, h2.mono w.frzS, fun f hf => ?_⟩
    rcases List.mem_cons.mp hf with rfl | hf
    · exact .lst upd_same (b.mono w.frzS)
    · exact (hF f hf).mono w.frzS
theorem Wf.frzI (w : Wf F H M) (r : Rem M (.mi p C fs) M') : Wf ((.ref p, .obj C fs) :: F) H M' := by
  obtain ⟨I, Mc, w, a, hF⟩ := w.ex
  obtain ⟨M1, m, M2, rfl, h1, h2⟩ := a.rem r
  cases h1 with
  | mi b =>
    refine ⟨_, _, w.frz, h2.mono w.frzS, fun f hf => ?_⟩
    rcases List.mem_cons.mp hf with rfl | hf
    · exact .obj upd_same (b.mono w.frzS)
    · exact (hF f hf).mono w.frzS
-- subscripts
theorem n_ixT (w : Wf F H M) (h : Rk F M v (.tup ds)) (hd : atI ds i = some d) (q : ∀ u, Wf ((u, d) :: F) H M → Q u H) : rIx K v (.int i) H Q := by
  obtain ⟨I, Mc, w, a, hF⟩ := w.ex
  obtain ⟨p, vs, rfl, hp, b⟩ := h.tup w a hF
  obtain ⟨u, e, hu⟩ := atI_isa b hd
  exact .inr (.inl ⟨p, vs, i, u, rfl, rfl, .inl (.inl hp), e, q u ⟨I, Mc, w, a, fun f hf => by
    rcases List.mem_cons.mp hf with rfl | hf
    · exact hu
    · exact hF f hf⟩⟩)
theorem n_ixL (w : Wf F H M) (h : Rk F M v (.lst ds)) (hd : atI ds i = some d) (q : ∀ u, Wf ((u, d) :: F) H M → Q u H) : rIx K v (.int i) H Q := by
  obtain ⟨I, Mc, w, a, hF⟩ := w.ex
  obtain ⟨p, vs, rfl, hp, b⟩ := h.lst w a hF
  obtain ⟨u, e, hu⟩ := atI_isa b hd
  exact .inl ⟨p, vs, i, u, rfl, rfl, .inl (.inl hp), e, q u ⟨I, Mc, w, a, fun f hf => by
    rcases List.mem_cons.mp hf with rfl | hf
    · exact hu
    · exact hF f hf⟩⟩
theorem n_ixTi {n : Int} (w : Wf F H M) (h : Rk F M v (.tup ds)) (hd : atI ds i = some (.int n)) (q : Q (.int n) H) : rIx K v (.int i) H Q := n_ixT w h hd fun u w => by rw [w.eq0.1]; exact q
theorem n_ixLi {n : Int} (w : Wf F H M) (h : Rk F M v (.lst ds)) (hd : atI ds i = some (.int n)) (q : Q (.int n) H) : rIx K v (.int i) H Q := n_ixL w h hd fun u w => by rw [w.eq0.1]; exact q
theorem n_ixTn (w : Wf F H M) (h : Rk F M v (.tup ds)) (hd : atI ds i = some .non) (q : Q .non H) : rIx K v (.int i) H Q := n_ixT w h hd fun u w => by
  obtain ⟨I, Mc, w, a, hF⟩ := w.ex
  cases (hF (u, .non) List.mem_cons_self : Is I u .non).non_eq
  exact q
theorem n_ixLLi {n : Int} (w : Wf F H M) (h : Rk F M v (.lst ds)) (hd : atI ds i = some (.int n)) (q : Q (.int n) H) : rIxL K v (.int i) H Q := by
  obtain ⟨I, Mc, w, a, hF⟩ := w.ex
  obtain ⟨p, vs, rfl, hp, b⟩ := h.lst w a hF
  obtain ⟨u, e, hu⟩ := atI_isa b hd
  cases hu.int_eq
  exact ⟨p, vs, i, _, rfl, rfl, .inl (.inl hp), e, q⟩
/-- an item at an open place -/
theorem n_ixAny (w : Wf F H M) (h : Rk F M v (.lst ds)) (h0 : 0 ≤ i) (h1 : i < ds.length) (q : ∀ d u, ds[i.toNat]? = some d → Wf ((u, d) :: F) H M → Q u H) : rIx K v (.int i) H Q := by
  have h2 : i.toNat < ds.length := by omega
  have e : (i.toNat : Int) = i := by omega
  have z := atI_nat (List.getElem?_eq_getElem h2)
  rw [e] at z
  exact n_ixL w h z fun u w' => q _ u (List.getElem?_eq_getElem h2) w'
theorem n_ixAnyT (w : Wf F H M) (h : Rk F M v (.tup ds)) (h0 : 0 ≤ i) (h1 : i < ds.length) (q : ∀ d u, ds[i.toNat]? = some d → Wf ((u, d) :: F) H M → Q u H) : rIx K v (.int i) H Q := by
  have h2 : i.toNat < ds.length := by omega
  have e : (i.toNat : Int) = i := by omega
  have z := atI_nat (List.getElem?_eq_getElem h2)
  rw [e] at z
  exact n_ixT w h z fun u w' => q _ u (List.getElem?_eq_getElem h2) w'
/-- an item of a list of ints at an open place -/
theorem n_ixInts {ns : List Int} (w : Wf F H M) (h : Rk F M v (.lst (ns.map D.int))) (h0 : 0 ≤ i) (h1 : i < ns.length) (q : ∀ n, ns[i.toNat]? = some n → Q (.int n) H) : rIx K v (.int i) H Q :=
  n_ixAny w h h0 (by rw [List.length_map]; exact h1) fun d u hd w => by
    rw [List.getElem?_map] at hd
    cases e : ns[i.toNat]? with
    | none => rw [e] at hd; cases hd
    | some n =>
      rw [e] at hd
      cases hd
      rw [w.eq0.1]
      exact q n e
-- len
theorem n_lenL (w : Wf F H M) (h : Rk F M v (.lst ds)) (q : Q (.int ds.length) H) : rLenU K [v] H Q := by
  obtain ⟨I, Mc, w, a, hF⟩ := w.ex
  obtain ⟨p, vs, rfl, hp, b⟩ := h.lst w a hF
  exact .inl ⟨p, vs, rfl, .inl (.inl (.inl hp)), by rw [b.length]; exact q⟩
theorem n_lenT (w : Wf F H M) (h : Rk F M v (.tup ds)) (q : Q (.int ds.length) H) : rLenU K [v] H Q := by
  obtain ⟨I, Mc, w, a, hF⟩ := w.ex
  obtain ⟨p, vs, rfl, hp, b⟩ := h.tup w a hF
  exact .inl ⟨p, vs, rfl, .inr (.inl (.inl hp)), by rw [b.length]; exact q⟩
-- new things
theorem n_newT (w : Wf F H M) (a : KnA F xs ds) (hz : xs.length ≤ 1000) (q : ∀ p H', Wf ((.ref p, .tup ds) :: F) H' M → Q (.ref p) H') : NewT Q xs H := by
  obtain ⟨I, Mc, w, ac, hF⟩ := w.ex
  refine s_newT w (a.is hF) hz fun p J H' s _ w' h' => q p H' ⟨J, Mc, w', ac.mono s, fun f hf => ?_⟩
  rcases List.mem_cons.mp hf with rfl | hf
  · exact h'
  · exact (hF f hf).mono s
theorem n_newL (w : Wf F H M) (a : KnA F xs ds) (hz : xs.length ≤ 1000) (q : ∀ p H', Wf F H' (.ml p ds :: M) → Q (.ref p) H') : NewL Q xs H := by
  obtain ⟨I, Mc, w, ac, hF⟩ := w.ex
  exact s_newM w hz fun p H' w' => q p H' ⟨I, _, w', .cons (.ml (a.is hF)) ac, hF⟩
theorem n_newNil (w : Wf F H M) (q : ∀ p H', Wf F H' (.ml p [] :: M) → Q (.ref p) H') : NewL Q [] H := n_newL w .nil (by simp) q
-- unpacking
theorem n_gtup {n : Nat} {gs : TGs} {T : L2.St → Hp → Prop} (w : Wf F H M) (h : Rk F M v (.tup ds)) (hn : ds.length = n) (q : ∀ I Mc xs, W I H Mc → CnA I M Mc → (∀ f ∈ F, Is I f.1 f.2) → IsA I xs ds → gs xs σ H T) : gTup K n gs v σ H T := by
  obtain ⟨I, Mc, w, a, hF⟩ := w.ex
  obtain ⟨p, vs, rfl, hp, b⟩ := h.tup w a hF
  exact ⟨p, vs, rfl, .inl (.inl hp), by rw [b.length]; exact hn, q I Mc vs w a hF b⟩
theorem n_gtup2 {gs : TGs} {T : L2.St → Hp → Prop} {d0 d1 : D} (w : Wf F H M) (h : Rk F M v (.tup [d0, d1])) (q : ∀ x y, Wf ((x, d0) :: (y, d1) :: F) H M → gs [x, y] σ H T) : gTup K 2 gs v σ H T :=
  n_gtup w h rfl fun I Mc xs w a hF b => by
    cases b with | cons h0 b =>
    cases b with | cons h1 b =>
    cases b
    refine q _ _ ⟨I, Mc, w, a, fun f hf => ?_⟩
    rcases List.mem_cons.mp hf with rfl | hf
    · exact h0
    rcases List.mem_cons.mp hf with rfl | hf
    · exact h1
    · exact hF f hf
theorem n_gtup3 {gs : TGs} {T : L2.St → Hp → Prop} {d0 d1 d2 : D} (w : Wf F H M) (h : Rk F M v (.tup [d0, d1, d2])) (q : ∀ x y z, Wf ((x, d0) :: (y, d1) :: (z, d2) :: F) H M → gs [x, y, z] σ H T) : gTup K 3 gs v σ H T :=
  n_gtup w h rfl fun I Mc xs w a hF b => by
    cases b with | cons h0 b =>
    cases b with | cons h1 b =>
    cases b with | cons h2 b =>
    cases b
    refine q _ _ _ ⟨I, Mc, w, a, fun f hf => ?_⟩
    rcases List.mem_cons.mp hf with rfl | hf
    · exact h0
    rcases List.mem_cons.mp hf with rfl | hf
    · exact h1
    rcases List.mem_cons.mp hf with rfl | hf
    · exact h2
    · exact hF f hf
theorem n_gtup4 {gs : TGs} {T : L2.St → Hp → Prop} {d0 d1 d2 d3 : D} (w : Wf F H M) (h : Rk F M v (.tup [d0, d1, d2, d3])) (q : ∀ x y z u, Wf ((x, d0) :: (y, d1) :: (z, d2) :: (u, d3) :: F) H M → gs [x, y, z, u] σ H T) : gTup K 4 gs v σ H T :=
  n_gtup w h rfl fun I Mc xs w a hF b => by
    cases b with | cons h0 b =>
    cases b with | cons h1 b =>
    cases b with | cons h2 b =>
    cases b with | cons h3 b =>
    cases b
    refine q _ _ _ _ ⟨I, Mc, w, a, fun f hf => ?_⟩
    rcases List.mem_cons.mp hf with rfl | hf
    · exact h0
    rcases List.mem_cons.mp hf with rfl | hf
    · exact h1
    rcases List.mem_cons.mp hf with rfl | hf
    · exact h2
    rcases List.mem_cons.mp hf with rfl | hf
    · exact h3
    · exact hF f hf
/-- two ints -/
theorem n_gtupII {gs : TGs} {T : L2.St → Hp → Prop} {m n : Int} (w : Wf F H M) (h : Rk F M v (.tup [.int m, .int n])) (q : gs [.int m, .int n] σ H T) : gTup K 2 gs v σ H T :=
  n_gtup2 w h fun x y w => by
    rw [w.eq0.1, w.eq0.2.eq0.1]
    exact q
theorem n_gtupIII {gs : TGs} {T : L2.St → Hp → Prop} {m n o : Int} (w : Wf F H M) (h : Rk F M v (.tup [.int m, .int n, .int o])) (q : gs [.int m, .int n, .int o] σ H T) : gTup K 3 gs v σ H T :=
  n_gtup3 w h fun x y z w => by
    rw [w.eq0.1, w.eq0.2.eq0.1, w.eq0.2.eq0.2.eq0.1]
    exact q
-- lists that may be changed
theorem n_tyL {A : Prop} (w : Wf F H M) (h : .ml p ds ∈ M) (a : A) : tyV K "list" (.ref p) H ∧ A := by
  obtain ⟨vs, h1, _⟩ := w.lstAt h
  exact s_tyL h1 a
theorem n_app (w : Wf F H M) (f : Foc M (.ml p ds) M' (.ml p (ds ++ [d]))) (h : Kn F x d) (hz : ds.length ≤ 100000) (q : ∀ H', Wf F H' M' → Q .non H') : rAppend (.ref p) [x] H Q := by
  obtain ⟨vs, h1, hl⟩ := w.lstAt f.mem
  obtain ⟨I, Mc, w, a, hF⟩ := w.ex
  obtain ⟨M1, m, M2, rfl, h3, h4⟩ := a.foc f
  cases h3 with
  | ml b =>
    exact s_app w.at (by rw [b.length]; exact hz) (q _ ⟨I, _, w.put, h4 I _ (Same.refl _) (.ml (b.app (.one (h.is hF)))), hF⟩)
theorem n_clear (w : Wf F H M) (f : Foc M (.ml p ds) M' (.ml p [])) (q : ∀ H', Wf F H' M' → Q .non H') : rClear (.ref p) [] H Q := by
  obtain ⟨vs, h1, hl⟩ := w.lstAt f.mem
  exact s_clear h1 (q _ (w.put f fun I m _ h => by cases h; exact ⟨rfl, .ml .nil⟩))
theorem IsA.set {I : Hp} (h : Is I v d) : ∀ {vs : List V} {ds : List D} (j : Nat), IsA I vs ds → IsA I (vs.set j v) (ds.set j d)
  | _, _, _, .nil => .nil
  | _, _, 0, .cons _ a => .cons h a
  | _, _, j + 1, .cons h' a => .cons h' (IsA.set h j a)
theorem n_set {T : Hp → Prop} {k : Int} {j : Nat} (w : Wf F H M) (f : Foc M (.ml p ds) M' (.ml p (ds.set j d))) (h : Kn F v d) (hj : ixN ds.length k = some j) (q : ∀ H', Wf F H' M' → T H') : rSetL (.ref p) (.int k) v H T := by
  obtain ⟨I, Mc, w, a, hF⟩ := w.ex
  obtain ⟨M1, m, M2, rfl, h3, h4⟩ := a.foc f
  cases h3 with
  | ml b => exact s_setL w.at (by rw [b.length]; exact hj) (q _ ⟨I, _, w.put, h4 I _ (Same.refl _) (.ml (IsA.set (h.is hF) j b)), hF⟩)
-- list(..), slices, +, reversed copies
theorem n_list (w : Wf F H M) (h : Rk F M x (.lst ds)) (q : ∀ p H', Wf F H' (.ml p ds :: M) → Q (.ref p) H') : rListOf K [x] H Q := by
  obtain ⟨I, Mc, w, a, hF⟩ := w.ex
  obtain ⟨p, vs, rfl, hp, b⟩ := h.lst w a hF
  exact ⟨p, vs, rfl, .inl (.inl (.inl hp)), fun l hl => q l _ ⟨I, _, w.newM hl, .cons (.ml b) a, hF⟩⟩
theorem n_listT (w : Wf F H M) (h : Rk F M x (.tup ds)) (q : ∀ p H', Wf F H' (.ml p ds :: M) → Q (.ref p) H') : rListOf K [x] H Q := by
  obtain ⟨I, Mc, w, a, hF⟩ := w.ex
  obtain ⟨p, vs, rfl, hp, b⟩ := h.tup w a hF
  exact ⟨p, vs, rfl, .inr (.inl (.inl hp)), fun l hl => q l _ ⟨I, _, w.newM hl, .cons (.ml b) a, hF⟩⟩
theorem n_sl {lo hi : Option Int} (w : Wf F H M) (h : Rk F M x (.lst ds)) (q : ∀ p H', Wf F H' (.ml p (cutD ds lo hi) :: M) → Q (.ref p) H') : rSlL K x lo hi H Q := by
  obtain ⟨I, Mc, w, a, hF⟩ := w.ex
  obtain ⟨p, vs, rfl, hp, b⟩ := h.lst w a hF
  exact ⟨p, vs, rfl, .inl (.inl hp), fun l hl => q l _ ⟨I, _, w.newM hl, .cons (.ml (b.cut lo hi)) a, hF⟩⟩
theorem n_cat (w : Wf F H M) (hx : Rk F M x (.lst ds)) (hy : Rk F M y (.lst es)) (hz : ds.length + es.length ≤ 100000) (q : ∀ p H', Wf F H' (.ml p (ds ++ es) :: M) → Q (.ref p) H') : rAddU K x y H Q := by
  obtain ⟨I, Mc, w, a, hF⟩ := w.ex
  obtain ⟨p1, vs, rfl, h1, a1⟩ := hx.lst w a hF
  obtain ⟨p2, us, rfl, h2, a2⟩ := hy.lst w a hF
  exact .inr (.inr (.inl ⟨p1, p2, vs, us, rfl, rfl, h1, h2, by rw [a1.length, a2.length]; exact Nat.le_trans hz (by decide), fun p hp => q p _ ⟨I, _, w.newM hp, .cons (.ml (a1.app a2)) a, hF⟩⟩))
theorem n_rev (w : Wf F H M) (h : Rk F M v (.lst ds)) (q : ∀ p H', Wf F H' (.ml p ds.reverse :: M) → Q (.ref p) H') : RevQ K Q v H := by
  obtain ⟨I, Mc, w, a, hF⟩ := w.ex
  obtain ⟨p, vs, rfl, hp, b⟩ := h.lst w a hF
  exact ⟨p, vs, rfl, .inl (.inl hp), fun l hl => q l _ ⟨I, _, w.newM hl, .cons (.ml b.rev) a, hF⟩⟩
-- == of data
theorem NB.dpH {k : Nat} (n : NB k d) : ∀ {v : V}, Is H v d → Dp K H v d.pd := fun {v} h => NB.dp (I := H) (M := []) ⟨fun _ _ e => e, fun _ h => (nomatch h), List.nodup_nil⟩ n h
theorem Wf.rd (w : Wf F H M) (h : Rk F M v d) : Is H v d := by
  obtain ⟨I, Mc, w, a, hF⟩ := w.ex
  exact h.rd w a hF
theorem n_eq {b : Bool} {j k : Nat} (w : Wf F H M) (hx : Rk F M x d) (hy : Rk F M y e) (n : NB k d) (m : NB j e) (hk : k ≤ 64) (hj : j ≤ 64) (hb : b = true ↔ d = e) (q : Q (.bl b) H) : rEqU K x y H Q :=
  .inr ⟨d.pd, e.pd, n.dpH (w.rd hx), m.dpH (w.rd hy), n.shaped hk, m.shaped hj, by
    have h1 := n.eqv m
    have h2 : PyData.eqv d.pd e.pd = b := by rw [Bool.eq_iff_iff, h1, hb]
    rw [h2]; exact q⟩
theorem n_ne {b : Bool} {j k : Nat} (w : Wf F H M) (hx : Rk F M x d) (hy : Rk F M y e) (n : NB k d) (m : NB j e) (hk : k ≤ 64) (hj : j ≤ 64) (hb : b = true ↔ d = e) (q : Q (.bl (!b)) H) : rNeU K x y H Q :=
  .inr ⟨d.pd, e.pd, n.dpH (w.rd hx), m.dpH (w.rd hy), n.shaped hk, m.shaped hj, by
    have h1 := n.eqv m
    have h2 : PyData.eqv d.pd e.pd = b := by rw [Bool.eq_iff_iff, h1, hb]
    rw [h2]; exact q⟩
theorem n_eqT (w : Wf F H M) (hx : Rk F M x d) (hy : Rk F M y d) (n : NB 60 d) (q : Q (.bl true) H) : rEqU K x y H Q := n_eq w hx hy n n (by decide) (by decide) (b := true) (by simp) q
theorem n_neT (w : Wf F H M) (hx : Rk F M x d) (hy : Rk F M y d) (n : NB 60 d) (q : Q (.bl false) H) : rNeU K x y H Q := n_ne w hx hy n n (by decide) (by decide) (b := true) (by simp) q
-- isinstance
theorem isi_base {a b : String} {k : Bool} (h : Is H v d) (e : d.tn = some a) (hb : kitB a b = some k) (q : Q (.bl k) H) : rIsiU K [v, .ty b] H Q := s_isi (I := H) (M := []) ⟨fun _ _ e => e, fun _ h => (nomatch h), List.nodup_nil⟩ h e hb q
theorem n_isi {a b : String} {k : Bool} (w : Wf F H M) (h : Rk F M v d) (e : d.tn = some a) (hb : kitB a b = some k) (q : Q (.bl k) H) : rIsiU K [v, .ty b] H Q := isi_base (w.rd h) e hb q
theorem W.self : W H H [] := ⟨fun _ _ e => e, fun _ h => (nomatch h), List.nodup_nil⟩
theorem n_isiO {b : String} {k : Bool} (o : OwnC K C) (w : Wf F H M) (h : Rk F M v (.obj C fs)) (hb : PySem.W.kitOne K (.ref C) (.type b) = some k) (q : Q (.bl k) H) : rIsiU K [v, .ty b] H Q := s_isiO o W.self (w.rd h) hb q
theorem n_isiC {a : String} {k : Bool} (w : Wf F H M) (h : Rk F M v d) (e : d.tn = some a) (hb : PySem.W.kitOne K (.type a) (.ref C) = some k) (q : Q (.bl k) H) : rIsiU K [v, .ref C] H Q := s_isiC W.self (w.rd h) e hb q
theorem n_isiOC {C' : Addr} {k : Bool} (o : OwnC K C) (w : Wf F H M) (h : Rk F M v (.obj C fs)) (hb : PySem.W.kitOne K (.ref C) (.ref C') = some k) (q : Q (.bl k) H) : rIsiU K [v, .ref C'] H Q := s_isiOC o W.self (w.rd h) hb q
-- objects
theorem n_fld (w : Wf F H M) (h : Rk F M v (.obj C fs)) (hc : Cls K C) (hn : ∀ f ∈ L, NoAttr K C f) (hf : f ∈ L) (hd : fs.lookup f = some d) (q : ∀ u, Wf ((u, d) :: F) H M → Q u H) : FldQ K f Q v H := by
  obtain ⟨I, Mc, w, a, hF⟩ := w.ex
  obtain ⟨p, dx, vs, rfl, hp, b⟩ := h.obj w a hF
  obtain ⟨u, e, hu⟩ := b.get hd
  exact ⟨p, C, dx, vs, u, rfl, hp, hc, hn f hf, e, q u ⟨I, Mc, w, a, fun f hf => by
    rcases List.mem_cons.mp hf with rfl | hf
    · exact hu
    · exact hF f hf⟩⟩
theorem n_fldi {n : Int} (w : Wf F H M) (h : Rk F M v (.obj C fs)) (hc : Cls K C) (hn : ∀ f ∈ L, NoAttr K C f) (hf : f ∈ L) (hd : fs.lookup f = some (.int n)) (q : Q (.int n) H) : FldQ K f Q v H := n_fld w h hc hn hf hd fun u w => by rw [w.eq0.1]; exact q
theorem n_fldn (w : Wf F H M) (h : Rk F M v (.obj C fs)) (hc : Cls K C) (hn : ∀ f ∈ L, NoAttr K C f) (hf : f ∈ L) (hd : fs.lookup f = some .non) (q : Q .non H) : FldQ K f Q v H := n_fld w h hc hn hf hd fun u w => by
  obtain ⟨I, Mc, w, a, hF⟩ := w.ex
  cases (hF (u, .non) List.mem_cons_self : Is I u .non).non_eq
  exact q
theorem n_meth {A : Prop} (w : Wf F H M) (h : Rk F M v (.obj C fs)) (hm : m ∉ fs.map (·.1)) (q : A) : MethQ C m v H A := s_methAt W.self (w.rd h) hm q
theorem n_make (w : Wf F H M) (q : ∀ x H', Wf F H' (.mi x C [] :: M) → sp (.ref x :: vs) H' (fun v H2 => v = .non ∧ Q (.ref x) H2) E) : MakeQ C sp E Q vs H := by
  obtain ⟨I, Mc, w, a, hF⟩ := w.ex
  exact s_makeW w fun x dx H' _ w' => q x H' ⟨I, _, w', .cons (.mi .nil) a, hF⟩
def putD (f : Str) (d : D) : List (Str × D) → List (Str × D)
  | [] => [(f, d)]
  | (g, x) :: r => if g = f then (g, d) :: r else (g, x) :: putD f d r
theorem IsF.put {I : Hp} (h : Is I v d) : ∀ {vs : List (Str × V)} {fs : List (Str × D)}, IsF I vs fs → IsF I (putF f v vs) (putD f d fs)
  | _, _, .nil => .cons h .nil
  | _, _, .cons (f := g) h' a => by
    unfold putF putD
    by_cases e : g = f
    · rw [if_pos e, if_pos e]; exact .cons h a
    · rw [if_neg e, if_neg e]; exact .cons h' (IsF.put h a)
theorem IsF.length {I : Hp} : ∀ {vs : List (Str × V)} {fs : List (Str × D)}, IsF I vs fs → vs.length = fs.length
  | _, _, .nil => rfl
  | _, _, .cons _ a => by rw [List.length_cons, List.length_cons, a.length]
theorem n_sf (w : Wf F H M) (fo : Foc M (.mi p C fs) M' (.mi p C (putD f d fs))) (h : Kn F y d) (hc : Cls K C) (hn : ∀ f ∈ L, NoAttr K C f) (hf : f ∈ L) (hg : fs.length < 1000) (q : ∀ H', Wf F H' M' → G.nx σ H') : SfQ K f G σ (.ref p) y H := by
  obtain ⟨I, Mc, w, a, hF⟩ := w.ex
  obtain ⟨M1, m, M2, rfl, h3, h4⟩ := a.foc fo
  cases h3 with
  | mi b =>
    exact ⟨p, C, _, _, rfl, w.at, hc, hn f hf, by rw [b.length]; exact hg, q _ ⟨I, _, w.put, h4 I _ (Same.refl _) (.mi (b.put (h.is hF))), hF⟩⟩
end

/-! ### loops -/
section
variable {K : PySem.W.Frag} {σ : L2.St} {H : Hp} {F : List (V × D)} {M M' : List ME} {Q : VK} {G : Ends} {v : V} {ds : List D} {g : TG} {tb : TS} {te : TE} {tt : TT} {c : TT}
/-- the heap of a loop -/
def LI (R : L2.St → List (V × D) → List ME → Prop) (σ : L2.St) (H : Hp) : Prop := ∃ F M, R σ F M ∧ Wf F H M
theorem n_forL (w : Wf F H M) (R : Nat → L2.St → List (V × D) → List ME → Prop) (hv : ∀ i σ F M, R i σ F M → Rk F M v (.lst ds)) (h0 : R 0 σ F M)
    (step : ∀ i d x σ H F M, ds[i]? = some d → R i σ F M → Wf ((x, d) :: F) H M → g x σ H fun σ2 H2 => tb { G with nx := LI (R (i + 1)), ct := LI (R (i + 1)), bk := G.nx } σ2 H2)
    (fin : ∀ σ H F M, R ds.length σ F M → Wf F H M → G.nx σ H) :
    ∃ a, v = .ref a ∧ (∃ xs, SqL K H a xs) ∧ ∃ W : Nat → Nat → L2.St → Hp → Prop, (∃ m, W 0 m σ H) ∧ ∀ i m σ H, W i m σ H →
      ((Itl K a).stop i H ∧ G.nx σ H) ∨ ((Itl K a).go i H ∧ ∃ N : L2.St → Hp → Prop, (∀ σ' H', N σ' H' → ∃ m', m' < m ∧ W (i + 1) m' σ' H') ∧ ∀ x H', (Itl K a).yld i H x H' → g x σ H' fun σ2 H2 => tb { G with nx := N, ct := N, bk := G.nx } σ2 H2) := by
  have e0 : ∃ a, v = .ref a ∧ ∃ xs, SqL K H a xs := by
    obtain ⟨I, Mc, w, a, hF⟩ := w.ex
    obtain ⟨p, vs, rfl, hp, b⟩ := (hv _ _ _ _ h0).lst w a hF
    exact ⟨p, rfl, vs, .inl (.inl hp)⟩
  obtain ⟨a, rfl, hx⟩ := e0
  refine ⟨a, rfl, hx, fun i m σ H => m = ds.length - i ∧ i ≤ ds.length ∧ LI (R i) σ H, ⟨ds.length, rfl, Nat.zero_le _, F, M, h0, w⟩, ?_⟩
  rintro i m σ H ⟨rfl, hi, F, M, hR, w⟩
  obtain ⟨I, Mc, w1, ac, hF⟩ := w.ex
  obtain ⟨p, vs, e, hp, b⟩ := (hv _ _ _ _ hR).lst w1 ac hF
  cases e
  have hs : SqL K H a vs := .inl (.inl hp)
  by_cases hlt : i < ds.length
  · have hl : i < vs.length := by rw [b.length]; exact hlt
    refine .inr ⟨⟨vs, vs[i], hs, List.getElem?_eq_getElem hl⟩, LI (R (i + 1)), fun σ' H' z => ⟨ds.length - (i + 1), by omega, rfl, hlt, z⟩, fun x H' y => ?_⟩
    obtain ⟨rfl, y⟩ := y
    obtain ⟨d, e1, e2⟩ := b.of (y vs hs)
    refine step i d x σ _ F M e1 hR ⟨I, Mc, w1, ac, fun f hf => ?_⟩
    rcases List.mem_cons.mp hf with rfl | hf
    · exact e2
    · exact hF f hf
  · have e : i = ds.length := by omega
    subst e
    exact .inl ⟨⟨vs, hs, by rw [b.length]; exact Nat.le_refl _⟩, fin σ H F M hR w⟩
theorem n_forT (w : Wf F H M) (R : Nat → L2.St → List (V × D) → List ME → Prop) (hv : ∀ i σ F M, R i σ F M → Rk F M v (.tup ds)) (h0 : R 0 σ F M)
    (step : ∀ i d x σ H F M, ds[i]? = some d → R i σ F M → Wf ((x, d) :: F) H M → g x σ H fun σ2 H2 => tb { G with nx := LI (R (i + 1)), ct := LI (R (i + 1)), bk := G.nx } σ2 H2)
    (fin : ∀ σ H F M, R ds.length σ F M → Wf F H M → G.nx σ H) :
    ∃ a, v = .ref a ∧ (∃ xs, SqT K H a xs) ∧ ∃ W : Nat → Nat → L2.St → Hp → Prop, (∃ m, W 0 m σ H) ∧ ∀ i m σ H, W i m σ H →
      ((Itt K a).stop i H ∧ G.nx σ H) ∨ ((Itt K a).go i H ∧ ∃ N : L2.St → Hp → Prop, (∀ σ' H', N σ' H' → ∃ m', m' < m ∧ W (i + 1) m' σ' H') ∧ ∀ x H', (Itt K a).yld i H x H' → g x σ H' fun σ2 H2 => tb { G with nx := N, ct := N, bk := G.nx } σ2 H2) := by
  have e0 : ∃ a, v = .ref a ∧ ∃ xs, SqT K H a xs := by
    obtain ⟨I, Mc, w, a, hF⟩ := w.ex
    obtain ⟨p, vs, rfl, hp, b⟩ := (hv _ _ _ _ h0).tup w a hF
    exact ⟨p, rfl, vs, .inl (.inl hp)⟩
  obtain ⟨a, rfl, hx⟩ := e0
  refine ⟨a, rfl, hx, fun i m σ H => m = ds.length - i ∧ i ≤ ds.length ∧ LI (R i) σ H, ⟨ds.length, rfl, Nat.zero_le _, F, M, h0, w⟩, ?_⟩
  rintro i m σ H ⟨rfl, hi, F, M, hR, w⟩
  obtain ⟨I, Mc, w1, ac, hF⟩ := w.ex
  obtain ⟨p, vs, e, hp, b⟩ := (hv _ _ _ _ hR).tup w1 ac hF
  cases e
  have hs : SqT K H a vs := .inl (.inl hp)
  by_cases hlt : i < ds.length
  · have hl : i < vs.length := by rw [b.length]; exact hlt
    refine .inr ⟨⟨vs, vs[i], hs, List.getElem?_eq_getElem hl⟩, LI (R (i + 1)), fun σ' H' z => ⟨ds.length - (i + 1), by omega, rfl, hlt, z⟩, fun x H' y => ?_⟩
    obtain ⟨rfl, y⟩ := y
    obtain ⟨d, e1, e2⟩ := b.of (y vs hs)
    refine step i d x σ _ F M e1 hR ⟨I, Mc, w1, ac, fun f hf => ?_⟩
    rcases List.mem_cons.mp hf with rfl | hf
    · exact e2
    · exact hF f hf
  · have e : i = ds.length := by omega
    subst e
    exact .inl ⟨⟨vs, hs, by rw [b.length]; exact Nat.le_refl _⟩, fin σ H F M hR w⟩
theorem n_forR {lo : Int} {n : Nat} (w : Wf F H M) (R : Nat → L2.St → List (V × D) → List ME → Prop) (h0 : R 0 σ F M)
    (step : ∀ i σ H F M, i < n → R i σ F M → Wf F H M → g (.int (lo + i)) σ H fun σ2 H2 => tb { G with nx := LI (R (i + 1)), ct := LI (R (i + 1)), bk := G.nx } σ2 H2)
    (fin : ∀ σ H F M, R n σ F M → Wf F H M → G.nx σ H) :
    ∃ W : Nat → Nat → L2.St → Hp → Prop, (∃ m, W 0 m σ H) ∧ ∀ i m σ H, W i m σ H →
      ((Itr lo n).stop i H ∧ G.nx σ H) ∨ ((Itr lo n).go i H ∧ ∃ N : L2.St → Hp → Prop, (∀ σ' H', N σ' H' → ∃ m', m' < m ∧ W (i + 1) m' σ' H') ∧ ∀ x H', (Itr lo n).yld i H x H' → g x σ H' fun σ2 H2 => tb { G with nx := N, ct := N, bk := G.nx } σ2 H2) :=
  for_range (fun i => LI (R i)) ⟨F, M, h0, w⟩ (fun i σ H hi ⟨F, M, hR, w⟩ => step i σ H F M hi hR w) fun σ H ⟨F, M, hR, w⟩ => fin σ H F M hR w
/-- while, by a measure of the slots -/
theorem n_while (w : Wf F H M) (R : L2.St → List (V × D) → List ME → Prop) (μ : L2.St → Nat) (h0 : R σ F M)
    (step : ∀ σ H F M, R σ F M → Wf F H M → c σ H fun b H1 => if b = true then ∃ N : L2.St → Hp → Prop, (∀ σ' H', N σ' H' → ∃ m', m' < μ σ ∧ m' = μ σ' ∧ LI R σ' H') ∧ tb { G with nx := N, ct := N, bk := G.nx } σ H1 else G.nx σ H1) : tWhile c tb G σ H :=
  s_while (LI R) μ ⟨F, M, h0, w⟩ fun σ H ⟨F, M, hR, w⟩ => step σ H F M hR w
theorem n_wN {R : L2.St → List (V × D) → List ME → Prop} {μ : L2.St → Nat} {m : Nat} {σ1 : L2.St} (h : tb { G with nx := fun σ' H' => LI R σ' H' ∧ μ σ' < m, ct := fun σ' H' => LI R σ' H' ∧ μ σ' < m, bk := G.nx } σ1 H) :
    ∃ N : L2.St → Hp → Prop, (∀ σ' H', N σ' H' → ∃ m', m' < m ∧ m' = μ σ' ∧ LI R σ' H') ∧ tb { G with nx := N, ct := N, bk := G.nx } σ1 H :=
  ⟨_, fun _ _ h => ⟨_, h.2, rfl, h.1⟩, h⟩
/-- comprehensions: what the i-th turn gives is told by P -/
theorem n_lc {J : It} {n : Nat} {Gd : Hp → Prop} {Y : Nat → Hp → V → Hp → Prop} {xs : List Nat} {k : Nat} (wk : Walk J n Gd Y) (w : Wf F H M) (hG : ∀ H' D acc, Wf F H' (.ml D acc :: M) → Gd H') (P : Nat → D → Prop) (hn : n ≤ 100000)
    (hw : ∀ v, wipe ((wipe σ xs).set k (some v)) xs = wipe σ xs)
    (step : ∀ i v D acc H0 H' C, i < n → Wf F H0 (.ml D acc :: M) → Y i H0 v H' → (∀ y d H4, Wf ((y, d) :: F) H4 (.ml D acc :: M) → P i d → C y H4) → te ((wipe σ xs).set k (some v)) H' C)
    (q : ∀ p ds H', ds.length = n → (∀ i d, ds[i]? = some d → P i d) → Wf F H' (.ml p ds :: M) → Q (.ref p) H') : LcGo J (gName k) tYes te xs σ Q H := by
  intro D nD
  have w0 : Wf F (upd H D (.lst [])) (.ml D [] :: M) := by
    obtain ⟨I, Mc, w, a, hF⟩ := w.ex
    exact ⟨I, _, w.newM nD, .cons (.ml .nil) a, hF⟩
  refine lc_it wk (fun i H' => ∃ acc, Wf F H' (.ml D acc :: M) ∧ acc.length = i ∧ ∀ j d, acc[j]? = some d → P j d) ⟨[], w0, rfl, fun j d h => by simp at h⟩ (fun i H' _ ⟨acc, w', _⟩ => hG H' D acc w') ?_ ?_
  · rintro i v H0 H' hi ⟨acc, w', hl, hp⟩ hy
    refine ⟨hw v, ?_⟩
    refine s_yes (iteT (step i v D acc H0 H' _ hi w' hy fun y d H4 w4 hd => ?_))
    obtain ⟨vs, h1, h2⟩ := w4.lstAt List.mem_cons_self
    have w5 : Wf F (upd H4 D (.lst (vs ++ [y]))) (.ml D (acc ++ [d]) :: M) := by
      obtain ⟨I, Mc, w, a, hF⟩ := w4.ex
      cases a with
      | cons h a =>
        cases h with
        | ml b =>
          have := w.at0
          rw [this] at h1
          cases h1
          exact ⟨I, _, w.put0, .cons (.ml (b.app (.one (hF _ List.mem_cons_self)))) a, fun f hf => hF f (List.mem_cons_of_mem _ hf)⟩
    refine ⟨vs, h1, by rw [h2, hl]; exact Nat.lt_of_lt_of_le hi (Nat.le_trans hn (by decide)), acc ++ [d], w5, by rw [List.length_append, hl]; rfl, fun j e h => ?_⟩
    by_cases hj : j < acc.length
    · rw [List.getElem?_append_left hj] at h
      exact hp j e h
    · rw [List.getElem?_append_right (by omega)] at h
      have h3 : j - acc.length = 0 := by
        cases hz : j - acc.length with
        | zero => rfl
        | succ m => rw [hz] at h; simp at h
      rw [h3] at h
      simp at h
      subst h
      have : j = i := by omega
      rw [this]
      exact hd
  · rintro H' ⟨acc, w', hl, hp⟩
    exact q D acc H' hl hp w'
/-- .. over a list -/
theorem n_lcL {xs : List Nat} {k : Nat} (w : Wf F H M) (h : Rk F M v (.lst ds)) (P : Nat → D → Prop) (hn : ds.length ≤ 100000)
    (hw : ∀ v, wipe ((wipe σ xs).set k (some v)) xs = wipe σ xs)
    (step : ∀ i x d D acc H0 C, ds[i]? = some d → Wf ((x, d) :: F) H0 (.ml D acc :: M) → (∀ y d H4, Wf ((y, d) :: F) H4 (.ml D acc :: M) → P i d → C y H4) → te ((wipe σ xs).set k (some x)) H0 C)
    (q : ∀ p es H', es.length = ds.length → (∀ i d, es[i]? = some d → P i d) → Wf F H' (.ml p es :: M) → Q (.ref p) H') :
    ∃ a, v = .ref a ∧ (∃ xs, SqL K H a xs) ∧ LcGo (Itl K a) (gName k) tYes te xs σ Q H := by
  have rk : ∀ D acc, Rk F (.ml D acc :: M) v (.lst ds) := fun D acc => by
    cases h with
    | mem h => exact .mem h
    | ml h => exact .ml (List.mem_cons_of_mem _ h)
  have e0 : ∃ a, v = .ref a ∧ ∃ xs, SqL K H a xs := by
    obtain ⟨I, Mc, w, a, hF⟩ := w.ex
    obtain ⟨p, vs, rfl, hp, b⟩ := h.lst w a hF
    exact ⟨p, rfl, vs, .inl (.inl hp)⟩
  obtain ⟨a, rfl, hx⟩ := e0
  refine ⟨a, rfl, hx, ?_⟩
  have wk : Walk (Itl K a) ds.length (fun H => ∃ D acc, Wf F H (.ml D acc :: M)) (fun i H x H' => H' = H ∧ ∀ xs, SqL K H a xs → xs[i]? = some x) := by
    refine ⟨fun i H hi ⟨D, acc, w⟩ => ?_, fun H ⟨D, acc, w⟩ => ?_, fun i H x H' hi _ y => y⟩
    · obtain ⟨I, Mc, w, ac, hF⟩ := w.ex
      obtain ⟨p, vs, e, hp, b⟩ := (rk D acc).lst w ac hF
      cases e
      have hl : i < vs.length := by rw [b.length]; exact hi
      exact ⟨vs, vs[i], .inl (.inl hp), List.getElem?_eq_getElem hl⟩
    · obtain ⟨I, Mc, w, ac, hF⟩ := w.ex
      obtain ⟨p, vs, e, hp, b⟩ := (rk D acc).lst w ac hF
      cases e
      exact ⟨vs, .inl (.inl hp), by rw [b.length]; exact Nat.le_refl _⟩
  refine n_lc wk w (fun H' D acc w' => ⟨D, acc, w'⟩) P hn hw (fun i x D acc H0 H' C hi w' y k => ?_) q
  obtain ⟨rfl, y⟩ := y
  obtain ⟨I, Mc, w1, ac, hF⟩ := w'.ex
  obtain ⟨p, vs, e, hp, b⟩ := (rk D acc).lst w1 ac hF
  cases e
  obtain ⟨d, e1, e2⟩ := b.of (y vs (.inl (.inl hp)))
  refine step i x d D acc _ C e1 ⟨I, Mc, w1, ac, fun f hf => ?_⟩ k
  rcases List.mem_cons.mp hf with rfl | hf
  · exact e2
  · exact hF f hf
theorem n_lcR {xs : List Nat} {k n : Nat} {lo : Int} (w : Wf F H M) (P : Nat → D → Prop) (hn : n ≤ 100000)
    (hw : ∀ v, wipe ((wipe σ xs).set k (some v)) xs = wipe σ xs)
    (step : ∀ i D acc H0 C, i < n → Wf F H0 (.ml D acc :: M) → (∀ y d H4, Wf ((y, d) :: F) H4 (.ml D acc :: M) → P i d → C y H4) → te ((wipe σ xs).set k (some (.int (lo + i)))) H0 C)
    (q : ∀ p es H', es.length = n → (∀ i d, es[i]? = some d → P i d) → Wf F H' (.ml p es :: M) → Q (.ref p) H') : LcGo (Itr lo n) (gName k) tYes te xs σ Q H :=
  n_lc walk_range w (fun _ _ _ _ => trivial) P hn hw (fun i x D acc H0 H' C hi w' y k => by
    obtain ⟨rfl, rfl⟩ := y
    exact step i D acc _ C hi w' k) q
end
end Fs

namespace Fs
open PySem PySem.Spec PyProof.Rows L2
section
variable {X : Cx} {pos : Pos}
theorem pe_globS {x : Str} {z : Str} (hg : Gl X x) (hm : ∃ t, X.mg x = some (.str z t)) (hd : (x == ("__debug__" : Str)) = false := by decide) : PE X (.Name x pos) (tC (.str z)) := by
  obtain ⟨t, e⟩ := hm
  exact pe_glob hg e ⟨t, rfl⟩ hd
end
section
variable {K : PySem.W.Frag} {σ : L2.St} {H : Hp} {F : List (V × D)} {M M' : List ME} {Q : VK} {G : Ends} {z : Str} {g : TG} {tb : TS} {tk tv : TE}
theorem n_forS (w : Wf F H M) (R : Nat → L2.St → List (V × D) → List ME → Prop) (h0 : R 0 σ F M)
    (step : ∀ i c σ H F M, z.cps.toList[i]? = some c → R i σ F M → Wf F H M → g (.str ⟨#[c]⟩) σ H fun σ2 H2 => tb { G with nx := LI (R (i + 1)), ct := LI (R (i + 1)), bk := G.nx } σ2 H2)
    (fin : ∀ σ H F M, R z.length σ F M → Wf F H M → G.nx σ H) :
    ∃ x, V.str z = .str x ∧ ∃ W : Nat → Nat → L2.St → Hp → Prop, (∃ m, W 0 m σ H) ∧ ∀ i m σ H, W i m σ H →
      ((Its x).stop i H ∧ G.nx σ H) ∨ ((Its x).go i H ∧ ∃ N : L2.St → Hp → Prop, (∀ σ' H', N σ' H' → ∃ m', m' < m ∧ W (i + 1) m' σ' H') ∧ ∀ v H', (Its x).yld i H v H' → g v σ H' fun σ2 H2 => tb { G with nx := N, ct := N, bk := G.nx } σ2 H2) :=
  s_forS (fun i => LI (R i)) ⟨F, M, h0, w⟩ (fun i c σ H hc ⟨F, M, hR, w⟩ => step i c σ H F M hc hR w) fun σ H ⟨F, M, hR, w⟩ => fin σ H F M hR w
/-- a comprehension over a text -/
theorem n_lcS {te : TE} {xs : List Nat} {k : Nat} (w : Wf F H M) (P : Nat → D → Prop) (hn : z.length ≤ 100000)
    (hw : ∀ v, wipe ((wipe σ xs).set k (some v)) xs = wipe σ xs)
    (step : ∀ i c D acc H0 C, z.cps.toList[i]? = some c → Wf F H0 (.ml D acc :: M) → (∀ y d H4, Wf ((y, d) :: F) H4 (.ml D acc :: M) → P i d → C y H4) → te ((wipe σ xs).set k (some (.str ⟨#[c]⟩))) H0 C)
    (q : ∀ p es H', es.length = z.length → (∀ i d, es[i]? = some d → P i d) → Wf F H' (.ml p es :: M) → Q (.ref p) H') :
    ∃ x, V.str z = .str x ∧ LcGo (Its x) (gName k) tYes te xs σ Q H := by
  refine ⟨z, rfl, n_lc walk_str w (fun _ _ _ _ => trivial) P hn hw (fun i x D acc H0 H' C hi w' y k => ?_) q⟩
  obtain ⟨rfl, c, e, rfl⟩ := y
  exact step i c D acc _ C (by rw [Array.getElem?_toList]; exact e) w' k
/-- a displayed dict of one pair -/
def DkQ (Q : VK) (p : Addr) (F : List (V × D)) (M : List ME) (x : V) (H : Hp) : Prop := ∀ H', Wf ((.ref p, .dict) :: F) H' M → Q (.ref p) H'
theorem n_disp1 (w : Wf F H M) (q : ∀ p H', Wf F H' (.raw p (.dK []) :: M) → tk σ H' fun x H1 => tv σ H1 fun y H2 => DispQ Q p x y H2) : tDisp [(tk, tv)] σ H Q := by
  obtain ⟨I, Mc, w, a, hF⟩ := w.ex
  exact s_disp1 w fun p H' _ w' => q p H' ⟨I, _, w', .cons (.raw fun _ e => nomatch e) a, hF⟩
theorem n_dispS {n : Str} {p : Addr} {y : V} (w : Wf F H (.raw p (.dK []) :: M)) (q : ∀ H', Wf ((.ref p, .dict) :: F) H' M → Q (.ref p) H') : DispQ Q p (.str n) y H := by
  obtain ⟨I, Mc, w, a, hF⟩ := w.ex
  cases a with
  | cons h a =>
    cases h
    exact s_dispS w fun J H' s w' h' => q H' ⟨J, _, w', a.mono s, fun f hf => by
      rcases List.mem_cons.mp hf with rfl | hf
      · exact h'
      · exact (hF f hf).mono s⟩
theorem n_dispI {n : Int} {p : Addr} {y : V} (w : Wf F H (.raw p (.dK []) :: M)) (q : ∀ H', Wf ((.ref p, .dict) :: F) H' M → Q (.ref p) H') : DispQ Q p (.int n) y H := by
  obtain ⟨I, Mc, w, a, hF⟩ := w.ex
  cases a with
  | cons h a =>
    cases h
    exact s_dispI w fun J H' s w' h' => q H' ⟨J, _, w', a.mono s, fun f hf => by
      rcases List.mem_cons.mp hf with rfl | hf
      · exact h'
      · exact (hF f hf).mono s⟩
/-- a joined list of signs -/
theorem n_join {p : Addr} {ds : List D} {a : Str} (w : Wf F H M) (h : Rk F M (.ref p) (.lst ds)) (hs : ∀ d ∈ ds, ∃ y : Str, d = .str y ∧ y.length ≤ 1) (hl : ds.length ≤ 1000) (ha : a.length ≤ 1) (q : ∀ z : Str, z.length ≤ 2 * ds.length → Q (.str z) H) : rJoin K (.str a) [.ref p] H Q := by
  obtain ⟨I, Mc, w, ac, hF⟩ := w.ex
  obtain ⟨p', vs, e, hp, b⟩ := h.lst w ac hF
  cases e
  have : ∃ ys : List Str, vs = ys.map V.str ∧ ys.length = ds.length ∧ (ys.map (·.length)).sum ≤ ds.length := by
    clear h hp w hl q
    revert vs
    induction ds with
    | nil => intro vs b; cases b; exact ⟨[], rfl, rfl, by simp⟩
    | cons d ds ih =>
      intro vs b
      cases b with
      | cons h1 b =>
        obtain ⟨y, rfl, hy⟩ := hs d List.mem_cons_self
        obtain ⟨ys, rfl, h3, h4⟩ := ih (fun d hd => hs d (List.mem_cons_of_mem _ hd)) _ b
        rw [h1.str_eq]
        exact ⟨y :: ys, rfl, by simp [h3], by simp only [List.map_cons, List.sum_cons, List.length_cons]; omega⟩
  obtain ⟨ys, rfl, h3, h4⟩ := this
  have h5 : ys.length * a.length ≤ ys.length * 1 := Nat.mul_le_mul_left _ ha
  have h6 := StrLaws.join_length_le a ys
  refine ⟨a, p, ys, rfl, rfl, .inl (.inl (.inl hp)), by omega, q _ ?_⟩
  unfold Txt.join
  rw [StrLaws.glued_eq_join]
  omega
end
end Fs

namespace Fs
open PySem PySem.Spec PyProof.Rows L2
/-! ### what is walked, in one form: the i-th item is known by f -/
structure Src (J : It) (n : Nat) (f : Nat → D) (OK : List (V × D) → List ME → Prop) : Prop where
  go : ∀ i H F M, i < n → OK F M → Wf F H M → J.go i H
  stop : ∀ H F M, OK F M → Wf F H M → J.stop n H
  yld : ∀ i H F M x H', i < n → OK F M → Wf F H M → J.yld i H x H' → Wf ((x, f i) :: F) H' M
section
variable {K : PySem.W.Frag} {σ : L2.St} {H : Hp} {F : List (V × D)} {M M' : List ME} {Q : VK} {G : Ends} {v u x y : V} {ds es : List D} {g : TG} {tb : TS} {te : TE} {tt : TT} {a b : Addr} {J : It} {n : Nat} {f : Nat → D} {OK : List (V × D) → List ME → Prop}
theorem Wf.lstE (w : Wf F H M) (h : Rk F M v (.lst ds)) : ∃ I Mc p vs, v = .ref p ∧ W I H Mc ∧ CnA I M Mc ∧ (∀ f ∈ F, Is I f.1 f.2) ∧ H p = some (.lst vs) ∧ IsA I vs ds := by
  obtain ⟨I, Mc, w, ac, hF⟩ := w.ex
  obtain ⟨p, vs, e, hp, b⟩ := h.lst w ac hF
  exact ⟨I, Mc, p, vs, e, w, ac, hF, hp, b⟩
theorem Wf.cons {I : Hp} {Mc : List (Addr × HO)} {v : V} {d : D} (w : W I H Mc) (ac : CnA I M Mc) (hF : ∀ f ∈ F, Is I f.1 f.2) (h : Is I v d) : Wf ((v, d) :: F) H M := ⟨I, Mc, w, ac, fun f hf => by
  rcases List.mem_cons.mp hf with rfl | hf
  · exact h
  · exact hF f hf⟩
theorem getD_of {i : Nat} {d : D} (h : ds[i]? = some d) : ds.getD i .non = d := by rw [List.getD_eq_getElem?_getD, h]; rfl
theorem src_list : Src (Itl K a) ds.length (fun i => ds.getD i .non) (fun F M => Rk F M (.ref a) (.lst ds)) where
  go := fun i H F M hi ok w => by
    obtain ⟨I, Mc, p, vs, e, w, ac, hF, hp, b⟩ := w.lstE ok
    cases e
    have hl : i < vs.length := by rw [b.length]; exact hi
    exact ⟨vs, vs[i], .inl (.inl hp), List.getElem?_eq_getElem hl⟩
  stop := fun H F M ok w => by
    obtain ⟨I, Mc, p, vs, e, w, ac, hF, hp, b⟩ := w.lstE ok
    cases e
    exact ⟨vs, .inl (.inl hp), by rw [b.length]; exact Nat.le_refl _⟩
  yld := fun i H F M x H' hi ok w y => by
    obtain ⟨I, Mc, p, vs, e, w, ac, hF, hp, b⟩ := w.lstE ok
    cases e
    obtain ⟨rfl, y⟩ := y
    obtain ⟨d, e1, e2⟩ := b.of (y vs (.inl (.inl hp)))
    rw [getD_of e1]
    exact .cons w ac hF e2
theorem src_range {lo : Int} : Src (Itr lo n) n (fun i => .int (lo + i)) (fun _ _ => True) where
  go := fun i H F M hi _ _ => hi
  stop := fun H F M _ _ => Nat.le_refl _
  yld := fun i H F M x H' hi _ w y => by
    obtain ⟨rfl, rfl⟩ := y
    exact w.add (.int _)
theorem Wf.newT {p : Addr} {xs : List V} (w : Wf F H M) (hp : H p = none) (h : ∀ I Mc, W I H Mc → CnA I M Mc → (∀ f ∈ F, Is I f.1 f.2) → IsA I xs ds) : Wf ((.ref p, .tup ds) :: F) (upd H p (.tup xs)) M := by
  obtain ⟨I, Mc, w, ac, hF⟩ := w.ex
  exact .cons (w.newI hp) (ac.mono (w.same hp)) (fun f hf => (hF f hf).mono (w.same hp)) (.tup upd_same ((h I Mc w ac hF).mono (w.same hp)))
theorem src_zip : Src (Itz K a b) (min ds.length es.length) (fun i => .tup [ds.getD i .non, es.getD i .non]) (fun F M => Rk F M (.ref a) (.lst ds) ∧ Rk F M (.ref b) (.lst es)) where
  go := fun i H F M hi ok w => by
    obtain ⟨I, Mc, w, ac, hF⟩ := w.ex
    obtain ⟨p, vs, e, hp, b1⟩ := ok.1.lst w ac hF
    cases e
    obtain ⟨p, us, e, hp2, b2⟩ := ok.2.lst w ac hF
    cases e
    have hl : i < vs.length := by rw [b1.length]; omega
    have hl2 : i < us.length := by rw [b2.length]; omega
    exact ⟨vs, us, vs[i], us[i], .inl (.inl hp), .inl (.inl hp2), List.getElem?_eq_getElem hl, List.getElem?_eq_getElem hl2⟩
  stop := fun H F M ok w => by
    obtain ⟨I, Mc, w, ac, hF⟩ := w.ex
    obtain ⟨p, vs, e, hp, b1⟩ := ok.1.lst w ac hF
    cases e
    obtain ⟨p, us, e, hp2, b2⟩ := ok.2.lst w ac hF
    cases e
    exact ⟨vs, us, .inl (.inl hp), .inl (.inl hp2), by rw [b1.length, b2.length]; omega⟩
  yld := fun i H F M x H' hi ok w y => by
    obtain ⟨T, x, y', rfl, hT, rfl, h1, h2⟩ := y
    refine w.newT hT fun I Mc w ac hF => ?_
    obtain ⟨p, vs, e, hp, b1⟩ := ok.1.lst w ac hF
    cases e
    obtain ⟨p, us, e, hp2, b2⟩ := ok.2.lst w ac hF
    cases e
    obtain ⟨d, e1, f1⟩ := b1.of (h1 vs (.inl (.inl hp)))
    obtain ⟨e', e2, f2⟩ := b2.of (h2 us (.inl (.inl hp2)))
    rw [getD_of e1, getD_of e2]
    exact .cons f1 (.cons f2 .nil)
theorem src_enum : Src (Ite K a) ds.length (fun i => .tup [.int (i : Nat), ds.getD i .non]) (fun F M => Rk F M (.ref a) (.lst ds)) where
  go := fun i H F M hi ok w => by
    obtain ⟨I, Mc, p, vs, e, w, ac, hF, hp, b⟩ := w.lstE ok
    cases e
    have hl : i < vs.length := by rw [b.length]; exact hi
    exact ⟨vs, vs[i], .inl (.inl hp), List.getElem?_eq_getElem hl⟩
  stop := fun H F M ok w => by
    obtain ⟨I, Mc, p, vs, e, w, ac, hF, hp, b⟩ := w.lstE ok
    cases e
    exact ⟨vs, .inl (.inl hp), by rw [b.length]; exact Nat.le_refl _⟩
  yld := fun i H F M x H' hi ok w y => by
    obtain ⟨T, x, rfl, hT, rfl, h1⟩ := y
    refine w.newT hT fun I Mc w ac hF => ?_
    obtain ⟨p, vs, e, hp, b1⟩ := ok.lst w ac hF
    cases e
    obtain ⟨d, e1, f1⟩ := b1.of (h1 vs (.inl (.inl hp)))
    rw [getD_of e1]
    exact .cons (.int _) (.cons f1 .nil)
/-- a for over such -/
theorem n_forJ (S : Src J n f OK) (w : Wf F H M) (R : Nat → L2.St → List (V × D) → List ME → Prop) (hv : ∀ i σ F M, R i σ F M → OK F M) (h0 : R 0 σ F M)
    (step : ∀ i x σ H F M, i < n → R i σ F M → Wf ((x, f i) :: F) H M → g x σ H fun σ2 H2 => tb { G with nx := LI (R (i + 1)), ct := LI (R (i + 1)), bk := G.nx } σ2 H2)
    (fin : ∀ σ H F M, R n σ F M → Wf F H M → G.nx σ H) :
    ∃ W : Nat → Nat → L2.St → Hp → Prop, (∃ m, W 0 m σ H) ∧ ∀ i m σ H, W i m σ H →
      (J.stop i H ∧ G.nx σ H) ∨ (J.go i H ∧ ∃ N : L2.St → Hp → Prop, (∀ σ' H', N σ' H' → ∃ m', m' < m ∧ W (i + 1) m' σ' H') ∧ ∀ x H', J.yld i H x H' → g x σ H' fun σ2 H2 => tb { G with nx := N, ct := N, bk := G.nx } σ2 H2) := by
  refine ⟨fun i m σ H => m = n - i ∧ i ≤ n ∧ LI (R i) σ H, ⟨n, rfl, Nat.zero_le _, F, M, h0, w⟩, ?_⟩
  rintro i m σ H ⟨rfl, hi, F, M, hR, w⟩
  by_cases hlt : i < n
  · exact .inr ⟨S.go i H F M hlt (hv _ _ _ _ hR) w, LI (R (i + 1)), fun σ' H' z => ⟨n - (i + 1), by omega, rfl, hlt, z⟩, fun x H' y => step i x σ H' F M hlt hR (S.yld i H F M x H' hlt (hv _ _ _ _ hR) w y)⟩
  · have e : i = n := by omega
    subst e
    exact .inl ⟨S.stop H F M (hv _ _ _ _ hR) w, fin σ H F M hR w⟩
theorem n_zip (w : Wf F H M) (R : Nat → L2.St → List (V × D) → List ME → Prop) (hv : ∀ i σ F M, R i σ F M → Rk F M v (.lst ds) ∧ Rk F M u (.lst es)) (h0 : R 0 σ F M)
    (step : ∀ i d e x σ H F M, ds[i]? = some d → es[i]? = some e → R i σ F M → Wf ((x, .tup [d, e]) :: F) H M → g x σ H fun σ2 H2 => tb { G with nx := LI (R (i + 1)), ct := LI (R (i + 1)), bk := G.nx } σ2 H2)
    (fin : ∀ σ H F M, R (min ds.length es.length) σ F M → Wf F H M → G.nx σ H) :
    ∃ a b xs ys, [v, u] = [V.ref a, .ref b] ∧ SqL K H a xs ∧ SqL K H b ys ∧ ∃ W : Nat → Nat → L2.St → Hp → Prop, (∃ m, W 0 m σ H) ∧ ∀ i m σ H, W i m σ H →
      ((Itz K a b).stop i H ∧ G.nx σ H) ∨ ((Itz K a b).go i H ∧ ∃ N : L2.St → Hp → Prop, (∀ σ' H', N σ' H' → ∃ m', m' < m ∧ W (i + 1) m' σ' H') ∧ ∀ x H', (Itz K a b).yld i H x H' → g x σ H' fun σ2 H2 => tb { G with nx := N, ct := N, bk := G.nx } σ2 H2) := by
  obtain ⟨I, Mc, w1, ac, hF⟩ := w.ex
  obtain ⟨p, vs, rfl, hp, b1⟩ := (hv _ _ _ _ h0).1.lst w1 ac hF
  obtain ⟨q, us, rfl, hq, b2⟩ := (hv _ _ _ _ h0).2.lst w1 ac hF
  refine ⟨p, q, vs, us, rfl, .inl (.inl hp), .inl (.inl hq), n_forJ src_zip w R hv h0 (fun i x σ H F M hi hR w => ?_) fin⟩
  have h1 : i < ds.length := by omega
  have h2 : i < es.length := by omega
  have e1 : ds[i]? = some ds[i] := List.getElem?_eq_getElem h1
  have e2 : es[i]? = some es[i] := List.getElem?_eq_getElem h2
  rw [getD_of e1, getD_of e2] at w
  exact step i _ _ x σ H F M e1 e2 hR w
theorem s_enum {σ : L2.St} {ta : TA} {R : It → Hp → Prop} (h : ta σ H fun vs H1 => ∃ a xs, vs = [.ref a] ∧ SqL K H1 a xs ∧ R (Ite K a) H1) : iEnum K ta σ H R := h
theorem n_enum (w : Wf F H M) (R : Nat → L2.St → List (V × D) → List ME → Prop) (hv : ∀ i σ F M, R i σ F M → Rk F M v (.lst ds)) (h0 : R 0 σ F M)
    (step : ∀ i d x σ H F M, ds[i]? = some d → R i σ F M → Wf ((x, .tup [.int (i : Nat), d]) :: F) H M → g x σ H fun σ2 H2 => tb { G with nx := LI (R (i + 1)), ct := LI (R (i + 1)), bk := G.nx } σ2 H2)
    (fin : ∀ σ H F M, R ds.length σ F M → Wf F H M → G.nx σ H) :
    ∃ a xs, [v] = [V.ref a] ∧ SqL K H a xs ∧ ∃ W : Nat → Nat → L2.St → Hp → Prop, (∃ m, W 0 m σ H) ∧ ∀ i m σ H, W i m σ H →
      ((Ite K a).stop i H ∧ G.nx σ H) ∨ ((Ite K a).go i H ∧ ∃ N : L2.St → Hp → Prop, (∀ σ' H', N σ' H' → ∃ m', m' < m ∧ W (i + 1) m' σ' H') ∧ ∀ x H', (Ite K a).yld i H x H' → g x σ H' fun σ2 H2 => tb { G with nx := N, ct := N, bk := G.nx } σ2 H2) := by
  obtain ⟨I, Mc, p, vs, rfl, w1, ac, hF, hp, b⟩ := w.lstE (hv _ _ _ _ h0)
  refine ⟨p, vs, rfl, .inl (.inl hp), n_forJ src_enum w R hv h0 (fun i x σ H F M hi hR w => ?_) fin⟩
  have e1 : ds[i]? = some ds[i] := List.getElem?_eq_getElem hi
  rw [getD_of e1] at w
  exact step i _ x σ H F M e1 hR w
/-- any comprehension: acc is what was kept so far -/
theorem n_lcJ {xs : List Nat} (S : Src J n f OK) (w : Wf F H M) (ok : OK F M) (okm : ∀ D acc, OK F M → OK F (.ml D acc :: M)) (R : Nat → List D → Prop) (h0 : R 0 []) (hn : n ≤ 100000)
    (step : ∀ i x D acc H0 (Ap : VK) (Sk : Hp → Prop), i < n → R i acc → Wf ((x, f i) :: F) H0 (.ml D acc :: M) → (∀ y d H4, Wf ((y, d) :: F) H4 (.ml D acc :: M) → R (i + 1) (acc ++ [d]) → Ap y H4) → (∀ H3, Wf F H3 (.ml D acc :: M) → R (i + 1) acc → Sk H3) →
      g x (wipe σ xs) H0 fun σ2 H2 => wipe σ2 xs = wipe σ xs ∧ tt σ2 H2 fun b H3 => if b = true then te σ2 H3 Ap else Sk H3)
    (q : ∀ p es H', R n es → Wf F H' (.ml p es :: M) → Q (.ref p) H') : LcGo J g tt te xs σ Q H := by
  intro D nD
  have w0 : Wf F (upd H D (.lst [])) (.ml D [] :: M) := by
    obtain ⟨I, Mc, w, a, hF⟩ := w.ex
    exact ⟨I, _, w.newM nD, .cons (.ml .nil) a, hF⟩
  refine ⟨fun i m H => m = n - i ∧ i ≤ n ∧ ∃ acc, R i acc ∧ acc.length ≤ i ∧ Wf F H (.ml D acc :: M), ⟨n, rfl, Nat.zero_le _, [], h0, Nat.le_refl _, w0⟩, ?_⟩
  rintro i m H ⟨rfl, hi, acc, hR, hl, w⟩
  by_cases hlt : i < n
  · refine .inr ⟨S.go i H _ _ hlt (okm _ _ ok) w, fun H' => ∃ acc, R (i + 1) acc ∧ acc.length ≤ i + 1 ∧ Wf F H' (.ml D acc :: M), fun H' ⟨acc', h1, h2, h3⟩ => ⟨n - (i + 1), by omega, rfl, hlt, acc', h1, h2, h3⟩, fun x H' y => ?_⟩
    refine step i x D acc H' _ _ hlt hR (S.yld i H _ _ x H' hlt (okm _ _ ok) w y) (fun y d H4 w4 r => ?_) fun H3 w3 r => ⟨acc, r, by omega, w3⟩
    obtain ⟨vs, h1, h2⟩ := w4.lstAt List.mem_cons_self
    have w5 : Wf F (upd H4 D (.lst (vs ++ [y]))) (.ml D (acc ++ [d]) :: M) := by
      obtain ⟨I, Mc, w, a, hF⟩ := w4.ex
      cases a with
      | cons h a =>
        cases h with
        | ml b =>
          have := w.at0
          rw [this] at h1
          cases h1
          exact ⟨I, _, w.put0, .cons (.ml (b.app (.one (hF _ List.mem_cons_self)))) a, fun f hf => hF f (List.mem_cons_of_mem _ hf)⟩
    exact ⟨vs, h1, by rw [h2]; exact Nat.lt_of_le_of_lt hl (Nat.lt_of_lt_of_le hlt (Nat.le_trans hn (by decide))), acc ++ [d], r, by rw [List.length_append]; exact Nat.add_le_add_right hl 1, w5⟩
  · have e : i = n := by omega
    subst e
    exact .inl ⟨S.stop H _ _ (okm _ _ ok) w, q D acc H hR w⟩
theorem Rk.more {e : ME} {d : D} (h : Rk F M v d) : Rk F (e :: M) v d := by
  cases h with
  | mem h => exact .mem h
  | int n => exact .int n
  | bl n => exact .bl n
  | str n => exact .str n
  | non => exact .non
  | ml h => exact .ml (List.mem_cons_of_mem _ h)
  | mi h => exact .mi (List.mem_cons_of_mem _ h)
theorem Rk.moreF {f : V × D} {d : D} (h : Rk F M v d) : Rk (f :: F) M v d := by
  cases h with
  | mem h => exact .mem (List.mem_cons_of_mem _ h)
  | int n => exact .int n
  | bl n => exact .bl n
  | str n => exact .str n
  | non => exact .non
  | ml h => exact .ml h
  | mi h => exact .mi h
/-- .. over a list -/
theorem n_lcG {xs : List Nat} (w : Wf F H M) (h : Rk F M v (.lst ds)) (R : Nat → List D → Prop) (h0 : R 0 []) (hn : ds.length ≤ 100000)
    (step : ∀ i d x D acc H0 (Ap : VK) (Sk : Hp → Prop), ds[i]? = some d → R i acc → Wf ((x, d) :: F) H0 (.ml D acc :: M) → (∀ y d H4, Wf ((y, d) :: F) H4 (.ml D acc :: M) → R (i + 1) (acc ++ [d]) → Ap y H4) → (∀ H3, Wf F H3 (.ml D acc :: M) → R (i + 1) acc → Sk H3) →
      g x (wipe σ xs) H0 fun σ2 H2 => wipe σ2 xs = wipe σ xs ∧ tt σ2 H2 fun b H3 => if b = true then te σ2 H3 Ap else Sk H3)
    (q : ∀ p es H', R ds.length es → Wf F H' (.ml p es :: M) → Q (.ref p) H') : ∃ a, v = .ref a ∧ (∃ xs, SqL K H a xs) ∧ LcGo (Itl K a) g tt te xs σ Q H := by
  obtain ⟨I, Mc, p, vs, rfl, w1, ac, hF, hp, b⟩ := w.lstE h
  refine ⟨p, rfl, ⟨vs, .inl (.inl hp)⟩, n_lcJ src_list w h (fun D acc h => h.more) R h0 hn (fun i x D acc H0 Ap Sk hi hR w k1 k2 => ?_) q⟩
  have e1 : ds[i]? = some ds[i] := List.getElem?_eq_getElem hi
  rw [getD_of e1] at w
  exact step i _ x D acc H0 Ap Sk e1 hR w k1 k2
theorem n_lcZ {xs : List Nat} (w : Wf F H M) (h : Rk F M v (.lst ds)) (h' : Rk F M u (.lst es)) (R : Nat → List D → Prop) (h0 : R 0 []) (hn : ds.length ≤ 100000)
    (step : ∀ i d e x D acc H0 (Ap : VK) (Sk : Hp → Prop), ds[i]? = some d → es[i]? = some e → R i acc → Wf ((x, .tup [d, e]) :: F) H0 (.ml D acc :: M) → (∀ y d H4, Wf ((y, d) :: F) H4 (.ml D acc :: M) → R (i + 1) (acc ++ [d]) → Ap y H4) → (∀ H3, Wf F H3 (.ml D acc :: M) → R (i + 1) acc → Sk H3) →
      g x (wipe σ xs) H0 fun σ2 H2 => wipe σ2 xs = wipe σ xs ∧ tt σ2 H2 fun b H3 => if b = true then te σ2 H3 Ap else Sk H3)
    (q : ∀ p es' H', R (min ds.length es.length) es' → Wf F H' (.ml p es' :: M) → Q (.ref p) H') : ∃ a b xs' ys, [v, u] = [V.ref a, .ref b] ∧ SqL K H a xs' ∧ SqL K H b ys ∧ LcGo (Itz K a b) g tt te xs σ Q H := by
  obtain ⟨I, Mc, w1, ac, hF⟩ := w.ex
  obtain ⟨p, vs, rfl, hp, b1⟩ := h.lst w1 ac hF
  obtain ⟨p', us, rfl, hq, b2⟩ := h'.lst w1 ac hF
  refine ⟨p, p', vs, us, rfl, .inl (.inl hp), .inl (.inl hq), n_lcJ src_zip w ⟨h, h'⟩ (fun D acc h => ⟨h.1.more, h.2.more⟩) R h0 (by omega) (fun i x D acc H0 Ap Sk hi hR w k1 k2 => ?_) q⟩
  have h1 : i < ds.length := by omega
  have h2 : i < es.length := by omega
  have e1 : ds[i]? = some ds[i] := List.getElem?_eq_getElem h1
  have e2 : es[i]? = some es[i] := List.getElem?_eq_getElem h2
  rw [getD_of e1, getD_of e2] at w
  exact step i _ _ x D acc H0 Ap Sk e1 e2 hR w k1 k2
theorem n_lcE {xs : List Nat} (w : Wf F H M) (h : Rk F M v (.lst ds)) (R : Nat → List D → Prop) (h0 : R 0 []) (hn : ds.length ≤ 100000)
    (step : ∀ i d x D acc H0 (Ap : VK) (Sk : Hp → Prop), ds[i]? = some d → R i acc → Wf ((x, .tup [.int (i : Nat), d]) :: F) H0 (.ml D acc :: M) → (∀ y d H4, Wf ((y, d) :: F) H4 (.ml D acc :: M) → R (i + 1) (acc ++ [d]) → Ap y H4) → (∀ H3, Wf F H3 (.ml D acc :: M) → R (i + 1) acc → Sk H3) →
      g x (wipe σ xs) H0 fun σ2 H2 => wipe σ2 xs = wipe σ xs ∧ tt σ2 H2 fun b H3 => if b = true then te σ2 H3 Ap else Sk H3)
    (q : ∀ p es H', R ds.length es → Wf F H' (.ml p es :: M) → Q (.ref p) H') : ∃ a xs', [v] = [V.ref a] ∧ SqL K H a xs' ∧ LcGo (Ite K a) g tt te xs σ Q H := by
  obtain ⟨I, Mc, p, vs, rfl, w1, ac, hF, hp, b⟩ := w.lstE h
  refine ⟨p, vs, rfl, .inl (.inl hp), n_lcJ src_enum w h (fun D acc h => h.more) R h0 hn (fun i x D acc H0 Ap Sk hi hR w k1 k2 => ?_) q⟩
  have e1 : ds[i]? = some ds[i] := List.getElem?_eq_getElem hi
  rw [getD_of e1] at w
  exact step i _ x D acc H0 Ap Sk e1 hR w k1 k2
theorem n_lcN {xs : List Nat} {lo : Int} (w : Wf F H M) (R : Nat → List D → Prop) (h0 : R 0 []) (hn : n ≤ 100000)
    (step : ∀ i D acc H0 (Ap : VK) (Sk : Hp → Prop), i < n → R i acc → Wf F H0 (.ml D acc :: M) → (∀ y d H4, Wf ((y, d) :: F) H4 (.ml D acc :: M) → R (i + 1) (acc ++ [d]) → Ap y H4) → (∀ H3, Wf F H3 (.ml D acc :: M) → R (i + 1) acc → Sk H3) →
      g (.int (lo + i)) (wipe σ xs) H0 fun σ2 H2 => wipe σ2 xs = wipe σ xs ∧ tt σ2 H2 fun b H3 => if b = true then te σ2 H3 Ap else Sk H3)
    (q : ∀ p es H', R n es → Wf F H' (.ml p es :: M) → Q (.ref p) H') : LcGo (Itr lo n) g tt te xs σ Q H :=
  n_lcJ src_range w trivial (fun _ _ _ => trivial) R h0 hn (fun i x D acc H0 Ap Sk hi hR w k1 k2 => by
    have w2 := w.eq0.2
    rw [w.eq0.1]
    exact step i D acc H0 Ap Sk hi hR w2 k1 k2) q
-- ints in lists
theorem Wf.ints {ns : List Int} (w : Wf F H M) (h : Rk F M v (.lst (ns.map D.int))) : ∃ p, v = .ref p ∧ H p = some (.lst (ns.map V.int)) := by
  obtain ⟨I, Mc, p, vs, rfl, w1, ac, hF, hp, b⟩ := w.lstE h
  exact ⟨p, rfl, by rw [hp, b.ints_eq]⟩
theorem n_min {ns : List Int} (w : Wf F H M) (h : Rk F M v (.lst (ns.map D.int))) (h0 : 0 < ns.length) (q : ∀ m, m ∈ ns → (∀ y ∈ ns, m ≤ y) → Q (.int m) H) : rMinU K [v] H Q := by
  obtain ⟨p, rfl, hp⟩ := w.ints h
  exact .inr ⟨p, ns, rfl, .inl (.inl hp), h0, q⟩
theorem n_max {ns : List Int} (w : Wf F H M) (h : Rk F M v (.lst (ns.map D.int))) (h0 : 0 < ns.length) (q : ∀ m, m ∈ ns → (∀ y ∈ ns, y ≤ m) → Q (.int m) H) : rMaxU K [v] H Q := by
  obtain ⟨p, rfl, hp⟩ := w.ints h
  exact .inr ⟨p, ns, rfl, .inl (.inl hp), h0, q⟩
theorem n_sum {ns : List Int} (w : Wf F H M) (h : Rk F M v (.lst (ns.map D.int))) (q : Q (.int ns.sum) H) : rSum K [v] H Q := by
  obtain ⟨p, rfl, hp⟩ := w.ints h
  exact ⟨p, ns, rfl, .inl (.inl hp), q⟩
theorem n_sorted {ns : List Int} (w : Wf F H M) (h : Rk F M v (.lst (ns.map D.int))) (q : ∀ (ms : List Int) p H', ms.Perm ns → ms.Pairwise (· ≤ ·) → Wf F H' (.ml p (ms.map D.int) :: M) → Q (.ref p) H') : rSortedI K [v] H Q := by
  obtain ⟨p, rfl, hp⟩ := w.ints h
  refine ⟨p, ns, rfl, .inl (.inl hp), fun ms p h1 h2 h3 => q ms p _ h1 h2 ?_⟩
  obtain ⟨I, Mc, w, a, hF⟩ := w.ex
  exact ⟨I, _, w.newM h3, .cons (.ml (IsA.ints ms)) a, hF⟩
theorem IsA.flat {I : Hp} {vs : List V} (a : IsA I vs ds) : ∀ n : Nat, IsA I (List.replicate n vs).flatten (List.replicate n ds).flatten
  | 0 => .nil
  | n + 1 => by
    rw [List.replicate_succ, List.replicate_succ, List.flatten_cons, List.flatten_cons]
    exact a.app (IsA.flat a n)
theorem flat_one {α : Type} (x : α) : ∀ n : Nat, (List.replicate n [x]).flatten = List.replicate n x
  | 0 => rfl
  | n + 1 => by rw [List.replicate_succ, List.flatten_cons, flat_one x n]; rfl
theorem n_rep {k : Int} (w : Wf F H M) (h : Rk F M v (.lst ds)) (h1 : -(2 ^ 63) ≤ k) (h2 : k < 2 ^ 63) (hz : ds.length * k.toNat ≤ 100000) (q : ∀ p H', Wf F H' (.ml p (List.replicate k.toNat ds).flatten :: M) → Q (.ref p) H') : rMulU v (.int k) H Q := by
  obtain ⟨I, Mc, p, vs, rfl, w1, ac, hF, hp, b⟩ := w.lstE h
  exact .inr ⟨p, k, vs, rfl, rfl, hp, h1, h2, by rw [b.length]; exact Nat.le_trans hz (by decide), fun l hl => q l _ ⟨I, _, w1.newM hl, .cons (.ml (b.flat _)) ac, hF⟩⟩
/-- [d] * k -/
theorem n_rep1 {k : Int} {d : D} (w : Wf F H M) (h : Rk F M v (.lst [d])) (h1 : 0 ≤ k) (h2 : k ≤ 100000) (q : ∀ p H', Wf F H' (.ml p (List.replicate k.toNat d) :: M) → Q (.ref p) H') : rMulU v (.int k) H Q :=
  n_rep w h (by omega) (by omega) (by rw [List.length_singleton]; omega) fun p H' w => q p H' (by rw [flat_one] at w; exact w)
def rTupOf (K : PySem.W.Frag) : List V → Hp → VK → Prop := fun xs H Q => ∃ p ys, xs = [.ref p] ∧ ((SqL K H p ys ∧ ∀ l, H l = none → Q (.ref l) (upd H l (.tup ys))) ∨ (SqT K H p ys ∧ Q (.ref p) H))
theorem k_tuple {X : Cx} (h : X.K = K) : CallR X (.type "tuple") (rTupOf K) := h ▸ call_tuple_of
theorem n_tupL (w : Wf F H M) (h : Rk F M v (.lst ds)) (q : ∀ p H', Wf ((.ref p, .tup ds) :: F) H' M → Q (.ref p) H') : rTupOf K [v] H Q := by
  obtain ⟨I, Mc, p, vs, rfl, w1, ac, hF, hp, b⟩ := w.lstE h
  exact ⟨p, vs, rfl, .inl ⟨.inl (.inl hp), fun l hl => q l _ (.cons (w1.newI hl) (ac.mono (w1.same hl)) (fun f hf => (hF f hf).mono (w1.same hl)) (.tup upd_same (b.mono (w1.same hl))))⟩⟩
-- dicts with tuples as keys
def keyD : Key → D
  | .inl i => .int i
  | .inr x => .str x
def getP {κ : Type} [DecidableEq κ] (kvs : List (κ × D)) (k : κ) : Option D := (kvs.find? fun kv => decide (kv.1 = k)).map (·.2)
def putP {κ : Type} [DecidableEq κ] (kvs : List (κ × D)) (k : κ) (d : D) : List (κ × D) :=
  if (kvs.any fun kv => decide (kv.1 = k)) = true then kvs.map (fun kv => if kv.1 = k then (kv.1, d) else kv) else kvs ++ [(k, d)]
theorem IsP.length {I : Hp} {κ : Type} : ∀ {vs : List (κ × V)} {ds : List (κ × D)}, IsP I vs ds → vs.length = ds.length
  | _, _, .nil => rfl
  | _, _, .cons _ a => by rw [List.length_cons, List.length_cons, a.length]
theorem IsP.app {I : Hp} {κ : Type} {us : List (κ × V)} {es : List (κ × D)} (b : IsP I us es) : ∀ {vs : List (κ × V)} {ds : List (κ × D)}, IsP I vs ds → IsP I (vs ++ us) (ds ++ es)
  | _, _, .nil => b
  | _, _, .cons h a => .cons h (IsP.app b a)
theorem IsP.get {I : Hp} {κ : Type} [DecidableEq κ] {k : κ} : ∀ {vs : List (κ × V)} {ds : List (κ × D)}, IsP I vs ds → (getP ds k = none ∧ valV vs k = none) ∨ ∃ v d, valV vs k = some v ∧ getP ds k = some d ∧ Is I v d
  | _, _, .nil => .inl ⟨rfl, rfl⟩
  | _, _, .cons (f := f) h a => by
    by_cases e : f = k
    · exact .inr ⟨_, _, by simp [valV, List.find?_cons, e], by simp [getP, List.find?_cons, e], h⟩
    · rcases IsP.get (k := k) a with ⟨h1, h2⟩ | ⟨v, d, h1, h2, h3⟩
      · exact .inl ⟨by simpa [getP, List.find?_cons, e] using h1, by simpa [valV, List.find?_cons, e] using h2⟩
      · exact .inr ⟨v, d, by simpa [valV, List.find?_cons, e] using h1, by simpa [getP, List.find?_cons, e] using h2, h3⟩
theorem IsP.any {I : Hp} {κ : Type} [DecidableEq κ] {k : κ} : ∀ {vs : List (κ × V)} {ds : List (κ × D)}, IsP I vs ds → (vs.any fun kv => decide (kv.1 = k)) = ds.any fun kv => decide (kv.1 = k)
  | _, _, .nil => rfl
  | _, _, .cons h a => by rw [List.any_cons, List.any_cons, IsP.any a]
theorem IsP.mapP {I : Hp} {κ : Type} [DecidableEq κ] {k : κ} {v : V} {d : D} (h : Is I v d) : ∀ {vs : List (κ × V)} {ds : List (κ × D)}, IsP I vs ds → IsP I (vs.map fun kv => if kv.1 = k then (kv.1, v) else kv) (ds.map fun kv => if kv.1 = k then (kv.1, d) else kv)
  | _, _, .nil => .nil
  | _, _, .cons (f := f) h' a => by
    rw [List.map_cons, List.map_cons]
    by_cases e : f = k
    · simp only [e, if_true]; exact .cons h (IsP.mapP h a)
    · simp only [e, if_false]; exact .cons h' (IsP.mapP h a)
theorem IsP.put {I : Hp} {κ : Type} [DecidableEq κ] {k : κ} {v : V} {d : D} (h : Is I v d) {vs : List (κ × V)} {ds : List (κ × D)} (a : IsP I vs ds) : IsP I (putK vs k v) (putP ds k d) := by
  unfold putK putP
  rw [a.any]
  split
  · exact a.mapP h
  · exact IsP.app (.cons h .nil) a
theorem isA_keys {I : Hp} : ∀ {k : List Key} {vs : List V}, IsA I vs (k.map keyD) → vs = k.map kV
  | [], _, h => by cases h; rfl
  | k :: r, _, h => by
    cases h with
    | cons h a =>
      rw [isA_keys a]
      cases k with
      | inl i => rw [h.int_eq]; rfl
      | inr i => rw [h.str_eq]; rfl
def DGetQ (Q : VK) (x y : V) (H : Hp) : Prop := ∃ a v, x = .ref a ∧ DGet H a y (some v) ∧ Q v H
def DInQ (P : Bool → Prop) (x y : V) (H : Hp) : Prop := ∃ a o, x = .ref a ∧ DGet H a y o ∧ P o.isSome
def DPutQ (P : Hp → Prop) (x y v : V) (H : Hp) : Prop := ∃ a H4, x = .ref a ∧ DPut H a y v H4 ∧ P H4
theorem s_dget {td ty : TE} (h : td σ H fun x H1 => ty σ H1 fun y H2 => DGetQ Q x y H2) : tDGet td ty σ H Q := h
theorem s_din {td ty : TE} (h : ty σ H fun y H1 => td σ H1 fun x H2 => DInQ (fun b => Q (.bl b) H2) x y H2) : tDIn ty td σ H Q := h
theorem s_dnotin {td ty : TE} (h : ty σ H fun y H1 => td σ H1 fun x H2 => DInQ (fun b => Q (.bl (!b)) H2) x y H2) : tDNotIn ty td σ H Q := h
theorem s_dput {td ty tv : TE} (h : tv σ H fun v H1 => td σ H1 fun x H2 => ty σ H2 fun y H3 => DPutQ (fun H4 => G.nx σ H4) x y v H3) : sDPut td ty tv G σ H := h
theorem s_dnewT (w : Wf F H M) (q : ∀ p H', Wf F H' (.dt p [] :: M) → Q (.ref p) H') : tDNewT σ H Q := fun p hp => by
  obtain ⟨I, Mc, w, a, hF⟩ := w.ex
  exact q p _ ⟨I, _, w.newM hp, .cons (.dt .nil) a, hF⟩
theorem s_dnewK (w : Wf F H M) (q : ∀ p H', Wf F H' (.dk p [] :: M) → Q (.ref p) H') : tDNewK σ H Q := fun p hp => by
  obtain ⟨I, Mc, w, a, hF⟩ := w.ex
  exact q p _ ⟨I, _, w.newM hp, .cons (.dk .nil) a, hF⟩
theorem Wf.keyT {k : List Key} (w : Wf F H M) (h : Rk F M y (.tup (k.map keyD))) : ∃ b, y = .ref b ∧ H b = some (.tup (k.map kV)) := by
  obtain ⟨I, Mc, w, a, hF⟩ := w.ex
  obtain ⟨p, vs, rfl, hp, b⟩ := h.tup w a hF
  exact ⟨p, rfl, by rw [hp, isA_keys b]⟩
theorem Wf.dtAt {p : Addr} {kvs : List (List Key × D)} (w : Wf F H M) (h : .dt p kvs ∈ M) : ∃ I Mc vs, W I H Mc ∧ CnA I M Mc ∧ (∀ f ∈ F, Is I f.1 f.2) ∧ H p = some (.dT vs) ∧ IsP I vs kvs := by
  obtain ⟨I, Mc, w, a, hF⟩ := w.ex
  obtain ⟨m, h1, h2⟩ := a.mem h
  cases h2 with
  | dt b => exact ⟨I, Mc, _, w, a, hF, (w.mu _ h1).1, b⟩
theorem n_dinT {P : Bool → Prop} {p : Addr} {kvs : List (List Key × D)} {k : List Key} (w : Wf F H M) (h : .dt p kvs ∈ M) (hy : Rk F M y (.tup (k.map keyD))) (q : P (getP kvs k).isSome) : DInQ P (.ref p) y H := by
  obtain ⟨b, rfl, hb⟩ := w.keyT hy
  obtain ⟨I, Mc, vs, w, a, hF, hp, ha⟩ := w.dtAt h
  refine ⟨p, _, rfl, DGet.t hp hb, ?_⟩
  rcases ha.get (k := k) with ⟨h1, h2⟩ | ⟨v, d, h1, h2, h3⟩
  · rw [h2]; rw [h1] at q; exact q
  · rw [h1]; rw [h2] at q; exact q
theorem n_dgetT {p : Addr} {kvs : List (List Key × D)} {k : List Key} {d : D} (w : Wf F H M) (h : .dt p kvs ∈ M) (hy : Rk F M y (.tup (k.map keyD))) (hd : getP kvs k = some d) (q : ∀ u, Wf ((u, d) :: F) H M → Q u H) : DGetQ Q (.ref p) y H := by
  obtain ⟨b, rfl, hb⟩ := w.keyT hy
  obtain ⟨I, Mc, vs, w, a, hF, hp, ha⟩ := w.dtAt h
  rcases ha.get (k := k) with ⟨h1, h2⟩ | ⟨v, d', h1, h2, h3⟩
  · rw [h1] at hd; cases hd
  · rw [h2] at hd; cases hd
    exact ⟨p, v, rfl, h1 ▸ DGet.t hp hb, q v (.cons w a hF h3)⟩
theorem n_dputT {P : Hp → Prop} {p : Addr} {kvs : List (List Key × D)} {k : List Key} {d : D} (w : Wf F H M) (f : Foc M (.dt p kvs) M' (.dt p (putP kvs k d))) (hy : Rk F M y (.tup (k.map keyD))) (hv : Kn F v d) (hl : kvs.length ≤ 100000) (q : ∀ H', Wf F H' M' → P H') : DPutQ P (.ref p) y v H := by
  obtain ⟨b, rfl, hb⟩ := w.keyT hy
  obtain ⟨I, Mc, w, a, hF⟩ := w.ex
  obtain ⟨M1, m, M2, rfl, h3, h4⟩ := a.foc f
  cases h3 with
  | dt ha => exact ⟨p, _, rfl, DPut.t w.at hb (by rw [ha.length]; exact Nat.lt_of_le_of_lt hl (by decide)), q _ ⟨I, _, w.put, h4 I _ (Same.refl _) (.dt (ha.put (hv.is hF))), hF⟩⟩
-- keys are ints and texts
theorem Wf.keyK {k : Key} (w : Wf F H M) (h : Rk F M y (keyD k)) : y = kV k := by
  have := w.rd h
  cases k with
  | inl i => exact this.int_eq
  | inr i => exact this.str_eq
theorem Wf.dkAt {p : Addr} {kvs : List (Key × D)} (w : Wf F H M) (h : .dk p kvs ∈ M) : ∃ I Mc vs, W I H Mc ∧ CnA I M Mc ∧ (∀ f ∈ F, Is I f.1 f.2) ∧ H p = some (.dK vs) ∧ IsP I vs kvs := by
  obtain ⟨I, Mc, w, a, hF⟩ := w.ex
  obtain ⟨m, h1, h2⟩ := a.mem h
  cases h2 with
  | dk b => exact ⟨I, Mc, _, w, a, hF, (w.mu _ h1).1, b⟩
theorem n_dinK {P : Bool → Prop} {p : Addr} {kvs : List (Key × D)} {k : Key} (w : Wf F H M) (h : .dk p kvs ∈ M) (hy : Rk F M y (keyD k)) (q : P (getP kvs k).isSome) : DInQ P (.ref p) y H := by
  cases w.keyK hy
  obtain ⟨I, Mc, vs, w, a, hF, hp, ha⟩ := w.dkAt h
  refine ⟨p, _, rfl, DGet.k hp, ?_⟩
  rcases ha.get (k := k) with ⟨h1, h2⟩ | ⟨v, d, h1, h2, h3⟩
  · rw [h2]; rw [h1] at q; exact q
  · rw [h1]; rw [h2] at q; exact q
theorem n_dgetK {p : Addr} {kvs : List (Key × D)} {k : Key} {d : D} (w : Wf F H M) (h : .dk p kvs ∈ M) (hy : Rk F M y (keyD k)) (hd : getP kvs k = some d) (q : ∀ u, Wf ((u, d) :: F) H M → Q u H) : DGetQ Q (.ref p) y H := by
  cases w.keyK hy
  obtain ⟨I, Mc, vs, w, a, hF, hp, ha⟩ := w.dkAt h
  rcases ha.get (k := k) with ⟨h1, h2⟩ | ⟨v, d', h1, h2, h3⟩
  · rw [h1] at hd; cases hd
  · rw [h2] at hd; cases hd
    exact ⟨p, v, rfl, h1 ▸ DGet.k hp, q v (.cons w a hF h3)⟩
theorem n_dputK {P : Hp → Prop} {p : Addr} {kvs : List (Key × D)} {k : Key} {d : D} (w : Wf F H M) (f : Foc M (.dk p kvs) M' (.dk p (putP kvs k d))) (hy : Rk F M y (keyD k)) (hv : Kn F v d) (hl : kvs.length ≤ 100000) (q : ∀ H', Wf F H' M' → P H') : DPutQ P (.ref p) y v H := by
  cases w.keyK hy
  obtain ⟨I, Mc, w, a, hF⟩ := w.ex
  obtain ⟨M1, m, M2, rfl, h3, h4⟩ := a.foc f
  cases h3 with
  | dk ha => exact ⟨p, _, rfl, DPut.k w.at (by rw [ha.length]; exact Nat.lt_of_le_of_lt hl (by decide)), q _ ⟨I, _, w.put, h4 I _ (Same.refl _) (.dk (ha.put (hv.is hF))), hF⟩⟩
end
theorem hu1 {n : Nat} (h : n + 64 < cLine) : n + 1 < cLine := by omega
theorem k_sorted {X : Cx} {K : PySem.W.Frag} (h : X.K = K) : CallR X (.builtin "sorted") (rSortedI K) := h ▸ cr_sortedI
theorem ps_augLS {X : Cx} {pos : Pos} {o i e : Expr} {to ti te : TE} {tpos : Pos} (ho : PE X o to) (hi : PE X i ti) (he : PE X e te)
    (ha : ∀ ov iv new, augStore i ov iv new = (do holding [new, ov, iv] (setItem ov iv new); release [new, ov, iv] []; pure .next) := by intros; rfl) : PS X (.AugAssign (.Subscript o i tpos) .Sub e pos) (tAugS to ti te (rIxL X.K) (ipI fun i j => i - j) rSetL) :=
  ps_augS ho hi get_list he ip_sub set_list ha
section
variable {K : PySem.W.Frag} {σ : L2.St} {H : Hp} {F : List (V × D)} {M M' : List ME} {Q : VK} {G : Ends} {v u x y : V} {ds es : List D} {tb : TS} {c : TT} {i : Int}
/-- while, by any measure -/
theorem n_whileG (w : Wf F H M) (R : Nat → L2.St → List (V × D) → List ME → Prop) (m : Nat) (h0 : R m σ F M)
    (step : ∀ m σ H F M, R m σ F M → Wf F H M → c σ H fun b H1 => if b = true then ∃ N : L2.St → Hp → Prop, (∀ σ' H', N σ' H' → ∃ m', m' < m ∧ LI (R m') σ' H') ∧ tb { G with nx := N, ct := N, bk := G.nx } σ H1 else G.nx σ H1) : tWhile c tb G σ H :=
  ⟨fun m σ H => LI (R m) σ H, ⟨m, F, M, h0, w⟩, fun m σ H ⟨F, M, hR, w⟩ => step m σ H F M hR w⟩
theorem n_wG {R : Nat → L2.St → List (V × D) → List ME → Prop} {m : Nat} {σ1 : L2.St} (h : tb { G with nx := fun σ' H' => ∃ m', m' < m ∧ LI (R m') σ' H', ct := fun σ' H' => ∃ m', m' < m ∧ LI (R m') σ' H', bk := G.nx } σ1 H) :
    ∃ N : L2.St → Hp → Prop, (∀ σ' H', N σ' H' → ∃ m', m' < m ∧ LI (R m') σ' H') ∧ tb { G with nx := N, ct := N, bk := G.nx } σ1 H := ⟨_, fun _ _ h => h, h⟩
theorem n_ixN {ns : List Int} {j : Nat} (w : Wf F H M) (h : Rk F M v (.lst (ns.map D.int))) (hi : i = (j : Int)) (hj : j < ns.length) (q : Q (.int (ns.getD j 0)) H) : rIx K v (.int i) H Q := by
  subst hi
  refine n_ixInts w h (by omega) (by omega) fun n hn => ?_
  rw [Int.toNat_natCast] at hn
  rw [List.getD_eq_getElem?_getD, hn] at q
  exact q
/-- an item of a list made from another one -/
theorem n_ixM {α : Type} {f : α → D} {l : List α} {z : α} {j : Nat} (w : Wf F H M) (h : Rk F M v (.lst (l.map f))) (hi : i = (j : Int)) (hj : j < l.length) (q : ∀ u, Wf ((u, f (l.getD j z)) :: F) H M → Q u H) : rIx K v (.int i) H Q := by
  subst hi
  refine n_ixAny w h (by omega) (by rw [List.length_map]; omega) fun d u hd w => ?_
  rw [Int.toNat_natCast, List.getElem?_map, List.getElem?_eq_getElem hj] at hd
  cases hd
  have e : l.getD j z = l[j] := by rw [List.getD_eq_getElem?_getD, List.getElem?_eq_getElem hj]; rfl
  rw [← e] at w
  exact q u w
theorem ixN_of {n j : Nat} (h : j < n) : ixN n (j : Int) = some j := by
  have := atI_nat (xs := List.range n) (List.getElem?_range h)
  unfold atI at this
  rw [List.length_range] at this
  cases e : ixN n (j : Int) with
  | none => rw [e] at this; cases this
  | some k =>
    rw [e] at this
    have h2 : (List.range n)[k]? = some j := this
    by_cases hk : k < n
    · rw [List.getElem?_range hk] at h2; exact h2
    · rw [List.getElem?_eq_none (by rw [List.length_range]; omega)] at h2; cases h2
theorem atI_head {α : Type} {x : α} {l : List α} : atI (x :: l) 0 = some x := atI_nat (j := 0) rfl
theorem map_get {α β : Type} {f : α → β} {l : List α} {i : Nat} {d : β} (h : (l.map f)[i]? = some d) : ∃ x, l[i]? = some x ∧ d = f x := by
  rw [List.getElem?_map] at h
  cases e : l[i]? with
  | none => rw [e] at h; cases h
  | some x => rw [e] at h; exact ⟨x, rfl, (Option.some.inj h).symm⟩
theorem Wf.non0 (w : Wf ((v, .non) :: F) H M) : v = .non ∧ Wf F H M := ⟨(w.rd (.mem List.mem_cons_self) : Is H v .non).non_eq, w.tail⟩
theorem Wf.bl0 {b : Bool} (w : Wf ((v, .bl b) :: F) H M) : v = .bl b ∧ Wf F H M := ⟨(w.rd (.mem List.mem_cons_self) : Is H v (.bl b)).bl_eq, w.tail⟩
theorem Wf.str0 {b : Str} (w : Wf ((v, .str b) :: F) H M) : v = .str b ∧ Wf F H M := ⟨(w.rd (.mem List.mem_cons_self) : Is H v (.str b)).str_eq, w.tail⟩
theorem Wf.ref0 {b : Addr} (w : Wf ((v, .ref b) :: F) H M) : v = .ref b ∧ Wf F H M := ⟨(w.rd (.mem List.mem_cons_self) : Is H v (.ref b)).ref_eq, w.tail⟩
theorem Wf.tup0 (w : Wf ((v, .tup ds) :: F) H M) : ∃ p, v = .ref p := by
  obtain ⟨p, _, e, _⟩ := (w.rd (.mem List.mem_cons_self) : Is H v (.tup ds)).tup_ex
  exact ⟨p, e⟩
theorem Wf.lst0 (w : Wf ((v, .lst ds) :: F) H M) : ∃ p, v = .ref p := by
  obtain ⟨p, _, e, _⟩ := (w.rd (.mem List.mem_cons_self) : Is H v (.lst ds)).lst_ex
  exact ⟨p, e⟩
theorem n_gtup4i {gs : TGs} {T : L2.St → Hp → Prop} {a b c : Int} {d3 : D} (w : Wf F H M) (h : Rk F M v (.tup [.int a, .int b, .int c, d3])) (q : ∀ u, Wf ((u, d3) :: F) H M → gs [.int a, .int b, .int c, u] σ H T) : gTup K 4 gs v σ H T :=
  n_gtup4 w h fun x y z u w => by
    rw [w.eq0.1, w.eq0.2.eq0.1, w.eq0.2.eq0.2.eq0.1]
    exact q u w.eq0.2.eq0.2.eq0.2
theorem take_flat {α β : Type} {f : α → List β} {l : List α} {i : Nat} {x : α} (h : l[i]? = some x) : (l.take (i + 1)).flatMap f = (l.take i).flatMap f ++ f x := by
  rw [List.take_add_one, h, List.flatMap_append]
  simp
theorem take_snoc {α : Type} {l : List α} {i : Nat} {x : α} (h : l[i]? = some x) : l.take (i + 1) = l.take i ++ [x] := by
  rw [List.take_add_one, h]
  rfl
end
def oD : Option Int → D
  | none => .non
  | some k => .int k
def oV : Option Int → V
  | none => .non
  | some k => .int k
theorem Kn.oV {F : List (V × D)} (m : Option Int) : Kn F (oV m) (oD m) := by
  cases m with
  | none => exact .non
  | some k => exact .int k
/-- [e for x in xs], e told by f -/
theorem n_lcMap {α : Type} {K : PySem.W.Frag} {σ : L2.St} {H : Hp} {F : List (V × D)} {M : List ME} {Q : VK} {v : V} {te : TE} {xs : List Nat} {k : Nat} {g f : α → D} {l : List α} (w : Wf F H M) (h : Rk F M v (.lst (l.map g))) (hn : l.length ≤ 100000)
    (hw : ∀ v, wipe ((wipe σ xs).set k (some v)) xs = wipe σ xs)
    (step : ∀ x y D acc H0 C, x ∈ l → Wf ((y, g x) :: F) H0 (.ml D acc :: M) → (∀ z H4, Wf ((z, f x) :: F) H4 (.ml D acc :: M) → C z H4) → te ((wipe σ xs).set k (some y)) H0 C)
    (q : ∀ p H', Wf F H' (.ml p (l.map f) :: M) → Q (.ref p) H') :
    ∃ a, v = .ref a ∧ (∃ xs, SqL K H a xs) ∧ LcGo (Itl K a) (gName k) tYes te xs σ Q H := by
  refine n_lcL w h (fun i d => ∃ x, l[i]? = some x ∧ d = f x) (by rw [List.length_map]; exact hn) hw (fun i y d D acc H0 C hd w kc => ?_) fun p es H' hl hP w => ?_
  · obtain ⟨x, hx, rfl⟩ := map_get hd
    exact step x y D acc H0 C (List.mem_of_getElem? hx) w fun z H4 w4 => kc z _ H4 w4 ⟨x, hx, rfl⟩
  · have e : es = l.map f := by
      rw [List.length_map] at hl
      apply List.ext_getElem (by rw [List.length_map]; exact hl)
      intro i h1 h2
      obtain ⟨x, hx, e⟩ := hP i _ (List.getElem?_eq_getElem h1)
      rw [List.getElem_map, e]
      have h3 : i < l.length := by omega
      rw [List.getElem?_eq_getElem h3] at hx
      cases hx
      rfl
    rw [e] at w
    exact q p H' w
theorem n_lcMapI {α : Type} {K : PySem.W.Frag} {σ : L2.St} {H : Hp} {F : List (V × D)} {M : List ME} {Q : VK} {v : V} {te : TE} {xs : List Nat} {k : Nat} {g : α → D} {f : α → Int} {l : List α} (w : Wf F H M) (h : Rk F M v (.lst (l.map g))) (hn : l.length ≤ 100000)
    (hw : ∀ v, wipe ((wipe σ xs).set k (some v)) xs = wipe σ xs)
    (step : ∀ x y D acc H0 C, x ∈ l → Wf ((y, g x) :: F) H0 (.ml D acc :: M) → (∀ H4, Wf F H4 (.ml D acc :: M) → C (.int (f x)) H4) → te ((wipe σ xs).set k (some y)) H0 C)
    (q : ∀ p H', Wf F H' (.ml p ((l.map f).map D.int) :: M) → Q (.ref p) H') :
    ∃ a, v = .ref a ∧ (∃ xs, SqL K H a xs) ∧ LcGo (Itl K a) (gName k) tYes te xs σ Q H :=
  n_lcMap (f := fun x => .int (f x)) w h hn hw (fun x y D acc H0 C hx w kc => step x y D acc H0 C hx w fun H4 w4 => kc _ H4 (w4.add (.int _))) fun p H' w => q p H' (by rw [List.map_map]; exact w)
theorem n_gtup5 {K : PySem.W.Frag} {σ : L2.St} {H : Hp} {F : List (V × D)} {M : List ME} {v : V} {gs : TGs} {T : L2.St → Hp → Prop} {d0 d1 d2 d3 d4 : D} (w : Wf F H M) (h : Rk F M v (.tup [d0, d1, d2, d3, d4])) (q : ∀ x y z u t, Wf ((x, d0) :: (y, d1) :: (z, d2) :: (u, d3) :: (t, d4) :: F) H M → gs [x, y, z, u, t] σ H T) : gTup K 5 gs v σ H T :=
  n_gtup w h rfl fun I Mc xs w a hF b => by
    cases b with | cons h0 b =>
    cases b with | cons h1 b =>
    cases b with | cons h2 b =>
    cases b with | cons h3 b =>
    cases b with | cons h4 b =>
    cases b
    refine q _ _ _ _ _ ⟨I, Mc, w, a, fun f hf => ?_⟩
    rcases List.mem_cons.mp hf with rfl | hf
    · exact h0
    rcases List.mem_cons.mp hf with rfl | hf
    · exact h1
    rcases List.mem_cons.mp hf with rfl | hf
    · exact h2
    rcases List.mem_cons.mp hf with rfl | hf
    · exact h3
    rcases List.mem_cons.mp hf with rfl | hf
    · exact h4
    · exact hF f hf
/-- a row of a part: four ints and a greatest -/
theorem n_gtupRow {K : PySem.W.Frag} {σ : L2.St} {H : Hp} {F : List (V × D)} {M : List ME} {v : V} {gs : TGs} {T : L2.St → Hp → Prop} {b l w s : Int} {g : D} (ww : Wf F H M) (h : Rk F M v (.tup [.int b, .int l, g, .int w, .int s])) (q : ∀ u, Wf ((u, g) :: F) H M → gs [.int b, .int l, u, .int w, .int s] σ H T) : gTup K 5 gs v σ H T :=
  n_gtup5 ww h fun x y z u t w2 => by
    rw [w2.int_eq (v := x) (n := b) (.mem (by simp)), w2.int_eq (v := y) (n := l) (.mem (by simp)), w2.int_eq (v := u) (n := w) (.mem (by simp)), w2.int_eq (v := t) (n := s) (.mem (by simp))]
    exact q z (w2.sub (KS.cons (.mem (by simp)) (KS.drop (KS.drop (KS.drop (KS.drop (KS.drop KS.refl)))))) (.refl _))
end Fs

namespace Fs
open PySem PySem.Spec PyProof.Rows L2
/-! ### defs that may raise -/
structure CalX (P : Program) (w : World) (K : PySem.W.Frag) (mg : Str → Option Value) (base : Heap) (x : Str) (k : Nat) (ps : List Str) (dvs : List V) (sp : Sp) : Prop where
  ex : ∃ (f : Addr) (fd : FuncData) (ds : List Value), FnOk P w K mg base (L2.CX P w) k f fd ps sp ∧ mg x = some (.ref f) ∧ PySem.W.keepIn K (.ref f) = true ∧ Binds K fd ps ds ∧ Vals dvs ds
section
variable {X : Cx} {x : Str} {p pos : Pos} {e : Expr} {es : List Expr} {t : TA} {k : Nat} {ps : List Str} {dvs : List V} {sp : Sp} {W : WX}
theorem pe_calX (c : CalX X.prog X.w X.K X.mg X.base x k ps [] sp) (hr : Room k X.A) (hg : Gl X x) (tk : Takes X W) (ha : PA X (e :: es) t) (hdb : (x == ("__debug__" : Str)) = false := by decide)
    (he : starEach (e :: es) X.env = (false, eval e X.env) :: starEach es X.env := by rfl) (hpl : (backTo pos (starEach es X.env)).any (·.1) = false := by rfl) : PE X (.Call (.Name x p) (e :: es) [] pos) (tCallS sp (WE W) t) := by
  obtain ⟨f, fd, ds, F, hm, hk, hb, hd⟩ := c.ex
  cases hd
  exact pe_callS F hr hg hm hk hb (fun σ => passAt tk σ) ha hdb he hpl
end
section
variable {P : Program} {w : World} {K : PySem.W.Frag} {mg : Str → Option Value} {base : Heap}
theorem _root_.L2.FunD.okX {x qual : Str} {st : Stmt} {dvs : List V} {f : Addr} {fd : FuncData} {N ps : List Str} {k : Nat} {sp : Sp} (F : FunD K x qual (defArgs st) (defBody st) (defScope st) dvs [] f fd) (S : FnScope N ps (defScope st)) (len : ∀ vs H Q E, sp vs H Q E → vs.length = ps.length)
    (hbody : ∀ (cdv : Value) (A : Around) (outer : List Env) (s : Shared) (H : Hp) (vs : List V) (Q : VK) (E : XK), Room k (A.deeper (envOfC qual (defScope st) s.heap.objs.size f cdv)) → sp vs H Q E →
      ∃ t, PSs (cxOf (L2.CX P w) P w K mg base N qual (defScope st) f cdv A outer s H E) (defBody st) t ∧ t { nx := fun _ H' => Q .non H', rt := Q } (start N vs) H) : FnOk P w K mg base (L2.CX P w) (k + 1) f fd ps sp :=
  F.ok S len fun cdv A outer s H vs Q E hr h => hbody cdv A outer s H vs Q E hr h
end
/-- a def that is called with keywords -/
structure CalK (P : Program) (w : World) (K : PySem.W.Frag) (mg : Str → Option Value) (base : Heap) (x : Str) (k : Nat) (ps : List Str) (n : Nat) (ks : List Str) (gV : List V → List V → List V) (sp : Sp) : Prop where
  ex : ∃ (f : Addr) (fd : FuncData) (g : List Value → List Value → List Value), FnOk P w K mg base CX0 k f fd ps sp ∧ mg x = some (.ref f) ∧ PySem.W.keepIn K (.ref f) = true ∧ KBn K fd ps n ks g gV
section
variable {X : Cx} {x : Str} {p pos : Pos} {e : Expr} {es : List Expr} {kws : List Keyword} {t tk : TA} {k n : Nat} {ps ks : List Str} {gV : List V → List V → List V} {sp : Sp}
theorem pe_calK (c : CalK X.prog X.w X.K X.mg X.base x k ps n ks gV sp) (hr : Room k X.A) (hg : Gl X x) (ha : PA X (e :: es) t) (hkw : PK X kws tk)
    (hall : (backToKw pos (keywordEach kws X.env)).all (·.1.isSome) = true := by rfl) (hks : (backToKw pos (keywordEach kws X.env)).filterMap (·.1) = ks := by rfl) (hdb : (x == ("__debug__" : Str)) = false := by decide)
    (he : starEach (e :: es) X.env = (false, eval e X.env) :: starEach es X.env := by rfl) (hpl : ((backTo pos (starEach (e :: es) X.env)).any (·.1) || (backToKw pos (keywordEach kws X.env)).any (·.1.isNone)) = false := by rfl) :
    PE X (.Call (.Name x p) (e :: es) kws pos) (tCallN n ks.length sp gV E0 t tk) := by
  obtain ⟨f, fd, g, F, hm, hk, hb⟩ := c.ex
  exact pe_callN F hr hg hm hk hb pass0 ha hkw hall hks hdb he hpl
end
theorem s_callN {sp : Sp} {n m : Nat} {gV : List V → List V → List V} {E : XK} {tA tK : TA} {σ : L2.St} {H : Hp} {Q : VK} (h : tA σ H fun vs H1 => tK σ H1 fun zs H2 => vs.length = n ∧ zs.length = m ∧ sp (gV vs zs) H2 Q E) : tCallN n m sp gV E tA tK σ H Q := h
theorem s_callS {sp : Sp} {E : L2.St → XK} {t : TA} {σ : L2.St} {H : Hp} {Q : VK} (h : t σ H fun vs H1 => sp vs H1 Q (E σ)) : tCallS sp E t σ H Q := h
/-- an exception of the class C comes to 'except x as n' -/
theorem s_caught {K : PySem.W.Frag} {cls c : Value} {i : Nat} {ts : Addr → Value → Option Addr → TS} {D : Ends} {d : Option Addr} {σ : L2.St} {H : Hp} (e : PySem.W.exmOne K cls c = some true)
    (h : ∀ a, H a = none → ts a cls d { nx := fun σ' H' => D.nx (σ'.set i none) H', rt := D.rt, bk := fun σ' H' => D.bk (σ'.set i none) H', ct := fun σ' H' => D.ct (σ'.set i none) H' } (σ.set i (some (.ref a))) H) :
    WE (wAs K c i ts (fun _ _ _ _ => False) D) σ cls d H := ⟨true, e, fun _ a ha => h a ha, fun q => nomatch q⟩
/-! ### own error classes -/
/-- an own error class that is raised with a text -/
structure ErrC (K : PySem.W.Frag) (mg : Str → Option Value) (x : Str) (C : Addr) : Prop where
  g : mg x = some (.ref C)
  q : PySem.W.excIn K C HandSPX.veTail "ValueError.__new__" = true
  kp : PySem.W.keepIn K (.ref C) = true
  ex : PySem.W.subIn K (.ref C) (.type "BaseException") = some true
  ty : PySem.W.typeIn K (.ref C) = some (.type "type")
theorem ps_raiseC {X : Cx} {W : WX} {x m : Str} {C : Addr} {j : Nat} {p p2 pos pos2 : Pos} (c : ErrC X.K X.mg x C) (hc : X.calm = true) (tk : Takes X W) (hg : Gl X x) (hdb : (x == ("__debug__" : Str)) = false := by decide) :
    PS X (.Raise (some (.Call (.Name x p) [.Constant (.str m) j p2] [] pos)) none pos2) (fun _ σ H => W (.ref C) none σ H) :=
  ps_raise hc tk (pmk_own PySem.F.excBase_ValueError c.q c.g c.kp (raises_own c.ex c.ty) hg hdb)
section
variable {X : Cx} {C : Addr} {bmB : List Value} {B newId initId : String}
theorem pmk_own0 {x : Str} {p pos : Pos} (F : ExcBaseFacts B newId initId bmB) (q : PySem.W.excIn X.K C bmB newId = true) (gC : X.mg x = some (.ref C)) (kC : PySem.W.keepIn X.K (.ref C) = true) (r : Raises X (.ref C)) (hg : Gl X x)
    (hdb : (x == ("__debug__" : Str)) = false := by decide) : PMk X (.Call (.Name x p) [] [] pos) (fun _ H Q => Q (.ref C) none H) := by
  intro pins s σ H Q I h
  refine wpAny_Call_Name_kw (ld_glob I hg gC ?_ hdb)
  refine PySem.W.callWith_K0 I.kIn kC ?_
  show wpAny _ _ (call (.ref C) []) _ _ _
  obtain ⟨bm, N, nm, qn, bs, hdct, sn, sub, ab, col, dd, k0, k1, k2, k3, k5, mN, hC, hN, hni, T⟩ := exc_obj I.kIn q
  refine wpAny_call_exc_subT F T hC hN hni (fun h' e hm => ?_) (by show 0 ≤ sizeLine; omega)
  exact mk_of I hm r h (I.hok.gone hm.new)
theorem ps_raiseC0 {W : WX} {x : Str} {p pos pos2 : Pos} (c : ErrC X.K X.mg x C) (hc : X.calm = true) (tk : Takes X W) (hg : Gl X x) (hdb : (x == ("__debug__" : Str)) = false := by decide) :
    PS X (.Raise (some (.Call (.Name x p) [] [] pos)) none pos2) (fun _ σ H => W (.ref C) none σ H) :=
  ps_raise hc tk (pmk_own0 PySem.F.excBase_ValueError c.q c.g c.kp (raises_own c.ex c.ty) hg hdb)
end
/-! ### own error classes with a field -/
/-- what an __init__ of such a class leaves -/
def sp_xinit (C : Addr) (f : Str) : Sp := fun vs H Q _ => ∃ a v, vs = [.ref a, v] ∧ H a = some (exo a C none) ∧ ∀ dx, H dx = none → dx ≠ a → Q .non (upd (upd H dx (exd dx [(f, v)])) a (exo a C (some dx)))
structure ErrB (K : PySem.W.Frag) (mg : Str → Option Value) (x : Str) (B : Addr) : Prop where
  g : mg x = some (.ref B)
  sp : PySem.W.specialIn K (.ref B) "__getattribute__" = some (some (.builtin "type.__getattribute__"))
  rd : PySem.W.readsIn K B (.type "type") = true
  at_ : PySem.W.findCls K (.ref B) (.type "type") "__init__" = some (.val (.builtin "ValueError.__init__"))
section
variable {X : Cx} {o e : Expr} {es : List Expr} {to te : TE} {ta : TA} {x f : Str} {p p' p1 p2 pos : Pos} {C B : Addr}
theorem pe_clinit {pl : Sem Bool} (b : ErrB X.K X.mg x B) (hg : Gl X x) (ha : PA X (e :: es) ta) (hdb : (x == ("__debug__" : Str)) = false := by decide)
    (hc : eval (.Call (.Attribute (.Name x p1) "__init__" p2) (e :: es) [] pos) X.env = (do
      let ov ← eval (.Name x p1) X.env
      standAt p2.atName
      let (f, first) ← holding [ov] (getMethod ov "__init__" pl)
      callWith pos f first (backTo pos (starEach (e :: es) X.env)) (backToKw pos (keywordEach [] X.env))) := by rfl)
    (he : starEach (e :: es) X.env = (false, eval e X.env) :: starEach es X.env := by rfl) (hpl : (backTo pos (starEach es X.env)).any (·.1) = false := by rfl) :
    PE X (.Call (.Attribute (.Name x p1) "__init__" p2) (e :: es) [] pos) (tVeI X.K ta) := by
  refine ⟨fun pins s σ H Q I h => ?_⟩
  refine PySem.W.methodCall_KW (ld_glob I hg b.g ?_ hdb) hc
  refine PySem.W.method_cls I.kIn b.sp (PySem.W.cls_value I.kIn b.rd b.at_ (by decide +kernel) ?_)
  show wpAny _ _ (callWith pos (Value.builtin "ValueError.__init__") [] (backTo pos (starEach (e :: es) X.env)) []) _ _ _
  refine PyProof.Rows.callWith_method1 (thn (ha.run pos pins _ σ H _ (I.tok _) h) fun us s1 ⟨vs, H1, I1, r1, a, C, ws, ev, hl, T, ea, q⟩ => ?_) he hpl
  subst ev
  cases r1 with
  | @cons _ u0 _ ur ra rw' =>
    obtain rfl : u0 = Value.ref a := ra
    have hlen : ur.length ≤ sizeLine := by
      rw [← Paired.length rw', sizeLine_eq]
      omega
    exact oinit_ok T I1 ea hlen fun s' J => ⟨.non, H1, J, rfl, q⟩
end
structure ErrI (P : Program) (w : World) (K : PySem.W.Frag) (mg : Str → Option Value) (base : Heap) (x : Str) (C : Addr) (k : Nat) (ps : List Str) (f : Str) : Prop where
  T : OexC K C
  g : mg x = some (.ref C)
  ex : ∃ (fI : Addr) (fd : FuncData), PySem.W.findIn K (.ref C) "__init__" = some (some (.ref fI)) ∧ PySem.W.typeIn K (.ref fI) = some (.type "function") ∧ FnOk P w K mg base CX0 k fI fd ps (sp_xinit C f) ∧ Binds K fd ps []
section
variable {X : Cx} {e : Expr} {ta : TA} {x f : Str} {p pos pos2 : Pos} {C : Addr} {k : Nat} {ps : List Str} {W : WX}
theorem ps_raiseI (c : ErrI X.prog X.w X.K X.mg X.base x C k ps f) (hr : Room (k + 1) X.A) (hc : X.calm = true) (tk : Takes X W) (hg : Gl X x) (ha : PA X [e] ta) (hdb : (x == ("__debug__" : Str)) = false := by decide)
    (he : starEach (e :: []) X.env = (false, eval e X.env) :: starEach [] X.env := by rfl) (hpl : (backTo pos (starEach [] X.env)).any (·.1) = false := by rfl) :
    PS X (.Raise (some (.Call (.Name x p) [e] [] pos)) none pos2) (fun _ σ H => tMkO C (sp_xinit C f) [] ta σ H fun cls d H' => W cls d σ H') := by
  obtain ⟨fI, fd, h1, h2, F, hb⟩ := c.ex
  exact ps_raise hc tk (pmk_oex c.T h1 h2 F hr hb .nil (fun _ _ _ _ _ _ _ z => False.elim z) hg c.g ha hdb he hpl)
end
section
variable {K : PySem.W.Frag} {σ : L2.St} {H : Hp} {C : Addr} {f : Str} {v : V} {Q : XK} {sp : Sp} {tA : TA}
theorem s_mkO0 {dvs : List V} (h : tA σ H fun vs H1 => vs.length ≤ 1000 ∧ ∀ a, H1 a = none → sp (.ref a :: (vs ++ dvs)) (upd H1 a (exo a C none))
  (fun v H2 => v = .non ∧ ∃ (d : Addr) (fs : List (Str × V)), H2 a = some (exo a C (some d)) ∧ H2 d = some (exd d fs) ∧ H1 d = none ∧ Q (.ref C) (some d) (upd (del H2 a) d (.xd fs))) (fun _ _ _ => False)) : tMkO C sp dvs tA σ H Q := h
theorem s_mkO (q : ∀ d, H d = none → Q (.ref C) (some d) (upd H d (.xd [(f, v)]))) : [v].length ≤ 1000 ∧ ∀ a, H a = none → sp_xinit C f (.ref a :: ([v] ++ [])) (upd H a (exo a C none))
  (fun v H2 => v = .non ∧ ∃ (d : Addr) (fs : List (Str × V)), H2 a = some (exo a C (some d)) ∧ H2 d = some (exd d fs) ∧ H d = none ∧ Q (.ref C) (some d) (upd (del H2 a) d (.xd fs))) (fun _ _ _ => False) := by
  refine ⟨by simp, fun a ha => ⟨a, v, rfl, upd_same, fun dx hd ne => ⟨rfl, dx, [(f, v)], upd_same, ?_, ?_, ?_⟩⟩⟩
  · rw [upd_ne ne, upd_same]
  · rw [upd_ne ne] at hd
    exact hd
  · rw [upd_ne ne] at hd
    have e : upd (del (upd (upd (upd H a (exo a C none)) dx (exd dx [(f, v)])) a (exo a C (some dx))) a) dx (.xd [(f, v)]) = upd H dx (.xd [(f, v)]) := by
      funext b
      by_cases hb : b = dx
      · subst hb
        rw [upd_same, upd_same]
      · rw [upd_ne hb, upd_ne hb]
        by_cases ha' : b = a
        · subst ha'
          rw [del_same, ha]
        · rw [del_ne ha', upd_ne ha', upd_ne hb, upd_ne ha']
    rw [e]
    exact q dx hd
end
section
variable {K : PySem.W.Frag} {σ : L2.St} {H : Hp} {Q : VK} {G : Ends} {ta : TA} {to te : TE} {f : Str}
theorem s_veI (h : ta σ H fun vs H1 => ∃ (a C : Addr) (ws : List V), vs = .ref a :: ws ∧ ws.length ≤ 1000 ∧ OexC K C ∧ H1 a = some (exo a C none) ∧ Q .non H1) : tVeI K ta σ H Q := h
theorem s_ost (h : te σ H fun y H1 => to σ H1 fun x H2 => ∃ a C : Addr, x = .ref a ∧ OexC K C ∧ PySem.W.findIn K (.ref C) f = some none ∧
  ((H2 a = some (exo a C none) ∧ ∀ dx, H2 dx = none → dx ≠ a → G.nx σ (upd (upd H2 dx (exd dx [(f, y)])) a (exo a C (some dx)))) ∨
    ∃ (dx : Addr) (fs : List (Str × V)), H2 a = some (exo a C (some dx)) ∧ H2 dx = some (exd dx fs) ∧ fs.length ≤ 900 ∧ G.nx σ (upd H2 dx (exd dx ((f, y) :: fs))))) : tOst K f to te G σ H := h
end
/-- e.f, e the error that the suite holds -/
def tXf (K : PySem.W.Frag) (a : Addr) (cls : Value) (d : Option Addr) (f : Str) (te : TE) : TE := fun σ H Q => te σ H fun x H1 => x = .ref a ∧ ∃ (C dd : Addr) (fs : List (Str × V)) (v : V), cls = .ref C ∧ d = some dd ∧ H1 dd = some (.xd fs) ∧ fs.lookup f = some v ∧
  ExcC K C ∧ PySem.W.findIn K (.ref C) f = some none ∧ Q v H1
theorem s_xf {K : PySem.W.Frag} {σ : L2.St} {H : Hp} {Q : VK} {a : Addr} {cls : Value} {d : Option Addr} {f : Str} {te : TE} (h : te σ H fun x H1 => x = .ref a ∧ ∃ (C dd : Addr) (fs : List (Str × V)) (v : V), cls = .ref C ∧ d = some dd ∧ H1 dd = some (.xd fs) ∧ fs.lookup f = some v ∧
  ExcC K C ∧ PySem.W.findIn K (.ref C) f = some none ∧ Q v H1) : tXf K a cls d f te σ H Q := h
theorem pe_xfld {X : Cx} {f : Str} {a : Addr} {oe : Obj} {cls : Value} {d : Option Addr} {pn : List (Addr × Obj)} {e : Expr} {te : TE} {pos : Pos} (hz : Zc cls d oe) (hf : ∃ vs, oe.data = .fields vs) (he : PE (X.suite a ((a, oe) :: pn)) e te)
    (hb : attributeBase e f X.env (eval e X.env) = eval e X.env := by rfl) :
    PE (X.suite a ((a, oe) :: pn)) (.Attribute e f pos) (tXf X.K a cls d f te) := by
  refine ⟨fun pins s σ H Q I h => ?_⟩
  refine attr_of hb (thn (he.run pins s σ H _ I h) fun u s1 hh => ?_)
  obtain ⟨x, H1, I1, rx, ex, C, dd, fs, v, ec, ed, ea, l, T, hno, q⟩ := hh
  subst ex
  obtain rfl : u = Value.ref a := rx
  subst ec
  subst ed
  obtain ⟨ha, _⟩ := I1.pin (a, oe) (List.mem_append_left _ List.mem_cons_self)
  obtain ⟨vs, hd⟩ := hf
  have hx : ObjOk X.prog X.w H1 s1.heap dd (.xd fs) := I1.hok dd _ ea
  obtain ⟨mA, hns, hr⟩ := hx
  obtain ⟨od, ho, hl⟩ := lookIn_ns hns
  obtain ⟨u, hu, ru⟩ := RelO.some_of (v := v) (o := mA f) (by rw [← l]; exact hr f)
  have J : PySem.W.InstAt s1.heap a oe C (some od) := ⟨ha, hz.1, by unfold PySem.W.notCls; rw [hd] <;> rfl, by rw [hz.2]; exact ho⟩
  exact HandSPX.exc_get I1.kIn J T.hg T.hk T.hs (PySem.W.findObj_own T.hd hno rfl (by rw [hl, hu])) (handed_of ru) ⟨v, H1, I1.tok _, ru, q⟩
/-! ### isinstance of the error that a suite holds -/
def isOne (K : PySem.W.Frag) (D : Addr) (c : V) (b : Bool) : Prop := ∃ cv, (∀ u, RelV c u → u = cv) ∧ PySem.W.kitOne K (.ref D) cv = some b
def rIsX (K : PySem.W.Frag) (a : Addr) (cls : Value) (d : Option Addr) : List V → Hp → VK → Prop := fun xs H Q => ∃ (D : Addr) (c : V) (b : Bool), xs = [.ref a, c] ∧ cls = .ref D ∧ ExcC K D ∧
  (d = none ∨ ∃ dd fs, d = some dd ∧ H dd = some (.xd fs)) ∧
  (isOne K D c b ∨ ∃ tp vs, ∃ cvs : List Value, c = .ref tp ∧ SqT K H tp vs ∧ (∀ us, Vals vs us → us = cvs) ∧ PySem.W.kitAny K (.ref D) cvs = some b) ∧ Q (.bl b) H
theorem call_isX {X : Cx} {a : Addr} {oe : Obj} {cls : Value} {d : Option Addr} {pn : List (Addr × Obj)} (hz : Zc cls d oe) (hf : ∃ vs, oe.data = .fields vs) : CallR (X.suite a ((a, oe) :: pn)) (.builtin "isinstance") (rIsX X.K a cls d) := by
  intro pins s σ H xs us Q I r h
  obtain ⟨D, c, b, rfl, rfl, C, hd, hc, q⟩ := h
  cases r with
  | cons rx rr =>
    cases rr with
    | cons rt rr =>
      cases rr
      cases rx
      obtain ⟨hget, _⟩ := I.pin (a, oe) (List.mem_append.mpr (.inl List.mem_cons_self))
      obtain ⟨vs, hv⟩ := hf
      have J : ∃ od, PySem.W.InstAt s.heap a oe D od := by
        rcases hd with rfl | ⟨dd, fs, rfl, hx⟩
        · obtain ⟨oc, od, oda, osl⟩ := oe
          obtain ⟨h1, h2⟩ := hz
          dsimp only at h1 h2 hv
          subst h1 h2 hv
          exact ⟨none, hget, rfl, rfl, trivial⟩
        · have hx' := I.hok dd _ hx
          obtain ⟨mA, hns, hr⟩ := hx'
          obtain ⟨od, ho, hl⟩ := lookIn_ns hns
          exact ⟨some od, hget, hz.1, by unfold PySem.W.notCls; rw [hv] <;> rfl, by rw [hz.2]; exact ho⟩
      obtain ⟨od, J⟩ := J
      have Z := PySem.W.kitx_exc (K := X.K) (x := a) (ox := oe) (od := od) (C := D) (by obtain ⟨cd, hc, _⟩ := PySem.W.any_some C.hd; rw [hc]; rfl) C.hg C.hk C.hs C.ha C.hn C.ht C.hm
      rcases hc with ⟨cv, hcv, e⟩ | ⟨tp, ts, cvs, rfl, hq, hcs, e⟩
      · have ec := hcv _ rt
        subst ec
        exact PySem.W.kia_one Z I.kIn J e (fun z => nomatch z) fun tk => ⟨.bl b, H, I.kept (t' := tk) fun _ _ z => z, rfl, q⟩
      · cases rt
        obtain ⟨its, rv, ⟨o, ho, hc, n, hd'⟩, _⟩ := I.tuple hq
        have ec := hcs _ rv
        subst ec
        obtain ⟨oc, od', oda, osl⟩ := o
        dsimp only at hc hd'
        subst hc hd'
        exact PySem.W.kia_tup Z I.kIn J ho e (fun z => nomatch z) fun tk => ⟨.bl b, H, I.kept (t' := tk) fun _ _ z => z, rfl, q⟩
section
variable {K : PySem.W.Frag} {H : Hp} {F : List (V × D)} {M : List ME} {Q : VK} {v : V} {a C D : Addr} {b : Bool}
theorem isOne_ref (h : PySem.W.kitOne K (.ref D) (.ref C) = some b) : isOne K D (.ref C) b := ⟨.ref C, fun u r => r, h⟩
theorem isOne_ty {n : String} (h : PySem.W.kitOne K (.ref D) (.type n) = some b) : isOne K D (.ty n) b := ⟨.type n, fun u r => r, h⟩
theorem n_isX {c : V} (C : ExcC K D) (h : isOne K D c b) (q : Q (.bl b) H) : rIsX K a (.ref D) none [.ref a, c] H Q := ⟨D, c, b, rfl, rfl, C, .inl rfl, .inl h, q⟩
theorem n_isXd {c : V} {dd : Addr} {fs : List (Str × V)} (C : ExcC K D) (hd : H dd = some (.xd fs)) (h : isOne K D c b) (q : Q (.bl b) H) : rIsX K a (.ref D) (some dd) [.ref a, c] H Q := ⟨D, c, b, rfl, rfl, C, .inr ⟨dd, fs, rfl, hd⟩, .inl h, q⟩
theorem isA_refs {I : Hp} : ∀ {cs : List Addr} {vs : List V}, IsA I vs (cs.map Fs.D.ref) → vs = cs.map V.ref
  | [], _, h => by cases h; rfl
  | c :: cs, _, h => by
    cases h with
    | cons h1 h2 =>
      cases h1
      rw [isA_refs h2]
      rfl
theorem vals_refs : ∀ {cs : List Addr} {us : List Value}, Vals (cs.map V.ref) us → us = cs.map Value.ref
  | [], _, h => by cases h; rfl
  | c :: cs, _, h => by
    cases h with
    | cons h1 h2 =>
      have e : _ = Value.ref c := h1
      rw [vals_refs h2, e]
      rfl
theorem n_isXT {cs : List Addr} (w : Wf F H M) (ht : Rk F M v (.tup (cs.map Fs.D.ref))) (C : ExcC K D) (h : PySem.W.kitAny K (.ref D) (cs.map Value.ref) = some b) (q : Q (.bl b) H) : rIsX K a (.ref D) none [.ref a, v] H Q := by
  obtain ⟨I, Mc, w, ac, hF⟩ := w.ex
  obtain ⟨p, vs, rfl, hp, ha⟩ := ht.tup w ac hF
  have e := isA_refs ha
  subst e
  exact ⟨D, .ref p, b, rfl, rfl, C, .inl rfl, .inr ⟨p, _, _, rfl, .inl (.inl hp), fun us h => vals_refs h, h⟩, q⟩
theorem s_isXT {I : Hp} {M : List (Addr × HO)} {cs : List Addr} (w : W I H M) (ht : Is I v (.tup (cs.map Fs.D.ref))) (C : ExcC K D) (h : PySem.W.kitAny K (.ref D) (cs.map Value.ref) = some b) (q : Q (.bl b) H) : rIsX K a (.ref D) none [.ref a, v] H Q := by
  obtain ⟨p, vs, rfl, hp, ha⟩ := ht.tup_ex
  have e := isA_refs ha
  subst e
  exact ⟨D, .ref p, b, rfl, rfl, C, .inl rfl, .inr ⟨p, _, _, rfl, .inl (.inl (w.imm _ _ hp)), fun us h => vals_refs h, h⟩, q⟩
theorem isA_ofRefs {I : Hp} : ∀ (cs : List Addr), IsA I (cs.map V.ref) (cs.map Fs.D.ref)
  | [] => .nil
  | c :: cs => .cons (.ref c) (isA_ofRefs cs)
theorem kitAny_no {t : Value} : ∀ {cs : List Value}, (∀ c ∈ cs, PySem.W.kitOne K t c = some false) → PySem.W.kitAny K t cs = some false
  | [], _ => rfl
  | c :: cs, h => by
    unfold PySem.W.kitAny
    rw [h c List.mem_cons_self]
    exact kitAny_no fun d hd => h d (List.mem_cons_of_mem _ hd)
end
/-! facts of the classes -/
theorem kit_sub {K : PySem.W.Frag} {C D : Addr} (ic : PySem.W.isClsIn K C = true) (et : PySem.W.typeIn K (.ref C) = some (.type "type")) (sD : PySem.W.subIn K (.ref D) (.ref D) = some true) {b : Bool} (h : PySem.W.subIn K (.ref D) (.ref C) = some b) : PySem.W.kitOne K (.ref D) (.ref C) = some b := by
  have e2 : ((PySem.W.clsIn K C).isSome && PySem.W.typeIn K (.ref C) == some (.type "type")) = true := by
    have h2' : (PySem.W.clsIn K C).isSome = true := ic
    rw [h2', et] <;> rfl
  show (if (Value.ref D == Value.ref C) = true then some true else PySem.W.kitCls K (.ref D) (.ref C)) = some b
  by_cases q : D = C
  · subst q
    rw [if_pos (beq_self_eq_true _), ← h, sD]
  · rw [if_neg (fun z => q (Value.ref.inj (beq_iff_eq.mp z)))]
    show (if ((PySem.W.clsIn K C).isSome && PySem.W.typeIn K (.ref C) == some (.type "type")) = true then PySem.W.subIn K (.ref D) (.ref C) else none) = some b
    rw [if_pos e2]
    exact h
theorem kit_subT {K : PySem.W.Frag} {D : Addr} {n : String} (hk : PySem.W.kitMeta n = true) {b : Bool} (h : PySem.W.subIn K (.ref D) (.type n) = some b) : PySem.W.kitOne K (.ref D) (.type n) = some b := by
  have e : ¬ (Value.ref D == Value.type n) = true := fun h => by cases (beq_iff_eq.mp h)
  show (if (Value.ref D == Value.type n) = true then some true else PySem.W.kitCls K (.ref D) (.type n)) = some b
  rw [if_neg e]
  show (if PySem.W.kitMeta n = true then PySem.W.subIn K (.ref D) (.type n) else none) = some b
  rw [if_pos hk]
  exact h
theorem exm_sub {K : PySem.W.Frag} {C D : Addr} (ic : PySem.W.isClsIn K C = true) (et : PySem.W.typeIn K (.ref C) = some (.type "type")) (eb : PySem.W.subIn K (.ref C) (.type "BaseException") = some true) {b : Bool} (h : PySem.W.subIn K (.ref D) (.ref C) = some b) : PySem.W.exmOne K (.ref D) (.ref C) = some b := by
  have e2 : ((PySem.W.clsIn K C).isSome && PySem.W.typeIn K (.ref C) == some (.type "type")) = true := by
    have h2' : (PySem.W.clsIn K C).isSome = true := ic
    rw [h2', et] <;> rfl
  have e1 : (PySem.W.subIn K (.ref C) (.type "BaseException") == some true) = true := by rw [eb] <;> rfl
  show (if (PySem.W.subIn K (.ref C) (.type "BaseException") == some true) = true then (if ((PySem.W.clsIn K C).isSome && PySem.W.typeIn K (.ref C) == some (.type "type")) = true then PySem.W.subIn K (.ref D) (.ref C) else none) else none) = some b
  rw [if_pos e1, if_pos e2]
  exact h
/-! ### what lies on the heap as it is; lists of truths -/
section
variable {K : PySem.W.Frag} {H : Hp} {F : List (V × D)} {M : List ME} {Q : VK} {x y : V} {p : Addr} {o : HO}
theorem Wf.newRaw (w : Wf F H M) (hd : H p = none) (hn : ∀ vs, o ≠ .tup vs := by intro _ e; cases e) : Wf F (upd H p o) (.raw p o :: M) := by
  obtain ⟨I, Mc, w, ac, hF⟩ := w.ex
  exact ⟨I, (p, o) :: Mc, w.newM hd, .cons (.raw hn) ac, hF⟩
theorem Wf.rawAt (w : Wf F H M) (h : .raw p o ∈ M) : H p = some o := by
  obtain ⟨I, Mc, w, ac, hF⟩ := w.ex
  obtain ⟨m, hm, c⟩ := ac.mem h
  cases c
  exact (w.mu _ hm).1
theorem isA_bools {I : Hp} : ∀ {bs : List Bool} {vs : List V}, IsA I vs (bs.map D.bl) → vs = bs.map V.bl
  | [], _, h => by cases h; rfl
  | c :: cs, _, h => by
    cases h with
    | cons h1 h2 =>
      cases h1
      rw [isA_bools h2]
      rfl
theorem dp_bools {K : PySem.W.Frag} : ∀ (bs : List Bool), DpAll K H (bs.map V.bl) (D.pds (bs.map D.bl))
  | [] => .nil
  | b :: bs => .cons (.bl b) (dp_bools bs)
theorem sh_bools (bs : List Bool) : SeqAt.shaped (D.pd (.lst (bs.map D.bl))) = true := by
  obtain ⟨h1, h2⟩ := pds_can (ds := bs.map D.bl) (k := 1) fun d hd => by
    obtain ⟨b, _, rfl⟩ := List.mem_map.mp hd
    exact ⟨by simp [D.pd, PyData.canLay0], by simp [D.pd, PyData.depth]⟩
  unfold SeqAt.shaped
  rw [show (D.pd (.lst (bs.map D.bl))).canLay0 = true by simp [D.pd, PyData.canLay0, h1], decide_eq_true (by simp only [D.pd, PyData.depth]; omega)]
  rfl
theorem eqv_bools (bs cs : List Bool) : PyData.eqv (D.pd (.lst (bs.map D.bl))) (D.pd (.lst (cs.map D.bl))) = true ↔ bs = cs := by
  simp only [D.pd, PyData.eqv]
  rw [pds_eqv (P := fun e => ∃ b, e = D.bl b)]
  · constructor
    · exact fun h => (List.map_inj_right (fun a b e => by injection e)).mp h
    · exact fun h => by rw [h]
  · intro d hd e he
    obtain ⟨b, _, rfl⟩ := List.mem_map.mp hd
    obtain ⟨c, rfl⟩ := he
    simp [D.pd, PyData.eqv]
  · intro e he
    obtain ⟨c, _, rfl⟩ := List.mem_map.mp he
    exact ⟨c, rfl⟩
theorem Wf.bools {bs : List Bool} (w : Wf F H M) (h : Rk F M x (.lst (bs.map D.bl))) : Dp K H x (D.pd (.lst (bs.map D.bl))) := by
  obtain ⟨I, Mc, w, ac, hF⟩ := w.ex
  obtain ⟨p, vs, rfl, hp, ha⟩ := h.lst w ac hF
  have e := isA_bools ha
  subst e
  exact .lst (.inl (.inl hp)) (dp_bools bs)
theorem n_neB {bs cs : List Bool} (w : Wf F H M) (hx : Rk F M x (.lst (bs.map D.bl))) (hy : Rk F M y (.lst (cs.map D.bl))) (q : Q (.bl (!decide (bs = cs))) H) : rNeU K x y H Q :=
  .inr ⟨_, _, w.bools hx, w.bools hy, sh_bools bs, sh_bools cs, by
    have h2 : PyData.eqv (D.pd (.lst (bs.map D.bl))) (D.pd (.lst (cs.map D.bl))) = decide (bs = cs) := by rw [Bool.eq_iff_iff, eqv_bools, decide_eq_true_iff]
    rw [h2]; exact q⟩
end
end Fs

namespace Fs
open PySem PySem.Spec PyProof.Rows L2
/-! ### a class whose __init__ may raise -/
structure MakX (P : Program) (w : World) (K : PySem.W.Frag) (mg : Str → Option Value) (base : Heap) (x : Str) (C : Addr) (k : Nat) (ps : List Str) (dvs : List V) (sp : Sp) : Prop where
  ex : ∃ (f : Addr) (fd : FuncData) (ds : List Value), Mk K C f ∧ FnOk P w K mg base (L2.CX P w) k f fd ps sp ∧ mg x = some (.ref C) ∧ Binds K fd ps ds ∧ Vals dvs ds
def MakeXQ (C : Addr) (sp : Sp) (E : XK) (Q : VK) (vs : List V) (H1 : Hp) : Prop := ∀ o d, H1 o = none → H1 d = none → d ≠ o → sp (.ref o :: vs) (upd (upd H1 d (.own o)) o (.ins C d [])) (fun v H2 => v = .non ∧ Q (.ref o) H2) E
def tMakeX (C : Addr) (sp : Sp) (dvs : List V) (W : WX) (t : TA) : TE := fun σ H Q => t σ H fun vs H1 => MakeXQ C sp (WE W σ) Q (vs ++ dvs) H1
theorem s_makeX {C : Addr} {sp : Sp} {dvs : List V} {W : WX} {t : TA} {σ : L2.St} {H : Hp} {Q : VK} (h : t σ H fun vs H1 => MakeXQ C sp (WE W σ) Q (vs ++ dvs) H1) : tMakeX C sp dvs W t σ H Q := h
section
variable {X : Cx} {x : Str} {C : Addr} {p pos : Pos} {e : Expr} {es : List Expr} {t : TA} {k : Nat} {ps : List Str} {dvs : List V} {sp : Sp} {W : WX}
theorem run_makeX {pins : List (Addr × Obj)} {σ : L2.St} {H : Hp} {s : Shared} {Q : VK} {us ds : List Value} {vs : List V} {f : Addr} {fd : FuncData} (m : Mk X.K C f) (ok : FnOk X.prog X.w X.K X.mg X.base (L2.CX X.prog X.w) k f fd ps sp) (room : Room (k + 1) X.A)
    (bd : Binds X.K fd ps ds) (dv : Vals dvs ds) (tk : Takes X W) (J : Inv X pins σ H s) (rv : Vals vs us) (q : MakeXQ C sp (WE W σ) Q (vs ++ dvs) H) : wpAny (model X.prog X.w) X.A (call (.ref C) us) (EP X pins σ Q) X.xe s := by
  have q0 := q (s.heap.objs.size + 1) s.heap.objs.size (J.hok.fresh (Nat.le_succ _)) (J.hok.fresh (Nat.le_refl _)) (Nat.ne_of_lt (Nat.lt_succ_self _))
  have J2 := Inv.made (C := C) J
  have rr : Vals (V.ref (s.heap.objs.size + 1) :: (vs ++ dvs)) (Value.ref (s.heap.objs.size + 1) :: (us ++ ds)) := .cons rfl (rv.append dv)
  have hlen : (Value.ref (s.heap.objs.size + 1) :: us ++ ds).length = ps.length := rr.length.symm.trans (ok.len _ _ _ _ q0)
  have run := ok.run (X.A.under (.builtin "type.__call__" ⟨.ref C :: us, []⟩)) X.stack _ _ ⟨Value.ref (s.heap.objs.size + 1) :: us, []⟩ _ _ _ _ (room.make C us []) (J2.env0.make C us []) (bd _ (Value.ref (s.heap.objs.size + 1) :: us) J2.kIn hlen) rr q0
  refine wpAny_call (make_map (f := f) J.kIn m.makes m.init (beq_iff_eq.mp m.fn) (codeAny_mono run fun r s' z => ?_))
  match r, z with
  | .error er, z => exact tk er s' (XE.of_call J2 (fun _ _ _ y => y) z)
  | .ok (.ret u), z =>
    obtain ⟨v, H', J3, r3, e3, q3⟩ := J2.after z
    subst e3
    exact ⟨r3, ⟨V.ref (s.heap.objs.size + 1), H', J3, rfl, q3⟩⟩
  | .ok .next, z => exact z.elim
  | .ok .brk, z => exact z.elim
  | .ok .cont, z => exact z.elim
theorem pe_mkX (c : MakX X.prog X.w X.K X.mg X.base x C k ps dvs sp) (hr : Room (k + 1) X.A) (hg : Gl X x) (tk : Takes X W) (ha : PA X (e :: es) t) (hdb : (x == ("__debug__" : Str)) = false := by decide)
    (he : starEach (e :: es) X.env = (false, eval e X.env) :: starEach es X.env := by rfl) (hpl : (backTo pos (starEach es X.env)).any (·.1) = false := by rfl) : PE X (.Call (.Name x p) (e :: es) [] pos) (tMakeX C sp dvs W t) := by
  obtain ⟨f, fd, ds, m, ok, g, bd, dv⟩ := c.ex
  exact ⟨fun pins s σ H Q J h => wpAny_Call_Name_kw (ld_glob J hg g (PySem.W.callWith_K (h₀ := X.base) J.ok.mod.kin m.kp (thn (ha.run pos pins s σ H _ J h) fun us s1 ⟨vs, H1, J1, rv, q⟩ => ⟨J1.kIn, run_makeX m ok hr bd dv tk J1 rv q⟩) he hpl) hdb)⟩
end
section
variable {K : PySem.W.Frag} {H : Hp} {F : List (V × D)} {M M' : List ME} {Q : VK} {v : V} {p C : Addr} {d : D} {vs : List V} {sp : Sp} {E : XK}
/-- the new instance, its dict aside -/
theorem n_makeX (w : Wf F H M) (q : ∀ o H', Wf F H' (.mi o C [] :: M) → sp (.ref o :: vs) H' (fun v H2 => v = .non ∧ Q (.ref o) H2) E) : MakeXQ C sp E Q vs H := fun o dx ho hd ne => by
  obtain ⟨I, Mc, w, ac, hF⟩ := w.ex
  have w1 : W I (upd H dx (.own o)) Mc := w.more (same_new hd)
  have h1 : upd H dx (.own o) o = none := by rw [upd_ne ne.symm]; exact ho
  exact q o _ ⟨I, (o, .ins C dx []) :: Mc, w1.newM h1, .cons (.mi .nil) ac, hF⟩
theorem n_isXTd {a D dd : Addr} {b : Bool} {fs : List (Str × V)} {cs : List Addr} (w : Wf F H M) (ht : Rk F M v (.tup (cs.map Fs.D.ref))) (C : ExcC K D) (hd : H dd = some (.xd fs)) (h : PySem.W.kitAny K (.ref D) (cs.map Value.ref) = some b) (q : Q (.bl b) H) : rIsX K a (.ref D) (some dd) [.ref a, v] H Q := by
  obtain ⟨I, Mc, w, ac, hF⟩ := w.ex
  obtain ⟨p, vs, rfl, hp, ha⟩ := ht.tup w ac hF
  have e := isA_refs ha
  subst e
  exact ⟨D, .ref p, b, rfl, rfl, C, .inr ⟨dd, fs, rfl, hd⟩, .inr ⟨p, _, _, rfl, .inl (.inl hp), fun us h => vals_refs h, h⟩, q⟩
theorem knA_refs {F : List (V × Fs.D)} : ∀ (cs : List Addr), KnA F (cs.map V.ref) (cs.map Fs.D.ref)
  | [] => .nil
  | c :: cs => .cons (.ref c) (knA_refs cs)
theorem Wf.frzK {kvs : List (Key × D)} (w : Wf F H M) (r : Rem M (.dk p kvs) M') : Wf ((.ref p, .dict) :: F) H M' := by
  obtain ⟨I, Mc, w, a, hF⟩ := w.ex
  obtain ⟨M1, m, M2, rfl, h1, h2⟩ := a.rem r
  cases h1 with
  | dk b =>
    refine ⟨_, _, w.frz, h2.mono w.frzS, fun f hf => ?_⟩
    rcases List.mem_cons.mp hf with rfl | hf
    · exact .dct upd_same
    · exact (hF f hf).mono w.frzS
end
theorem putD_new {f : Str} {d : D} : ∀ {fs : List (Str × D)}, f ∉ fs.map (·.1) → putD f d fs = fs ++ [(f, d)]
  | [], _ => rfl
  | (g, x) :: r, h => by
    have e1 : ¬ g = f := fun e => h (by rw [e]; exact List.mem_cons_self)
    have e2 : f ∉ r.map (·.1) := fun e => h (List.mem_cons_of_mem _ e)
    unfold putD
    rw [if_neg e1, putD_new e2]
    rfl
/-! ### == of two lists of the same values, of two empty dicts -/
def plainV : V → Bool
  | .non => true | .bl _ => true | .int _ => true | .str _ => true | .ref _ => true
  | _ => false
theorem eqAt_id {A : Around} {s : Shared} {v : V} {u u' : Value} (r : RelV v u) (r' : RelV v u') (f : plainV v = true) : SeqAt.EqAt A s u u' true := by
  cases v with
  | ref a =>
    cases (show u = Value.ref a from r)
    cases (show u' = Value.ref a from r')
    exact SeqAt.EqAt.same _
  | non => exact eqAt_same r r' rfl
  | bl b => exact eqAt_same r r' rfl
  | int i => exact eqAt_same r r' rfl
  | str x => exact eqAt_same r r' rfl
  | _ => cases f
def rEqId (K : PySem.W.Frag) : R2 := fun x y H Q => ∃ a b xs, x = .ref a ∧ y = .ref b ∧ SqL K H a xs ∧ SqL K H b xs ∧ (∀ v ∈ xs, plainV v = true) ∧ Q (.bl true) H
def rEqU2 (K : PySem.W.Frag) : R2 := fun x y H Q => rEqU K x y H Q ∨ (rEqId K x y H Q ∨ rEqDA x y H Q)
section
variable {X : Cx}
theorem op_eqId (hu : X.A.units + 64 < cLine) : OpR X (compareOp .Eq) (rEqId X.K) := by
  intro pins s σ H x y v u Q I rx ry h
  obtain ⟨a, b, xs, rfl, rfl, ha, hb, hf, q⟩ := h
  obtain rfl : v = Value.ref a := rx
  obtain rfl : u = Value.ref b := ry
  obtain ⟨it, ra, ⟨o, n, ho, hc, _, hd⟩, _⟩ := I.list ha
  obtain ⟨jt, rb, ⟨o2, n2, ho2, hc2, _, hd2⟩, _⟩ := I.list hb
  have l1 := ra.length
  have l2 := rb.length
  have hsz : it.toArray.size = jt.toArray.size := by simp; omega
  refine SeqAt.eq_listAt (e := fun _ => true) ⟨o, ho, hc, n, hd⟩ ⟨o2, ho2, hc2, n2, hd2⟩ hsz (by omega) (fun j h1 h2 => ?_) ?_
  · have hj : j < xs.length := by
      simp at h1
      omega
    have hx : xs[j]? = some xs[j] := List.getElem?_eq_getElem hj
    obtain ⟨u1, e1, r1⟩ := ra.get hx
    obtain ⟨u2, e2, r2⟩ := rb.get hx
    have q1 : it.toArray[j] = u1 := by
      have := List.getElem?_eq_some_iff.mp e1
      simpa using this.2
    have q2 : jt.toArray[j] = u2 := by
      have := List.getElem?_eq_some_iff.mp e2
      simpa using this.2
    rw [q1, q2]
    exact eqAt_id r1 r2 (hf _ (List.getElem_mem hj))
  · have e : (List.range it.toArray.size).all (fun _ => true) = true := by simp
    rw [e]
    exact ⟨.bl true, H, I, rfl, q⟩
theorem uo_eq2 (hu : X.A.units + 64 < cLine) : OpR X (compareOp .Eq) (rEqU2 X.K) := opOr (uo_eq hu) (opOr (op_eqId hu) (op_eq_dictA (by omega)))
end
theorem k_eq2 {X : Cx} {K : PySem.W.Frag} (h : X.K = K) (hu : X.A.units + 64 < cLine) : OpR X (compareOp .Eq) (rEqU2 K) := h ▸ uo_eq2 hu
/-- a thing of which there is but one value -/
def rigid : D → Option V
  | .non => some .non
  | .bl b => some (.bl b)
  | .int i => some (.int i)
  | .str x => some (.str x)
  | .ref a => some (.ref a)
  | _ => none
theorem Is.rigid {I : Hp} {v u : V} {d : D} (h : Is I v d) (e : rigid d = some u) : v = u := by
  cases h <;> first | (cases e; rfl) | cases e
theorem IsA.rigid {I : Hp} : ∀ {ds : List D} {vs us : List V}, IsA I vs ds → ds.map Fs.rigid = us.map some → vs = us
  | [], _, [], h, _ => by cases h; rfl
  | [], _, _ :: _, _, e => by cases e
  | d :: ds, _, [], _, e => by cases e
  | d :: ds, _, u :: us, h, e => by
    cases h with
    | cons h1 h2 =>
      injection e with e1 e2
      rw [h1.rigid e1, IsA.rigid h2 e2]
theorem rigid_plain {d : D} {v : V} (e : rigid d = some v) : plainV v = true := by
  cases d <;> first | (cases e; rfl) | cases e
section
variable {K : PySem.W.Frag} {H : Hp} {F : List (V × D)} {M : List ME} {Q : VK} {x y : V} {ds : List D}
theorem n_eqId (w : Wf F H M) (hx : Rk F M x (.lst ds)) (hy : Rk F M y (.lst ds)) (hr : ∀ d ∈ ds, ∃ v, rigid d = some v) (q : Q (.bl true) H) : rEqU2 K x y H Q := by
  obtain ⟨I, Mc, w, a, hF⟩ := w.ex
  obtain ⟨p, vs, rfl, hp, h1⟩ := hx.lst w a hF
  obtain ⟨p', vs', rfl, hp', h2⟩ := hy.lst w a hF
  have ex : ∃ us : List V, ds.map rigid = us.map some := by
    clear hx hy h1 h2
    induction ds with
    | nil => exact ⟨[], rfl⟩
    | cons d ds ih =>
      obtain ⟨us, e⟩ := ih fun d hd => hr d (List.mem_cons_of_mem _ hd)
      obtain ⟨v, ev⟩ := hr d List.mem_cons_self
      exact ⟨v :: us, by rw [List.map_cons, List.map_cons, e, ev]⟩
  obtain ⟨us, e⟩ := ex
  have e1 := h1.rigid e
  have e2 := h2.rigid e
  subst e1
  subst e2
  refine .inr (.inl ⟨p, p', _, rfl, rfl, .inl (.inl hp), .inl (.inl hp'), fun v hv => ?_, q⟩)
  have : some v ∈ ds.map rigid := by rw [e]; exact List.mem_map_of_mem hv
  obtain ⟨d, _, hd⟩ := List.mem_map.mp this
  exact rigid_plain hd
theorem n_eqDict {a : Addr} (w : Wf F H M) (h : .raw a (.dK []) ∈ M) (q : Q (.bl true) H) : rEqU2 K (.ref a) (.ref a) H Q :=
  .inr (.inr ⟨a, a, [], [], rfl, rfl, w.rawAt h, w.rawAt h, rfl, fun _ h => (nomatch h), q⟩)
theorem n_eqTD {d : D} (w : Wf F H M) (hx : Rk F M x d) (hy : Rk F M y d) (n : NB 60 d) (q : Q (.bl true) H) : rEqU2 K x y H Q := .inl (n_eqT w hx hy n q)
end
/-- a thing of a known kind: by itself, or by a fact of the dict that it is -/
def TyF (F : List (V × D)) (d : D) : Prop := Ty d ∨ ∃ a, d = .ref a ∧ (V.ref a, D.dict) ∈ F
theorem TyF.more {F : List (V × D)} {d : D} {f : V × D} (h : TyF F d) : TyF (f :: F) d := h.elim .inl fun ⟨a, e, m⟩ => .inr ⟨a, e, List.mem_cons_of_mem _ m⟩
theorem Ty.rk {F : List (V × D)} {M : List ME} {v : V} {d : D} (t : Ty d) (h : Kn F v d) : Rk F M v d := Rk.of h fun q => by
  obtain ⟨a, e⟩ := t
  rcases q with ⟨n, rfl⟩ | ⟨n, rfl⟩ <;> cases e
theorem TyF.go {F : List (V × D)} {H : Hp} {M : List ME} {v : V} {d : D} (w : Wf F H M) (h : Kn F v d) (t : TyF F d) : ∃ e, Ty e ∧ Rk F M v e ∧ e.whole = d.whole := by
  rcases t with t | ⟨a, rfl, m⟩
  · exact ⟨d, t, t.rk h, rfl⟩
  · obtain ⟨I, Mc, w, ac, hF⟩ := w.ex
    have e : v = .ref a := (h.is hF).ref_eq
    subst e
    exact ⟨.dict, ⟨_, rfl⟩, .mem m, rfl⟩
end Fs

namespace Fs
open PySem PySem.Spec PyProof.Rows L2
/-- a tuple that the written part holds -/
theorem sqT_of {K : PySem.W.Frag} {H : Hp} {a : Addr} {td : Option Addr} {its : List Value} {n : Nat} {sl : Array (Option Value)} {xs : List V} (l : K.lookup a = some ⟨.type "tuple", td, .seq its.toArray n, sl⟩) (r : Vals xs its) (hz : its.length ≤ 1000) : SqT K H a xs :=
  .inr ⟨_, _, _, l, rfl, rfl, by rw [List.size_toArray, sizeLine_eq]; omega, by simpa using r⟩
section
variable {K : PySem.W.Frag} {H : Hp} {Q : VK} {x : V} {a : Addr} {xs : List V} {b : Bool}
theorem s_inT (h : SqT K H a xs) (f : flatV x = true) (g : xs.all flatV = true) (e : inV x xs = b) (q : Q (.bl b) H) : rIn K false x (.ref a) H Q := ⟨a, xs, rfl, .inr h, f, g, by rw [e]; exact q⟩
end
section
variable {K : PySem.W.Frag} {H : Hp} {F : List (V × D)} {M : List ME} {Q : VK} {v : V} {C a : Addr} {f : Str} {fs : List (Str × D)} {L : List Str} {ds : List D} {i : Int}
theorem n_fldr (w : Wf F H M) (h : Rk F M v (.obj C fs)) (hc : Cls K C) (hn : ∀ f ∈ L, NoAttr K C f) (hf : f ∈ L) (hd : fs.lookup f = some (.ref a)) (q : Q (.ref a) H) : FldQ K f Q v H := n_fld w h hc hn hf hd fun u w => by rw [w.ref0.1]; exact q
theorem n_ixTr (w : Wf F H M) (h : Rk F M v (.tup ds)) (hd : atI ds i = some (.ref a)) (q : Q (.ref a) H) : rIx K v (.int i) H Q := n_ixT w h hd fun u w => by rw [w.ref0.1]; exact q
theorem n_ixLr (w : Wf F H M) (h : Rk F M v (.lst ds)) (hd : atI ds i = some (.ref a)) (q : Q (.ref a) H) : rIx K v (.int i) H Q := n_ixL w h hd fun u w => by rw [w.ref0.1]; exact q
end
theorem k_slT {X : Cx} {K : PySem.W.Frag} (h : X.K = K) : SlR X (rSlT K) := h ▸ sl_tup
theorem n_slT {K : PySem.W.Frag} {H : Hp} {F : List (V × D)} {M : List ME} {Q : VK} {x : V} {ds : List D} {lo hi : Option Int} (w : Wf F H M) (h : Rk F M x (.tup ds)) (hn : ¬ (HT.sIx ds.length 0 lo = 0 ∧ HT.sIx ds.length ds.length hi = ds.length)) (q : ∀ p H', Wf ((.ref p, .tup (cutD ds lo hi)) :: F) H' M → Q (.ref p) H') : rSlT K x lo hi H Q := by
  obtain ⟨I, Mc, w0, ac, hF⟩ := w.ex
  obtain ⟨p, vs, rfl, hp, ha⟩ := h.tup w0 ac hF
  refine ⟨p, vs, rfl, .inl (.inl hp), by rw [ha.length]; exact hn, fun p' hp' => q p' _ (w.newT hp' fun I1 Mc1 w1 a1 hF1 => ?_)⟩
  obtain ⟨p2, vs2, e, hp2, ha2⟩ := h.tup w1 a1 hF1
  cases e
  rw [hp] at hp2
  cases hp2
  exact ha2.cut lo hi
section
variable {K : PySem.W.Frag} {H : Hp} {F : List (V × D)} {M : List ME} {Q : VK} {r : V} {p : Addr} {l : Int} {ds : List D}
/-- a tuple of a number and a list that may be changed, as it is now -/
theorem Wf.deep2 (w : Wf F H M) (h : Rk F M r (.tup [.int l, .ref p])) (hm : ME.ml p ds ∈ M) : Is H r (.tup [.int l, .lst ds]) := by
  obtain ⟨I, Mc, w, ac, hF⟩ := w.ex
  obtain ⟨t, vs, rfl, ht, ha⟩ := h.tup w ac hF
  have hl : Is H (.ref p) (.lst ds) := (Rk.ml (F := F) hm).rd w ac hF
  cases ha with
  | cons h1 ha =>
    cases ha with
    | cons h2 ha =>
      cases ha
      cases h1
      cases h2
      exact .tup ht (.cons (.int l) (.cons hl .nil))
/-- .. and for good -/
theorem Wf.upT (w : Wf F H M) (h : Kn F r (.tup [.int l, .ref p])) (h2 : Kn F (.ref p) (.lst ds)) : Wf ((r, .tup [.int l, .lst ds]) :: F) H M := by
  obtain ⟨I, Mc, w, ac, hF⟩ := w.ex
  have e := h.is hF
  have e2 := h2.is hF
  refine ⟨I, Mc, w, ac, fun f hf => ?_⟩
  rcases List.mem_cons.mp hf with rfl | hf
  · cases e with
    | tup ht ha =>
      cases ha with
      | cons h1 ha =>
        cases ha with
        | cons h2 ha =>
          cases ha
          cases h1
          cases h2
          exact .tup ht (.cons (.int l) (.cons e2 .nil))
  · exact hF f hf
end
end Fs

namespace Fs
open PySem PySem.Spec PyProof.Rows L2
theorem k_all {X : Cx} {K : PySem.W.Frag} (h : X.K = K) (hc : X.calm = true) : CallR X (.builtin "all") (rAll K) := h ▸ cr_all hc
theorem k_any {X : Cx} {K : PySem.W.Frag} (h : X.K = K) (hc : X.calm = true) : CallR X (.builtin "any") (rAny K) := h ▸ cr_any hc
section
variable {K : PySem.W.Frag} {H : Hp} {F : List (V × D)} {M M' : List ME} {Q : VK} {v : V} {p : Addr} {ds : List D} {bs : List Bool} {b : Bool}
theorem IsA.bls {I : Hp} : ∀ {bs : List Bool} {vs : List V}, IsA I vs (bs.map D.bl) → vs = bs.map V.bl
  | [], _, .nil => rfl
  | _ :: _, _, .cons h a => by
    cases h
    rw [IsA.bls a]
    rfl
theorem n_all (w : Wf F H M) (h : Rk F M v (.lst (bs.map D.bl))) (hb : bs.all id = b) (q : Q (.bl b) H) : rAll K [v] H Q := by
  obtain ⟨I, Mc, w, a, hF⟩ := w.ex
  obtain ⟨p, vs, rfl, hp, c⟩ := h.lst w a hF
  have e := c.bls
  subst e
  exact ⟨p, bs, rfl, .inl (.inl hp), by rw [hb]; exact q⟩
theorem n_any (w : Wf F H M) (h : Rk F M v (.lst (bs.map D.bl))) (hb : bs.any id = b) (q : Q (.bl b) H) : rAny K [v] H Q := by
  obtain ⟨I, Mc, w, a, hF⟩ := w.ex
  obtain ⟨p, vs, rfl, hp, c⟩ := h.lst w a hF
  have e := c.bls
  subst e
  exact ⟨p, bs, rfl, .inl (.inl hp), by rw [hb]; exact q⟩
theorem IsA.dropLast {I : Hp} : ∀ {vs : List V} {ds : List D}, IsA I vs ds → IsA I vs.dropLast ds.dropLast
  | _, _, .nil => .nil
  | _, _, .cons _ .nil => .nil
  | _, _, .cons h (.cons h' a) => .cons h (IsA.dropLast (.cons h' a))
theorem n_pop (w : Wf F H M) (f : Foc M (.ml p ds) M' (.ml p ds.dropLast)) (hz : 0 < ds.length) (q : ∀ y H', Wf F H' M' → Q y H') : rPop (.ref p) [] H Q := by
  obtain ⟨I, Mc, w, a, hF⟩ := w.ex
  obtain ⟨M1, m, M2, rfl, h3, h4⟩ := a.foc f
  cases h3 with
  | @ml _ vs _ b =>
    have h2 : vs.length - 1 < vs.length := by have := b.length; omega
    exact ⟨p, vs, _, rfl, rfl, w.at, List.getElem?_eq_getElem h2, q _ _ ⟨I, _, w.put, h4 I _ (Same.refl _) (.ml b.dropLast), hF⟩⟩
end
end Fs

namespace Fs
open PySem PySem.Spec PyProof.Rows L2
/-! ### a method that may raise -/
structure MetX (P : Program) (w : World) (K : PySem.W.Frag) (mg : Str → Option Value) (base : Heap) (m : Str) (C : Addr) (k : Nat) (ps : List Str) (sp : Sp) : Prop where
  ex : ∃ (f : Addr) (fd : FuncData), Cls K C ∧ Meth K C m f ∧ FnOk P w K mg base (L2.CX P w) k f fd ps sp ∧ Binds K fd ps []
def tMethX (C : Addr) (m : Str) (sp : Sp) (W : WX) (ta : TE) (t : TA) : TE := fun σ H Q => ta σ H fun x H1 => MethQ C m x H1 (t σ H1 fun vs H2 => sp (x :: vs) H2 Q (WE W σ))
theorem s_methX {C : Addr} {m : Str} {sp : Sp} {W : WX} {ta : TE} {t : TA} {σ : L2.St} {H : Hp} {Q : VK} (h : ta σ H fun x H1 => MethQ C m x H1 (t σ H1 fun vs H2 => sp (x :: vs) H2 Q (WE W σ))) : tMethX C m sp W ta t σ H Q := h
section
variable {X : Cx} {m : Str} {C : Addr} {pos apos : Pos} {e o : Expr} {es : List Expr} {ta : TE} {t : TA} {k : Nat} {ps : List Str} {sp : Sp} {W : WX}
theorem pe_metX {pl : Sem Bool} (he : PE X o ta) (c : MetX X.prog X.w X.K X.mg X.base m C k ps sp) (hr : Room k X.A) (tk : Takes X W) (ha : PA X (e :: es) t)
    (hst : starEach (e :: es) X.env = (false, eval e X.env) :: starEach es X.env := by rfl) (hpl : (backTo pos (starEach es X.env)).any (·.1) = false := by rfl)
    (ht : eval (.Call (.Attribute o m apos) (e :: es) [] pos) X.env = (do
      let ov ← eval o X.env
      standAt apos.atName
      let (f, first) ← holding [ov] (getMethod ov m pl)
      callWith pos f first (backTo pos (starEach (e :: es) X.env)) (backToKw pos (keywordEach [] X.env))) := by rfl) :
    PE X (.Call (.Attribute o m apos) (e :: es) [] pos) (tMethX C m sp W ta t) := by
  obtain ⟨f, fd, cl, hm, F, hb⟩ := c.ex
  refine ⟨fun pins s σ H Q I h => ?_⟩
  refine PySem.W.methodCall_KW (pl := pl) (thn (he.run pins s σ H _ I h) fun u s1 ⟨x, H1, I1, rx, a, dx, fs, ex, ea, l, q⟩ => ?_) ht
  subst ex
  obtain rfl : u = Value.ref a := rx
  refine getmeth_ok I1 ea cl hm l ?_
  refine PySem.W.callWith_K (first := [.ref a]) (h₀ := X.base) I.ok.mod.kin hm.kp (thn (ha.run pos pins s1 σ H1 _ I1 q) fun us s2 ⟨vs, H2, I2, r, q2⟩ => ⟨I2.kIn, ?_⟩) hst hpl
  exact run_fnS (us := .ref a :: us) (vs := .ref a :: vs) F hr hb (passAt tk σ) I2 (.cons rfl r) q2
end
end Fs

namespace Fs
open PySem PySem.Spec PyProof.Rows L2
/-! ### a dict whose keys are tuples of ints, texts and None -/
def lfV : Leaf → V
  | .none => .non
  | .num i => .int i
  | .text x => .str x
def lfD : Leaf → D
  | .none => .non
  | .num i => .int i
  | .text x => .str x
theorem lfV_is {k : Leaf} {u : Value} (r : RelV (lfV k) u) : Leaf.isOf k u = true := by
  cases k with
  | none =>
    have e : u = Value.none := r
    subst e
    rfl
  | num i =>
    obtain ⟨t, e⟩ := (show ∃ t, u = Value.int i t from r)
    subst e
    exact decide_eq_true rfl
  | text x =>
    obtain ⟨t, e⟩ := (show ∃ t, u = Value.str x t from r)
    subst e
    simp [Leaf.isOf, Value.isStrOf]
theorem itemsL {P : Program} {w : World} : ∀ {ks : List Leaf} {us : List Value}, Vals (ks.map lfV) us → ItemsAre (leafKind P w) ks us
  | [], _, r => by rw [List.map_nil] at r; cases r; exact .nil
  | k :: ks, _, r => by
    rw [List.map_cons] at r
    cases r with
    | cons h t => exact .cons (lfV_is h) (itemsL t)
abbrev NE := List Leaf × Addr × V
abbrev NR (p : NE) (q : List Leaf × Addr × Value) : Prop := p.1 = q.1 ∧ p.2.1 = q.2.1 ∧ RelV p.2.2 q.2.2
def NDok (P : Program) (w : World) (a : Addr) (xs : List NE) (h : Heap) : Prop :=
  xs.length ≤ sizeLine ∧ (a == sysModules) = false ∧ ∃ ys : List (List Leaf × Addr × Value), Paired NR xs ys ∧
    ∃ o es ep, h.get? a = some o ∧ o.ExactDict ∧ o.data = .dict es ep ∧ es.toList = ys.map (entryOfKey (tupleKind (leafKind P w))) ∧ (ys.map (·.1)).Nodup
def ndO (P : Program) (w : World) (a : Addr) (xs : List NE) : HO := .ext (NDok P w a xs)
def KeysAt (H : Hp) (xs : List NE) : Prop := ∀ x ∈ xs, H x.2.1 = some (.tup (x.1.map lfV))
def getN (xs : List NE) (k : List Leaf) : Option V := (xs.find? fun x => decide (x.1 = k)).map (·.2.2)
def putN (xs : List NE) (k : List Leaf) (b : Addr) (v : V) : List NE := if (getN xs k).isSome then xs.map (fun x => if x.1 = k then (x.1, x.2.1, v) else x) else xs ++ [(k, b, v)]
theorem nr_get {xs : List NE} {ys : List (List Leaf × Addr × Value)} (r : Paired NR xs ys) (k : List Leaf) : RelO (getN xs k) ((atKey ys k).map (·.2)) := by
  induction r with
  | nil => exact True.intro
  | @cons p q ps qs h t ih =>
    obtain ⟨h1, _, h2⟩ := h
    by_cases e : p.1 = k
    · have e' : q.1 = k := h1.symm.trans e
      have b : atKey (q :: qs) k = some q.2 := by simp [atKey, List.find?_cons, e']
      have c : getN (p :: ps) k = some p.2.2 := by simp [getN, List.find?_cons, e]
      rw [c, b]; exact h2
    · have e' : ¬ q.1 = k := fun z => e (h1.trans z)
      have b : atKey (q :: qs) k = atKey qs k := by simp [atKey, List.find?_cons, e']
      have c : getN (p :: ps) k = getN ps k := by simp [getN, List.find?_cons, e]
      rw [c, b]; exact ih
theorem nr_repl {xs : List NE} {ys : List (List Leaf × Addr × Value)} (r : Paired NR xs ys) (k : List Leaf) {y : V} {u : Value} (ry : RelV y u) :
    Paired NR (xs.map fun x => if x.1 = k then (x.1, x.2.1, y) else x) (ys.map (putAt k u)) := by
  induction r with
  | nil => exact .nil
  | @cons p q ps qs h t ih =>
    rw [List.map_cons, List.map_cons]
    refine .cons ?_ ih
    obtain ⟨h1, h2, h3⟩ := h
    unfold putAt
    by_cases e : p.1 = k
    · rw [if_pos e, if_pos (h1.symm.trans e)]; exact ⟨h1, h2, ry⟩
    · rw [if_neg e, if_neg (fun z => e (h1.trans z))]; exact ⟨h1, h2, h3⟩
theorem nr_put {xs : List NE} {ys : List (List Leaf × Addr × Value)} (r : Paired NR xs ys) (k : List Leaf) (b : Addr) {y : V} {u : Value} (ry : RelV y u) : Paired NR (putN xs k b y) (storedH ys k b u) := by
  have e : (getN xs k).isSome = (atKey ys k).isSome := by rw [(nr_get r k).isSome_eq, Option.isSome_map]
  unfold putN storedH
  rw [e]
  by_cases q : (atKey ys k).isSome = true
  · rw [if_pos q, if_pos q]; exact nr_repl r k ry
  · rw [if_neg q, if_neg q]; exact Paired.snoc r ⟨rfl, rfl, ry⟩
theorem putN_len (xs : List NE) (k : List Leaf) (b : Addr) (v : V) : (putN xs k b v).length ≤ xs.length + 1 := by
  unfold putN
  split
  · rw [List.length_map]; omega
  · rw [List.length_append, List.length_singleton]; omega
section
variable {P : Program} {w : World} {H : Hp} {h : Heap} {a b : Addr} {xs : List NE}
theorem keyL_of {ks : List Leaf} (ok : HOk P w H h) (e : H a = some (.tup (ks.map lfV))) : (tupleKind (leafKind P w)).is h ks a := by
  obtain ⟨_, its, r, o, h1, h2, n, h3⟩ := (show ObjOk P w H h a (.tup (ks.map lfV)) from ok a _ e)
  exact ⟨o, its.toArray, n, h1, h2, h3, by simpa using itemsL r⟩
theorem nd_rd (ok : HOk P w H h) (e : H a = some (ndO P w a xs)) (hk : KeysAt H xs) : xs.length ≤ sizeLine ∧ (a == sysModules) = false ∧ ∃ ys, Paired NR xs ys ∧ h.DictOfH (tupleKind (leafKind P w)) a ys := by
  obtain ⟨⟨z, y, ys, r, o, es, ep, h1, h2, h3, h4, h5⟩, _⟩ := (show ObjOk P w H h a (.ext (NDok P w a xs)) from ok a _ e)
  refine ⟨z, y, ys, r, o, es, ep, h1, h2, h3, h4, fun x hx => ?_, h5⟩
  have all : ∀ {l : List NE} {m : List (List Leaf × Addr × Value)}, Paired NR l m → (∀ x ∈ l, H x.2.1 = some (.tup (x.1.map lfV))) → ∀ x ∈ m, (tupleKind (leafKind P w)).is h x.1 x.2.1 := by
    intro l m q
    induction q with
    | nil => intro _ x hx; exact nomatch hx
    | @cons p q ps qs hq t ih =>
      intro hh x hx
      rcases List.mem_cons.mp hx with e | hx
      · subst e
        have := hh p List.mem_cons_self
        rw [hq.1, hq.2.1] at this
        exact keyL_of ok this
      · exact ih (fun x hx => hh x (List.mem_cons_of_mem _ hx)) x hx
  exact all r hk x hx
theorem nd_new {H' : Hp} {h' : Heap} {ys : List (List Leaf × Addr × Value)} (z : xs.length ≤ sizeLine) (y : (a == sysModules) = false) (r : Paired NR xs ys) (dd : h'.DictOfH (tupleKind (leafKind P w)) a ys) : ObjOk P w H' h' a (ndO P w a xs) := by
  obtain ⟨o, es, ep, h1, h2, h3, h4, _, h5⟩ := dd
  refine ⟨⟨z, y, ys, r, o, es, ep, h1, h2, h3, h4, h5⟩, ⟨o, h1⟩, fun g1 g2 hg hs => ?_⟩
  obtain ⟨z, y, ys, r, o, es, ep, h1, h2⟩ := hg
  exact ⟨z, y, ys, r, o, es, ep, hs o h1, h2⟩
end
/-- what the dict at a holds at y -/
def NGet (P : Program) (w : World) (H : Hp) (a : Addr) (y : V) (r : Option V) : Prop := ∃ xs k b, H a = some (ndO P w a xs) ∧ KeysAt H xs ∧ y = .ref b ∧ H b = some (.tup (k.map lfV)) ∧ r = getN xs k
def NPut (P : Program) (w : World) (H : Hp) (a : Addr) (y v : V) (H' : Hp) : Prop := ∃ xs k b, H a = some (ndO P w a xs) ∧ KeysAt H xs ∧ y = .ref b ∧ H b = some (.tup (k.map lfV)) ∧ xs.length < sizeLine ∧ H' = upd H a (ndO P w a (putN xs k b v))
def NGetQ (P : Program) (w : World) (Q : VK) (x y : V) (H : Hp) : Prop := ∃ a v, x = .ref a ∧ NGet P w H a y (some v) ∧ Q v H
def NInQ (P : Program) (w : World) (R : Bool → Prop) (x y : V) (H : Hp) : Prop := ∃ a o, x = .ref a ∧ NGet P w H a y o ∧ R o.isSome
def NPutQ (P : Program) (w : World) (R : Hp → Prop) (x y v : V) (H : Hp) : Prop := ∃ a H4, x = .ref a ∧ NPut P w H a y v H4 ∧ R H4
def tNGet (P : Program) (w : World) (td ty : TE) : TE := fun σ H Q => td σ H fun x H1 => ty σ H1 fun y H2 => NGetQ P w Q x y H2
def tNNotIn (P : Program) (w : World) (ty td : TE) : TE := fun σ H Q => ty σ H fun y H1 => td σ H1 fun x H2 => NInQ P w (fun b => Q (.bl (!b)) H2) x y H2
def sNPut (P : Program) (w : World) (td ty tv : TE) : TS := fun D σ H => tv σ H fun v H1 => td σ H1 fun x H2 => ty σ H2 fun y H3 => NPutQ P w (fun H4 => D.nx σ H4) x y v H3
def tNNew (P : Program) (w : World) : TE := fun _ H Q => ∀ p, H p = none → Q (.ref p) (upd H p (ndO P w p []))
section
variable {X : Cx} {o i value : Expr} {pos pos' : Pos} {td ty tv : TE} {P : Program} {w : World}
theorem pe_nget (hP : X.prog = P) (hw : X.w = w) (hu : X.A.units + 1 < cLine) (ho : PE X o td) (hi : PE X i ty) (hs : NoSl i) : PE X (.Subscript o i pos) (tNGet P w td ty) := by
  subst hP hw
  refine ⟨fun pins s σ H Q I h => ?_⟩
  refine subD_of PySem.F.slot_dict_getitem.lookup hs (thn (ho.run pins s σ H _ I h) fun u s1 ⟨x, H1, I1, rx, q1⟩ => thn (hi.run pins s1 σ H1 _ I1 q1) fun iv s2 ⟨y, H2, I2, ry, a, v, ex, g, q2⟩ => ?_)
  subst ex
  obtain rfl : u = Value.ref a := rx
  obtain ⟨xs, k, b, e, hk, ey, eb, l⟩ := g
  subst ey
  obtain rfl : iv = Value.ref b := ry
  obtain ⟨z, hd, ys, rel, dd⟩ := nd_rd I2.hok e hk
  refine ⟨dd.typeIs, ?_⟩
  obtain ⟨w', hw, rw'⟩ := RelO.some_of (v := v) (o := (atKey ys k).map (·.2)) (by rw [l]; exact nr_get rel k)
  obtain ⟨p, hp, hp2⟩ := Option.map_eq_some_iff.mp hw
  refine wpAny_getItem_heap (tupleKind_room_in1 hu) (keyL_of I2.hok eb) dd hp ?_
  rw [hp2]
  exact ⟨v, H2, I2.tok _, rw', q2⟩
theorem pc_nnotin (hP : X.prog = P) (hw : X.w = w) (hu : X.A.units + 1 < cLine) (hi : PE X i ty) (ho : PE X o td) : PC X .NotIn i o (tNNotIn P w ty td) := by
  subst hP hw
  refine ⟨fun pins s σ H Q I h => ?_⟩
  refine thn (hi.run pins s σ H _ I h) fun iv s1 ⟨y, H1, I1, ry, q1⟩ => thn (ho.run pins s1 σ H1 _ I1 q1) fun u s2 ⟨x, H2, I2, rx, a, ov, ex, g, q2⟩ => ?_
  subst ex
  obtain rfl : u = Value.ref a := rx
  obtain ⟨xs, k, b, e, hk, ey, eb, l⟩ := g
  subst ey
  obtain rfl : iv = Value.ref b := ry
  obtain ⟨z, hd, ys, rel, dd⟩ := nd_rd I2.hok e hk
  refine wpAny_notIn_heap (tupleKind_room_in1 hu) (keyL_of I2.hok eb) hd dd ?_
  have q := (nr_get rel k).isSome_eq
  rw [Option.isSome_map] at q
  rw [← q, ← l]
  exact ⟨.bl (!ov.isSome), H2, I2.tok _, rfl, q2⟩
theorem ps_nput (hP : X.prog = P) (hw : X.w = w) (hu : X.A.units + 1 < cLine) (ho : PE X o td) (hi : PE X i ty) (hv : PE X value tv) (hs : swapsWith value (some (.Subscript o i pos')) pos.line X.env = pure false) :
    PS X (.Assign [.Subscript o i pos'] value pos) (sNPut P w td ty tv) := by
  subst hP hw
  refine ⟨fun pins s σ H D I h => ?_⟩
  refine wpAny_Assign_Subscript (thn (hv.run pins s σ H _ I h) fun r s1 ⟨v, H1, I1, rv, q1⟩ => thn (ho.run pins s1 σ H1 _ I1 q1) fun u s2 ⟨x, H2, I2, rx, q2⟩ => thn (hi.run pins s2 σ H2 _ I2 q2) fun iv s3 ⟨y, H3, I3, ry, a, H4, ex, g, q3⟩ => ?_) hs
  subst ex
  obtain rfl : u = Value.ref a := rx
  obtain ⟨xs, k, b, e, hk, ey, eb, hl, rfl⟩ := g
  subst ey
  obtain rfl : iv = Value.ref b := ry
  obtain ⟨z, hd, ys, rel, dd⟩ := nd_rd I3.hok e hk
  have hz : ys.length ≤ sizeLine := by rw [← Paired.length rel]; exact z
  have hl2 : (putN xs k b v).length ≤ sizeLine := by have := putN_len xs k b v; omega
  refine wpAny_setItem_heap (hsz := hz) (tupleKind_room_in1 hu) (keyL_of I3.hok eb) dd fun h' dd' hs => ⟨σ, _, ?_, q3⟩
  have he : ∃ q, h'.get? a = some q := let ⟨q, _, _, hq, _⟩ := dd'; ⟨q, hq⟩
  exact d_write I3 (by rw [e]; exact True.intro) hs he (nd_new hl2 hd (nr_put rel k b rv) dd')
theorem pe_nnew (hP : X.prog = P) (hw : X.w = w) : PE X (.Dict [] [] pos) (tNNew P w) := by
  subst hP hw
  exact ⟨fun pins s σ H Q I h =>
    wpAny_Dict_empty ⟨.ref s.heap.objs.size, _, I.laid (a := s.heap.objs.size) (o := ndO X.prog X.w s.heap.objs.size []) (t' := s.toks) (fun _ _ q => Heap.get?_push_of_some _ q) (Nat.le_refl _)
      (nd_new (Nat.zero_le _) (beq_eq_false_iff_ne.mpr (Ne.symm (Nat.ne_of_lt I.big))) .nil ⟨_, #[], 0, Heap.get?_push_size _ rfl, ⟨rfl, rfl, rfl⟩, rfl, rfl, fun _ h => (nomatch h), List.nodup_nil⟩), rfl, h _ (I.hok.fresh (Nat.le_refl _))⟩⟩
end
theorem kit_self {K : PySem.W.Frag} {C : Addr} : PySem.W.kitOne K (.ref C) (.ref C) = some true := if_pos (beq_self_eq_true _)
section
variable {P : Program} {w : World} {K : PySem.W.Frag} {σ : L2.St} {H : Hp} {F : List (V × D)} {M M' : List ME} {Q : VK} {G : Ends} {v y : V} {p : Addr} {xs : List NE} {k : List Leaf}
theorem s_nget {td ty : TE} (h : td σ H fun x H1 => ty σ H1 fun y H2 => NGetQ P w Q x y H2) : tNGet P w td ty σ H Q := h
theorem s_nnotin {td ty : TE} (h : ty σ H fun y H1 => td σ H1 fun x H2 => NInQ P w (fun b => Q (.bl (!b)) H2) x y H2) : tNNotIn P w ty td σ H Q := h
theorem s_nput {td ty tv : TE} (h : tv σ H fun v H1 => td σ H1 fun x H2 => ty σ H2 fun y H3 => NPutQ P w (fun H4 => G.nx σ H4) x y v H3) : sNPut P w td ty tv G σ H := h
theorem s_nnew (ww : Wf F H M) (q : ∀ p H', Wf F H' (.raw p (ndO P w p []) :: M) → Q (.ref p) H') : tNNew P w σ H Q := fun p hp => q p _ (ww.newRaw hp)
/-- all keys of the dict are known -/
def KnK (F : List (V × D)) (xs : List NE) : Prop := ∀ x ∈ xs, Kn F (.ref x.2.1) (.tup (x.1.map lfD))
theorem isA_leafs {I : Hp} : ∀ {k : List Leaf} {vs : List V}, IsA I vs (k.map lfD) → vs = k.map lfV
  | [], _, h => by cases h; rfl
  | c :: cs, _, h => by
    cases h with
    | cons h1 h2 =>
      rw [isA_leafs h2]
      cases c <;> cases h1 <;> rfl
theorem Wf.keyL (ww : Wf F H M) (h : Rk F M y (.tup (k.map lfD))) : ∃ b, y = .ref b ∧ H b = some (.tup (k.map lfV)) := by
  obtain ⟨I, Mc, ww, a, hF⟩ := ww.ex
  obtain ⟨p, vs, rfl, hp, b⟩ := h.tup ww a hF
  exact ⟨p, rfl, by rw [hp, isA_leafs b]⟩
theorem Kn.rkT {ds : List D} (h : Kn F v (.tup ds)) : Rk F M v (.tup ds) := Rk.of h fun q => by rcases q with ⟨n, e⟩ | ⟨n, e⟩ <;> cases e
theorem KnK.at (ww : Wf F H M) (h : KnK F xs) : KeysAt H xs := fun x hx => by
  obtain ⟨b, e, hb⟩ := ww.keyL (M := M) (h x hx).rkT
  cases e
  exact hb
theorem n_nget {v : V} (ww : Wf F H M) (h : .raw p (ndO P w p xs) ∈ M) (hk : KnK F xs) (hy : Rk F M y (.tup (k.map lfD))) (hg : getN xs k = some v) (q : Q v H) : NGetQ P w Q (.ref p) y H := by
  obtain ⟨b, rfl, hb⟩ := ww.keyL hy
  exact ⟨p, v, rfl, ⟨xs, k, b, ww.rawAt h, hk.at ww, rfl, hb, hg.symm⟩, q⟩
theorem n_nin {R : Bool → Prop} (ww : Wf F H M) (h : .raw p (ndO P w p xs) ∈ M) (hk : KnK F xs) (hy : Rk F M y (.tup (k.map lfD))) (q : R (getN xs k).isSome) : NInQ P w R (.ref p) y H := by
  obtain ⟨b, rfl, hb⟩ := ww.keyL hy
  exact ⟨p, _, rfl, ⟨xs, k, b, ww.rawAt h, hk.at ww, rfl, hb, rfl⟩, q⟩
theorem n_nput {R : Hp → Prop} {M2 : HO → List ME} (ww : Wf F H M) (f : ∀ o', Foc M (.raw p (ndO P w p xs)) (M2 o') (.raw p o')) (hk : KnK F xs) (hy : Rk F M y (.tup (k.map lfD))) (hl : xs.length ≤ 100000) (q : ∀ b H', y = .ref b → Wf F H' (M2 (ndO P w p (putN xs k b v))) → R H') : NPutQ P w R (.ref p) y v H := by
  obtain ⟨b, rfl, hb⟩ := ww.keyL hy
  have h : .raw p (ndO P w p xs) ∈ M := (f (.lst [])).mem
  refine ⟨p, _, rfl, ⟨xs, k, b, ww.rawAt h, hk.at ww, rfl, hb, Nat.lt_of_le_of_lt hl (by decide), rfl⟩, q b _ rfl ?_⟩
  exact ww.put (f _) fun I m hF c => by cases c; exact ⟨rfl, .raw fun _ e => nomatch e⟩
end
/-! ### a list that may be changed, handed to a def of the elder form -/
theorem Rem.of {M : List ME} {e : ME} (h : e ∈ M) : ∃ M', Rem M e M' := by
  induction M with
  | nil => cases h
  | cons x M ih =>
    rcases List.mem_cons.mp h with rfl | h
    · exact ⟨M, .here⟩
    · obtain ⟨M', r⟩ := ih h
      exact ⟨x :: M', .there r⟩
theorem Wf.oldL {F : List (V × D)} {H : Hp} {M M' : List ME} {p : Addr} {ds : List D} (w : Wf F H M) (r : Rem M (.ml p ds) M') : ∃ I Mc, W I H Mc ∧ Is I (.ref p) (.lst ds) ∧ (∀ v d, Kn F v d → Is I v d) ∧ (∀ J H', Same I J → W J H' Mc → Wf F H' M) ∧ ∀ J H' u a b, Same I J → W J H' Mc → Is J u (.tup [.int a, .int b]) → Wf ((u, .tup [.int a, .int b]) :: F) H' M := by
  obtain ⟨I, Mc, w, ac, hF⟩ := w.ex
  obtain ⟨M1, m, M2, rfl, h1, h2⟩ := ac.rem r
  cases h1 with
  | @ml _ vs _ b =>
    have hI : I p = none := (w.mu _ (List.mem_append_right _ List.mem_cons_self)).2
    have go : ∀ J H', Same (upd I p (.lst vs)) J → W J H' (M1 ++ M2) → Same I (fun x => if x = p then none else J x) ∧ W (fun x => if x = p then none else J x) H' (M1 ++ (p, .lst vs) :: M2) := fun J H' s w' => by
      have hJ : J p = some (.lst vs) := s _ _ upd_same
      refine ⟨fun c x e => ?_, fun c x e => ?_, fun x hx => ?_, w.nd⟩
      · have ne : c ≠ p := fun q => by rw [q, hI] at e; cases e
        show (if c = p then none else J c) = some x
        rw [if_neg ne]
        exact s _ _ (by rw [upd_ne ne]; exact e)
      · have e' : (if c = p then none else J c) = some x := e
        by_cases ne : c = p
        · rw [if_pos ne] at e'; cases e'
        · rw [if_neg ne] at e'
          exact w'.imm _ _ e'
      · rcases List.mem_append.mp hx with hx | hx
        · obtain ⟨q1, q2⟩ := w'.mu x (List.mem_append_left _ hx)
          exact ⟨q1, by show (if x.1 = p then none else J x.1) = none; rw [q2]; split <;> rfl⟩
        · rcases List.mem_cons.mp hx with rfl | hx
          · exact ⟨w'.imm _ _ hJ, if_pos rfl⟩
          · obtain ⟨q1, q2⟩ := w'.mu x (List.mem_append_right _ hx)
            exact ⟨q1, by show (if x.1 = p then none else J x.1) = none; rw [q2]; split <;> rfl⟩
    refine ⟨upd I p (.lst vs), M1 ++ M2, w.frz, .lst upd_same (b.mono w.frzS), fun v d h => (h.is hF).mono w.frzS, fun J H' s w' => ?_, fun J H' u x y s w' hu => ?_⟩
    · obtain ⟨g1, g2⟩ := go J H' s w'
      exact ⟨_, _, g2, ac.mono g1, fun f hf => (hF f hf).mono g1⟩
    · obtain ⟨g1, g2⟩ := go J H' s w'
      refine ⟨_, _, g2, ac.mono g1, fun f hf => ?_⟩
      rcases List.mem_cons.mp hf with rfl | hf
      · have hJ : J p = some (.lst vs) := s _ _ upd_same
        obtain ⟨q, us, e, hq, hh⟩ := hu.tup_ex
        subst e
        have ne : q ≠ p := fun z => by rw [z, hJ] at hq; cases hq
        refine .tup (show (if q = p then none else J q) = some (.tup us) by rw [if_neg ne]; exact hq) ?_
        cases hh with
        | cons k1 hh =>
          cases hh with
          | cons k2 hh =>
            cases hh
            cases k1
            cases k2
            exact .cons (.int _) (.cons (.int _) .nil)
      · exact (hF f hf).mono g1
/-- .. or for good -/
theorem Wf.oldR {F : List (V × D)} {H : Hp} {M : List ME} {v : V} {ds : List D} (w : Wf F H M) (h : Rk F M v (.lst ds)) : ∃ I Mc, W I H Mc ∧ Is I v (.lst ds) ∧ (∀ v d, Kn F v d → Is I v d) ∧ (∀ J H', Same I J → W J H' Mc → Wf F H' M) ∧ ∀ J H' u a b, Same I J → W J H' Mc → Is J u (.tup [.int a, .int b]) → Wf ((u, .tup [.int a, .int b]) :: F) H' M := by
  cases h with
  | mem h =>
    obtain ⟨I, Mc, w, is, k1, k2⟩ := w.old
    exact ⟨I, Mc, w, is _ _ (.mem h), is, k1, fun J H' u a b s w' hu => k2 J H' u _ s w' hu⟩
  | ml h =>
    obtain ⟨M', r⟩ := Rem.of h
    exact w.oldL r
end Fs

namespace Fs
open PySem PySem.Spec PyProof.Rows L2
theorem s_rng2 {σ : L2.St} {H : Hp} {ta : TA} {R : It → Hp → Prop} (h : ta σ H fun vs H1 => ∃ i j : Int, vs = [.int i, .int j] ∧ (-(2 ^ 62) ≤ i ∧ i < 2 ^ 62 ∧ -(2 ^ 62) ≤ j ∧ j < 2 ^ 62) ∧ R (Itr i (j - i).toNat) H1) : iRng2 ta σ H R := h
theorem s_rng2' {P : Int → Int → Prop} {i j : Int} (h1 : -(2 ^ 62) ≤ i) (h2 : i < 2 ^ 62) (h3 : -(2 ^ 62) ≤ j) (h4 : j < 2 ^ 62) (h : P i j) : ∃ i' j' : Int, [V.int i, V.int j] = [.int i', .int j'] ∧ (-(2 ^ 62) ≤ i' ∧ i' < 2 ^ 62 ∧ -(2 ^ 62) ≤ j' ∧ j' < 2 ^ 62) ∧ P i' j' := ⟨i, j, rfl, ⟨h1, h2, h3, h4⟩, h⟩
section
variable {K : PySem.W.Frag} {σ : L2.St} {H : Hp} {F : List (V × D)} {M M' : List ME} {Q : VK} {G : Ends} {v u x y : V} {ds es : List D} {g : TG} {tb : TS} {te : TE} {tt : TT} {a b : Addr} {J : It} {n : Nat} {f : Nat → D} {OK : List (V × D) → List ME → Prop}
/-- any comprehension, what is known and what may be changed goes along -/
theorem n_lcK {xs : List Nat} (S : Src J n f OK) (w : Wf F H M) (R : Nat → List D → List (V × D) → List ME → Prop) (okm : ∀ i D acc F M, R i acc F M → OK F (.ml D acc :: M)) (h0 : R 0 [] F M) (hn : n ≤ 100000)
    (step : ∀ i x D acc H0 F M (Ap : VK) (Sk : Hp → Prop), i < n → R i acc F M → Wf ((x, f i) :: F) H0 (.ml D acc :: M) → (∀ y d H4 F' M', Wf ((y, d) :: F') H4 (.ml D acc :: M') → R (i + 1) (acc ++ [d]) F' M' → Ap y H4) → (∀ H3 F' M', Wf F' H3 (.ml D acc :: M') → R (i + 1) acc F' M' → Sk H3) →
      g x (wipe σ xs) H0 fun σ2 H2 => wipe σ2 xs = wipe σ xs ∧ tt σ2 H2 fun b H3 => if b = true then te σ2 H3 Ap else Sk H3)
    (q : ∀ p es H' F' M', R n es F' M' → Wf F' H' (.ml p es :: M') → Q (.ref p) H') : LcGo J g tt te xs σ Q H := by
  intro D nD
  have w0 : Wf F (upd H D (.lst [])) (.ml D [] :: M) := by
    obtain ⟨I, Mc, w, a, hF⟩ := w.ex
    exact ⟨I, _, w.newM nD, .cons (.ml .nil) a, hF⟩
  refine ⟨fun i m H => m = n - i ∧ i ≤ n ∧ ∃ acc F M, R i acc F M ∧ acc.length ≤ i ∧ Wf F H (.ml D acc :: M), ⟨n, rfl, Nat.zero_le _, [], F, M, h0, Nat.le_refl _, w0⟩, ?_⟩
  rintro i m H ⟨rfl, hi, acc, F, M, hR, hl, w⟩
  by_cases hlt : i < n
  · refine .inr ⟨S.go i H _ _ hlt (okm _ _ _ _ _ hR) w, fun H' => ∃ acc F M, R (i + 1) acc F M ∧ acc.length ≤ i + 1 ∧ Wf F H' (.ml D acc :: M), fun H' ⟨acc', F', M', h1, h2, h3⟩ => ⟨n - (i + 1), by omega, rfl, hlt, acc', F', M', h1, h2, h3⟩, fun x H' y => ?_⟩
    refine step i x D acc H' F M _ _ hlt hR (S.yld i H _ _ x H' hlt (okm _ _ _ _ _ hR) w y) (fun y d H4 F' M' w4 r => ?_) fun H3 F' M' w3 r => ⟨acc, F', M', r, by omega, w3⟩
    obtain ⟨vs, h1, h2⟩ := w4.lstAt List.mem_cons_self
    have w5 : Wf F' (upd H4 D (.lst (vs ++ [y]))) (.ml D (acc ++ [d]) :: M') := by
      obtain ⟨I, Mc, w, a, hF⟩ := w4.ex
      cases a with
      | cons h a =>
        cases h with
        | ml b =>
          have := w.at0
          rw [this] at h1
          cases h1
          exact ⟨I, _, w.put0, .cons (.ml (b.app (.one (hF _ List.mem_cons_self)))) a, fun f hf => hF f (List.mem_cons_of_mem _ hf)⟩
    exact ⟨vs, h1, by rw [h2]; exact Nat.lt_of_le_of_lt hl (Nat.lt_of_lt_of_le hlt (Nat.le_trans hn (by decide))), acc ++ [d], F', M', r, by rw [List.length_append]; exact Nat.add_le_add_right hl 1, w5⟩
  · have e : i = n := by omega
    subst e
    exact .inl ⟨S.stop H _ _ (okm _ _ _ _ _ hR) w, q D acc H F M hR w⟩
theorem n_lcKL {xs : List Nat} (w : Wf F H M) (R : Nat → List D → List (V × D) → List ME → Prop) (hv : ∀ i acc F M, R i acc F M → Rk F M v (.lst ds)) (h0 : R 0 [] F M) (hn : ds.length ≤ 100000)
    (step : ∀ i d x D acc H0 F M (Ap : VK) (Sk : Hp → Prop), ds[i]? = some d → R i acc F M → Wf ((x, d) :: F) H0 (.ml D acc :: M) → (∀ y d H4 F' M', Wf ((y, d) :: F') H4 (.ml D acc :: M') → R (i + 1) (acc ++ [d]) F' M' → Ap y H4) → (∀ H3 F' M', Wf F' H3 (.ml D acc :: M') → R (i + 1) acc F' M' → Sk H3) →
      g x (wipe σ xs) H0 fun σ2 H2 => wipe σ2 xs = wipe σ xs ∧ tt σ2 H2 fun b H3 => if b = true then te σ2 H3 Ap else Sk H3)
    (q : ∀ p es H' F' M', R ds.length es F' M' → Wf F' H' (.ml p es :: M') → Q (.ref p) H') : ∃ a, v = .ref a ∧ (∃ xs, SqL K H a xs) ∧ LcGo (Itl K a) g tt te xs σ Q H := by
  obtain ⟨I, Mc, p, vs, rfl, w1, ac, hF, hp, b⟩ := w.lstE (hv _ _ _ _ h0)
  refine ⟨p, rfl, ⟨vs, .inl (.inl hp)⟩, n_lcK src_list w R (fun i D acc F M h => (hv _ _ _ _ h).more) h0 hn (fun i x D acc H0 F M Ap Sk hi hR w k1 k2 => ?_) q⟩
  have e1 : ds[i]? = some ds[i] := List.getElem?_eq_getElem hi
  rw [getD_of e1] at w
  exact step i _ x D acc H0 F M Ap Sk e1 hR w k1 k2
end
/-! ### whether a number is among some -/
theorem k_in {X : Cx} {K : PySem.W.Frag} (h : X.K = K) : OpR X (compareOp .In) (rIn K false) := h ▸ op_in_seq
theorem k_notin {X : Cx} {K : PySem.W.Frag} (h : X.K = K) : OpR X (compareOp .NotIn) (rIn K true) := h ▸ op_notIn_seq
theorem inV_ints (n : Int) : ∀ ns : List Int, inV (.int n) (ns.map V.int) = decide (n ∈ ns)
  | [] => rfl
  | m :: ns => by
    have := inV_ints n ns
    unfold inV at this ⊢
    rw [List.map_cons, List.any_cons, this]
    have e : eqV (.int m) (.int n) = decide (n = m) := by
      show (m == n) = _
      by_cases h : n = m
      · subst h; simp
      · have h2 : m ≠ n := fun z => h z.symm
        simp [h, h2]
    rw [e]
    simp only [List.mem_cons, Bool.decide_or]
theorem flat_ints : ∀ ns : List Int, (ns.map V.int).all flatV = true
  | [] => rfl
  | _ :: ns => by rw [List.map_cons, List.all_cons, flat_ints ns]; rfl
section
variable {K : PySem.W.Frag} {H : Hp} {F : List (V × D)} {M : List ME} {Q : VK} {v : V}
theorem n_in {ns : List Int} {n : Int} (w : Wf F H M) (h : Rk F M v (.lst (ns.map D.int))) (q : Q (.bl (decide (n ∈ ns))) H) : rIn K false (.int n) v H Q := by
  obtain ⟨p, rfl, hp⟩ := w.ints h
  exact ⟨p, _, rfl, .inl (.inl (.inl hp)), rfl, flat_ints ns, by rw [inV_ints]; exact q⟩
theorem n_notin {ns : List Int} {n : Int} (w : Wf F H M) (h : Rk F M v (.lst (ns.map D.int))) (q : Q (.bl (!decide (n ∈ ns))) H) : rIn K true (.int n) v H Q := by
  obtain ⟨p, rfl, hp⟩ := w.ints h
  exact ⟨p, _, rfl, .inl (.inl (.inl hp)), rfl, flat_ints ns, by rw [inV_ints]; exact q⟩
end
def natD (n : Nat) : D := .int n
def nz (l : List Nat) : List Int := l.map fun e : Nat => (e : Int)
theorem natD_map (l : List Nat) : l.map natD = (nz l).map D.int := by unfold nz; rw [List.map_map]; rfl
theorem mem_nz {l : List Nat} {e : Nat} : (e : Int) ∈ nz l ↔ e ∈ l := by
  unfold nz
  rw [List.mem_map]
  constructor
  · rintro ⟨a, h, e⟩
    have : a = _ := Int.ofNat.inj e
    exact this ▸ h
  · exact fun h => ⟨e, h, rfl⟩
/-! ### list(d): the keys of a dict -/
def LdQ (Q : VK) (xs : List V) (H : Hp) : Prop := ∃ (a : Addr) (kvs : List (Key × V)), xs = [.ref a] ∧ Rd H a (.dK kvs) ∧ ∀ p, H p = none → Q (.ref p) (upd H p (.lst (kvs.map fun kv => kV kv.1)))
theorem k_listD {X : Cx} (hc : X.calm = true) : CallR X (.type "list") (fun xs H Q => LdQ Q xs H) := call_listD hc
theorem IsP.keys {I : Hp} : ∀ {vs : List (Key × V)} {ds : List (Key × D)}, IsP I vs ds → IsA I (vs.map fun kv => kV kv.1) (ds.map fun kv => keyD kv.1)
  | _, _, .nil => .nil
  | _, _, .cons (f := k) h a => .cons (by cases k with | inl i => exact .int i | inr i => exact .str i) (IsP.keys a)
theorem n_listD {H : Hp} {F : List (V × D)} {M : List ME} {Q : VK} {p : Addr} {kvs : List (Key × D)} (w : Wf F H M) (h : .dk p kvs ∈ M) (q : ∀ l H', Wf F H' (.ml l (kvs.map fun kv => keyD kv.1) :: M) → Q (.ref l) H') : LdQ Q [.ref p] H := by
  obtain ⟨I, Mc, vs, w, a, hF, hp, ha⟩ := w.dkAt h
  exact ⟨p, vs, rfl, .inl hp, fun l hl => q l _ ⟨I, _, w.newM hl, .cons (.ml ha.keys) a, hF⟩⟩
end Fs

namespace Fs
open PySem PySem.Spec PyProof.Rows L2
/-! ### sorted(d, reverse=True): the keys of d are pairs of ints -/
def pairAt (H : Hp) : V → Int × Int
  | .ref a => match H a with
    | some (.tup [.int i, .int j]) => (i, j)
    | _ => (0, 0)
  | _ => (0, 0)
def ndK (n : Int × Int) : List Key := [.inl n.1, .inl n.2]
def lexGe (a b : Int × Int) : Prop := b.1 < a.1 ∨ (a.1 = b.1 ∧ b.2 ≤ a.2)
def rSortRevT : List V → List V → Hp → VK → Prop := fun vs zs H Q => ∃ (d : Addr) (kvs : List (List Key × V)) (ns : List (Int × Int)), vs = [.ref d] ∧ zs = [.bl true] ∧ Rd H d (.dT kvs) ∧ kvs.map (·.1) = ns.map ndK ∧
  ∀ (ms : List (Int × Int)) (bs : List Addr) (p : Addr), ms.Perm ns → ms.Pairwise lexGe → bs.length = ms.length → (∀ (i : Nat) (b : Addr) (m : Int × Int), bs[i]? = some b → ms[i]? = some m → H b = some (.tup [.int m.1, .int m.2])) → H p = none → Q (.ref p) (upd H p (.lst (bs.map V.ref)))
theorem keyAcc {P : Program} {w : World} {es : Array DictEntry} {ks : List (List Key × Addr × Value)} {acc : Array Value} (he : es.toList = ks.map (entryOfKey (tupleKind (mixKind P w)))) (it : ItemsOf (fun i v => ∃ en : DictEntry, es[i]? = some en ∧ v = en.key) acc es.size) : acc.toList = (ks.map fun x => x.2.1).map Value.ref := by
  have l1 : acc.toList.length = ks.length := by
    rw [Array.length_toList, it.1, ← Array.length_toList, he, List.length_map]
  refine List.ext_getElem (by rw [l1, List.length_map, List.length_map]) fun j h1 h2 => ?_
  have hj : j < ks.length := by omega
  obtain ⟨en, q1, q2⟩ := it.2 j _ (by rw [← Array.getElem?_toList]; exact List.getElem?_eq_getElem h1)
  have q3 : es.toList[j]? = some en := by rw [Array.getElem?_toList]; exact q1
  rw [he, List.getElem?_map, List.getElem?_eq_getElem hj] at q3
  rw [q2, ← Option.some.inj q3, List.getElem_map, List.getElem_map]
  rfl
theorem kt_keys {H : Hp} {kvs : List (List Key × V)} {ks : List (List Key × Addr × Value)} (r : KT H kvs ks) : ∀ {ns : List (Int × Int)}, kvs.map (·.1) = ns.map ndK → (ks.map fun x => pairAt H (.ref x.2.1)) = ns ∧ ∀ x ∈ ks, ∃ n : Int × Int, H x.2.1 = some (.tup [.int n.1, .int n.2]) := by
  induction r with
  | nil =>
    intro ns e
    cases ns with
    | nil => exact ⟨rfl, fun _ h => (nomatch h)⟩
    | cons n ns => cases e
  | @cons p q ps qs h t ih =>
    intro ns e
    cases ns with
    | nil => cases e
    | cons n ns =>
      injection e with e1 e2
      obtain ⟨i1, i2⟩ := ih e2
      have h2 := h.2.1
      rw [show p.1 = ndK n from e1] at h2
      have h3 : H q.2.1 = some (.tup [.int n.1, .int n.2]) := h2
      refine ⟨?_, fun x hx => ?_⟩
      · rw [List.map_cons, i1]
        congr 1
        show (match H q.2.1 with | some (.tup [.int i, .int j]) => (i, j) | _ => (0, 0)) = n
        rw [h3]
      · rcases List.mem_cons.mp hx with rfl | hx
        · exact ⟨n, h3⟩
        · exact i2 x hx
section
variable {X : Cx}
theorem cr_sortedRevT (hc : X.calm = true) : CallRK X (.builtin "sorted") [Str.ofString "reverse"] rSortRevT := by
  intro pins s σ H vs zs us ws Q I r rz h
  obtain ⟨d, kvs, ns, rfl, rfl, hd, hk, q⟩ := h
  obtain rfl := Vals.ref1 r
  obtain ⟨w1, rfl, e1⟩ := vals1 rz
  obtain rfl : w1 = Value.bool true := e1
  obtain ⟨z, hs, ks, pr, o, es, ep, ho, hx, hdt, he, hn⟩ := (show ObjOk X.prog X.w H s.heap d (.dT kvs) from hd.ok I.hok)
  have lk : kvs.length = ks.length := Paired.length pr
  have le : es.size = ks.length := by rw [← Array.length_toList, he, List.length_map]
  refine call_function_entry_kw kind_sorted plain_sorted entry_sorted (args_sorted_rev _ _) ?_
  unfold Builtin.«sorted»
  refine wpAny_bind (m := checkCount "sorted" 1 1 _) (wpAny_pure ?_)
  refine wpAny_bind (PySem.W.kdu_collect (A := X.A.in1) (kdl_raw hs hx hdt) (I.ok.hd hc) ho (by omega) fun h' tk acc kp hacc => ?_)
  have ea := keyAcc he hacc
  have hsz : acc.toList.length = ks.length := by rw [ea]; simp
  obtain ⟨hns, hkey⟩ := kt_keys pr hk
  have hit : ∀ v ∈ acc.toList, ∃ b, v = Value.ref b ∧ ∃ n : Int × Int, H b = some (.tup [.int n.1, .int n.2]) := fun v hv => by
    rw [ea, List.map_map] at hv
    obtain ⟨x, hx, rfl⟩ := List.mem_map.mp hv
    exact ⟨_, rfl, hkey x hx⟩
  have hpa : ∀ b (n : Int × Int), H b = some (.tup [.int n.1, .int n.2]) → pairAt H (.ref b) = n := fun b n e => by
    show (match H b with | some (.tup [.int i, .int j]) => (i, j) | _ => (0, 0)) = n
    rw [e]
  refine wpAny_bind (wpAny_newList ?_ (by omega))
  have hoL : (h'.push (seqObj "list" acc.toList.toArray 0)).get? h'.objs.size = some (seqObj "list" acc.toList.toArray 0) := Heap.get?_push_size _ rfl
  refine wpAny_bind (wpAny_holding (wpAny_call_entry_kw slot_list_sort ⟨_, hoL, rfl⟩ entry_list_sort ?_ (args_list_sort_rev _ _)))
  refine SrtR.list_sort_ordR (SrtO.swo_lex fun u => pairAt H (backV u)) hoL (by omega) (fun h2 => ?_) fun out h1 h2 => ⟨_, rfl, ?_⟩
  · refine SrtO.pairs_sortableO (by omega) (fun v hv => ?_) fun o e => ?_
    · obtain ⟨b, rfl, n, hb⟩ := hit v hv
      obtain ⟨_, its2, r2, o2, ho2, hc2, n2, hd2⟩ := I.hok _ _ hb
      obtain ⟨u1, u2, rfl, ri, rj⟩ := vals2 r2
      obtain ⟨t1, rfl⟩ := ri
      obtain ⟨t2, rfl⟩ := rj
      rw [show pairAt H (backV (.ref b)) = n from hpa b n hb]
      exact ⟨b, o2, t1, t2, n2, rfl, Heap.get?_push_of_some _ (kp _ _ ho2), hc2, hd2⟩
    · have e' := Option.some.inj (e.symm.trans hoL)
      rw [e']
      intro c
      exact absurd (Value.type.inj c) (by decide)
  · refine wpAny_pure ⟨_, rfl, ?_⟩
    have h3 : ∀ u ∈ out, u ∈ acc.toList := fun u hu => List.mem_reverse.mp (h2.perm.mem_iff.mp hu)
    have hn1 : H h'.objs.size = none := (I.hok.kept kp).fresh (Nat.le_refl _)
    have hn2 : s.heap.get? h'.objs.size = none := by
      cases e : s.heap.get? h'.objs.size with
      | none => rfl
      | some u => exact absurd (Heap.lt_size (kp _ _ e)) (Nat.lt_irrefl _)
    obtain ⟨c, hfin⟩ := PyProof.Rows.sortedHeap_at (out := out.toArray.reverse) hoL
    have hlen : out.length = ks.length := by rw [h2.len]; simp [ea]
    have e0 : (if True then out.toArray.reverse else out.toArray) = out.reverse.toArray := by simp
    refine ⟨.ref _, upd H h'.objs.size (.lst ((out.reverse.map fun u => match u with | .ref a => a | _ => 0).map V.ref)), I.laidN (t' := tk) (fun b u e => ?_) hn2 hn1 ⟨?_, out.reverse, c, ?_, ?_⟩, rfl, q (out.reverse.map fun u => pairAt H (backV u)) (out.reverse.map fun u => match u with | .ref a => a | _ => 0) h'.objs.size ?_ ?_ (by simp) (fun i b m hb hm => ?_) hn1⟩
    · have hb := Heap.lt_size (kp _ _ e)
      rw [PyProof.Rows.sortedHeap_old (Nat.ne_of_lt hb) (by rw [size_push']; exact Nat.lt_succ_of_lt hb)]
      exact Heap.get?_push_of_some _ (kp _ _ e)
    · rw [List.length_map, List.length_map, List.length_reverse, hlen]; omega
    · rw [List.map_map]
      have : ∀ l : List Value, (∀ u ∈ l, ∃ b, u = Value.ref b) → Vals (l.map (V.ref ∘ fun u => match u with | .ref a => a | _ => 0)) l := fun l => by
        induction l with
        | nil => exact fun _ => .nil
        | cons u l ih =>
          intro hl
          obtain ⟨b, rfl⟩ := hl u List.mem_cons_self
          exact .cons rfl (ih fun v hv => hl v (List.mem_cons_of_mem _ hv))
      exact this _ fun u hu => by
        obtain ⟨b, e, _⟩ := hit u (h3 u (List.mem_reverse.mp hu))
        exact ⟨b, e⟩
    · simpa using hfin
    · have h4 : (out.reverse.map fun u => pairAt H (backV u)).Perm (acc.toList.map fun u => pairAt H (backV u)) := ((List.reverse_perm _).trans (h2.perm.trans (List.reverse_perm _))).map _
      have h5 : (acc.toList.map fun u => pairAt H (backV u)) = ns := by
        rw [ea, List.map_map, List.map_map, ← hns]
        rfl
      rw [h5] at h4
      exact h4
    · rw [List.pairwise_map, List.pairwise_reverse]
      refine h1.imp fun {u v} hh => ?_
      have := SrtO.lexB_no.mp hh
      unfold lexGe
      omega
    · rw [List.getElem?_map] at hb hm
      cases e : out.reverse[i]? with
      | none => rw [e] at hb; cases hb
      | some u =>
        rw [e] at hb hm
        obtain ⟨b', rfl, n, hb'⟩ := hit u (h3 u (List.mem_reverse.mp (List.mem_of_getElem? e)))
        cases hb
        have em : m = n := (Option.some.inj hm).symm.trans (hpa b' n hb')
        rw [em]
        exact hb'
end
/-! ### pairs known for good -/
inductive KnP (F : List (V × D)) {κ : Type} : List (κ × V) → List (κ × D) → Prop
  | nil : KnP F [] []
  | cons {f : κ} {v : V} {d : D} {vs : List (κ × V)} {ds : List (κ × D)} : Kn F v d → KnP F vs ds → KnP F ((f, v) :: vs) ((f, d) :: ds)
theorem Kn.sub {F F' : List (V × D)} {v : V} {d : D} (h : Kn F v d) (s : KS F F') : Kn F' v d := by
  cases h with
  | mem h => exact s _ h
  | int n => exact .int n
  | bl n => exact .bl n
  | str n => exact .str n
  | non => exact .non
  | ty n => exact .ty n
  | ref a => exact .ref a
theorem KnP.sub {F F' : List (V × D)} {κ : Type} (s : KS F F') : ∀ {vs : List (κ × V)} {ds : List (κ × D)}, KnP F vs ds → KnP F' vs ds
  | _, _, .nil => .nil
  | _, _, .cons h a => .cons (h.sub s) (KnP.sub s a)
theorem KnP.more {F : List (V × D)} {κ : Type} {f : V × D} {vs : List (κ × V)} {ds : List (κ × D)} (h : KnP F vs ds) : KnP (f :: F) vs ds := h.sub KS.refl.drop
theorem KnP.isP {I : Hp} {F : List (V × D)} {κ : Type} (hF : ∀ f ∈ F, Is I f.1 f.2) : ∀ {vs : List (κ × V)} {ds : List (κ × D)}, KnP F vs ds → IsP I vs ds
  | _, _, .nil => .nil
  | _, _, .cons h a => .cons (h.is hF) (KnP.isP hF a)
theorem KnP.length {F : List (V × D)} {κ : Type} : ∀ {vs : List (κ × V)} {ds : List (κ × D)}, KnP F vs ds → vs.length = ds.length
  | _, _, .nil => rfl
  | _, _, .cons _ a => by rw [List.length_cons, List.length_cons, KnP.length a]
theorem KnP.at {F : List (V × D)} {κ : Type} : ∀ {vs : List (κ × V)} {ds : List (κ × D)}, KnP F vs ds → ∀ {i : Nat} {k : κ} {u : V}, vs[i]? = some (k, u) → ∃ e, ds[i]? = some (k, e)
  | _, _, .nil, i, k, u, e => by simp at e
  | _, _, .cons _ a, 0, k, u, e => by cases e; exact ⟨_, rfl⟩
  | _, _, .cons _ a, i + 1, k, u, e => KnP.at a (i := i) e
theorem IsP.facts {I : Hp} {κ : Type} : ∀ {vs : List (κ × V)} {ds : List (κ × D)}, IsP I vs ds → ∃ F : List (V × D), (∀ f ∈ F, Is I f.1 f.2) ∧ KnP F vs ds
  | _, _, .nil => ⟨[], fun _ h => (nomatch h), .nil⟩
  | _, _, .cons (v := v) (d := d) h a => by
    obtain ⟨F, h1, h2⟩ := IsP.facts a
    refine ⟨(v, d) :: F, fun f hf => ?_, .cons (.mem List.mem_cons_self) h2.more⟩
    rcases List.mem_cons.mp hf with rfl | hf
    · exact h
    · exact h1 f hf
/-! ### a tuple that stands in the heap is known for good -/
theorem Cn.notT {I : Hp} {e : ME} {m : Addr × HO} (h : Cn I e m) : ∀ vs, m.2 ≠ .tup vs := by
  cases h with
  | raw hn => exact hn
  | ml _ => exact fun _ e => nomatch e
  | mi _ => exact fun _ e => nomatch e
  | bag hb =>
    obtain ⟨_, x, y, z, hb⟩ := hb
    have := hb.ob
    intro vs e
    rw [show _ = _ from this] at e
    cases e
  | dk _ => exact fun _ e => nomatch e
  | dt _ => exact fun _ e => nomatch e
  | cel _ => exact fun _ e => nomatch e
  | tb _ _ => exact fun _ e => nomatch e
theorem CnA.notT {I : Hp} {M : List ME} {Mc : List (Addr × HO)} (a : CnA I M Mc) : ∀ m ∈ Mc, ∀ vs, m.2 ≠ .tup vs := by
  induction a with
  | nil => exact fun _ h => nomatch h
  | cons h a ih =>
    intro m hm
    rcases List.mem_cons.mp hm with rfl | hm
    · exact h.notT
    · exact ih m hm
theorem Wf.tupN {F : List (V × D)} {H : Hp} {M : List ME} {q : Addr} {vs : List V} {ds : List D} (w : Wf F H M) (h : H q = some (.tup vs)) (hv : ∀ I, IsA I vs ds) : Wf ((.ref q, .tup ds) :: F) H M := by
  obtain ⟨I, Mc, w, a, hF⟩ := w.ex
  by_cases e : I q = none
  · have s : Same I (upd I q (.tup vs)) := fun b o hb => by
      have : b ≠ q := fun z => by rw [z, e] at hb; cases hb
      rw [upd_ne this]
      exact hb
    refine ⟨upd I q (.tup vs), Mc, ⟨fun b o hb => ?_, fun m hm => ⟨(w.mu m hm).1, ?_⟩, w.nd⟩, a.mono s, fun f hf => ?_⟩
    · by_cases hbq : b = q
      · subst hbq
        rw [upd_same] at hb
        rw [h, hb]
      · rw [upd_ne hbq] at hb
        exact w.imm b o hb
    · have : m.1 ≠ q := fun z => by
        have h1 := (w.mu m hm).1
        rw [z, h] at h1
        exact a.notT m hm vs (Option.some.inj h1).symm
      rw [upd_ne this]
      exact (w.mu m hm).2
    · rcases List.mem_cons.mp hf with rfl | hf
      · exact .tup upd_same (hv _)
      · exact (hF f hf).mono s
  · obtain ⟨o, ho⟩ := Option.ne_none_iff_exists'.mp e
    have h2 := w.imm q o ho
    rw [h] at h2
    cases h2
    exact ⟨I, Mc, w, a, fun f hf => by
      rcases List.mem_cons.mp hf with rfl | hf
      · exact .tup ho (hv _)
      · exact hF f hf⟩
theorem isA_key {I : Hp} : ∀ k : List Key, IsA I (k.map kV) (k.map keyD)
  | [] => .nil
  | k :: r => .cons (by cases k with | inl i => exact .int i | inr s => exact .str s) (isA_key r)
theorem Wf.keyN {F : List (V × D)} {H : Hp} {M : List ME} {q : Addr} {k : List Key} (w : Wf F H M) (h : H q = some (.tup (k.map kV))) : Wf ((.ref q, .tup (k.map keyD)) :: F) H M := w.tupN h fun I => isA_key k
/-! ### a dict with tuple keys that is walked -/
section
variable {K : PySem.W.Frag} {σ : L2.St} {H : Hp} {F : List (V × D)} {M M0 M' : List ME} {Q : VK} {G : Ends} {v x y : V} {p : Addr} {g : TG} {tb : TS} {td : TE} {kvs : List (List Key × D)} {vs : List (List Key × V)} {od : Obj} {d : D} {k : List Key}
theorem Wf.lockT (w : Wf F H M) (hr : Rem M (.dt p kvs) M0) : ∃ vs FX, H p = some (.dT vs) ∧ KS F FX ∧ KnP FX vs kvs ∧ ∀ od, Wf FX (upd H p (.frz od (.dT vs))) (.raw p (.frz od (.dT vs)) :: M0) := by
  obtain ⟨I, Mc, w, a, hF⟩ := w.ex
  obtain ⟨M1, m, M2, rfl, h3, h4⟩ := a.rem hr
  cases h3 with
  | @dt _ vs _ b =>
    obtain ⟨VF, q1, q2⟩ := b.facts
    refine ⟨vs, VF ++ F, w.at, fun f hf => .mem (List.mem_append_right _ hf), q2.sub fun f hf => .mem (List.mem_append_left _ hf), fun od => ?_⟩
    have w2 : W I (upd H p (.frz od (.dT vs))) (M1 ++ (p, .frz od (.dT vs)) :: M2) := w.put
    exact ⟨I, _, w2.perm List.perm_middle, .cons (.raw fun _ e => nomatch e) h4, fun f hf => (List.mem_append.mp hf).elim (q1 f) (hF f)⟩
theorem Wf.unlockT (w : Wf F H (.raw p (.frz od (.dT vs)) :: M)) (k : KnP F vs kvs) : H p = some (.frz od (.dT vs)) ∧ Wf F (upd H p (.dT vs)) (.dt p kvs :: M) := by
  refine ⟨w.rawAt List.mem_cons_self, ?_⟩
  obtain ⟨I, Mc, w, a, hF⟩ := w.ex
  cases a with
  | cons h a =>
    cases h with
    | raw _ => exact ⟨I, _, w.put0, .cons (.dt (k.isP hF)) a, hF⟩
/-- the heap of such a loop -/
def LIL (L : ME) (R : L2.St → List (V × D) → List ME → Prop) (σ : L2.St) (H : Hp) : Prop := ∃ F M, R σ F M ∧ Wf F H (L :: M)
/-- for k in d -/
theorem n_forKT (w : Wf F H M) (hr : Rem M (.dt p kvs) M0) (ht : ∀ H' (Q : VK), Q (.ref p) H' → td σ H' Q)
    (h : ∀ od vs FX, KS F FX → KnP FX vs kvs → ∃ R : Nat → L2.St → List (V × D) → List ME → Prop, (∀ i σ F' M', R i σ F' M' → KnP F' vs kvs) ∧ R 0 σ FX M0 ∧
      (∀ i k e x σ H F' M', kvs[i]? = some (k, e) → R i σ F' M' → Wf ((x, .tup (k.map keyD)) :: F') H (.raw p (.frz od (.dT vs)) :: M') →
        g x σ H fun σ2 H2 => tb { nx := LIL (.raw p (.frz od (.dT vs))) (R (i + 1)), ct := LIL (.raw p (.frz od (.dT vs))) (R (i + 1)), bk := fun σ' H' => H' p = some (.frz od (.dT vs)) ∧ G.nx σ' (upd H' p (.dT vs)), rt := fun v H' => H' p = some (.frz od (.dT vs)) ∧ G.rt v (upd H' p (.dT vs)) } σ2 H2) ∧
      ∀ σ H F' M', R kvs.length σ F' M' → Wf F' H (.dt p kvs :: M') → G.nx σ H) : tLock (tFor (iKeys td) g tb) G σ H := by
  obtain ⟨vs, FX, h1, h2, h3, h4⟩ := w.lockT hr
  refine ⟨p, .dT vs, h1, trivial, fun od => ?_⟩
  obtain ⟨R, r1, r2, r3, r4⟩ := h od vs FX h2 h3
  refine ht _ _ ⟨p, od, rfl, .inr ⟨vs, upd_same, ?_⟩⟩
  have hl := h3.length
  refine ⟨fun i m σ H => m = kvs.length - i ∧ i ≤ kvs.length ∧ LIL (.raw p (.frz od (.dT vs))) (R i) σ H, ⟨kvs.length, rfl, Nat.zero_le _, FX, M0, r2, h4 od⟩, ?_⟩
  rintro i m σ H ⟨rfl, hi, F', M', hR, w⟩
  have hat := w.rawAt List.mem_cons_self
  by_cases hlt : i < kvs.length
  · refine .inr ⟨⟨hat, by omega⟩, LIL (.raw p (.frz od (.dT vs))) (R (i + 1)), fun σ' H' z => ⟨kvs.length - (i + 1), by omega, rfl, hlt, z⟩, fun x H' y => ?_⟩
    obtain ⟨rfl, k, u, q, e1, rfl, hq⟩ := y
    obtain ⟨e, e2⟩ := h3.at e1
    exact r3 i k e _ σ _ F' M' e2 hR (w.keyN hq)
  · have e : i = kvs.length := by omega
    subst e
    obtain ⟨q1, q2⟩ := w.unlockT (r1 _ _ _ _ hR)
    exact .inl ⟨⟨hat, by omega⟩, q1, r4 σ _ F' M' hR q2⟩
/-- what such a dict holds -/
theorem KnP.get : ∀ {vs : List (List Key × V)} {kvs : List (List Key × D)}, KnP F vs kvs → ∀ {k : List Key} {d : D}, getP kvs k = some d → ∃ v, valV vs k = some v ∧ Kn F v d
  | _, _, .nil, k, d, e => by cases e
  | _, _, .cons (f := f) h a, k, d, e => by
    by_cases q : f = k
    · have : getP ((f, _) :: _) k = some _ := e
      rw [getP, List.find?_cons, decide_eq_true q] at this
      cases this
      exact ⟨_, valV_pos q, h⟩
    · have : getP ((f, _) :: _) k = some _ := e
      rw [getP, List.find?_cons, decide_eq_false q] at this
      obtain ⟨v, h1, h2⟩ := KnP.get a (k := k) this
      exact ⟨v, by rw [valV_neg q]; exact h1, h2⟩
theorem n_dgetTF (w : Wf F H M) (h : .raw p (.frz od (.dT vs)) ∈ M) (hk : KnP F vs kvs) (hy : Rk F M y (.tup (k.map keyD))) (hd : getP kvs k = some d) (q : ∀ u, Wf ((u, d) :: F) H M → Q u H) : DGetQ Q (.ref p) y H := by
  obtain ⟨b, rfl, hb⟩ := w.keyT hy
  obtain ⟨v, h1, h2⟩ := hk.get hd
  exact ⟨p, v, rfl, .inr ⟨vs, k, b, .inr ⟨od, w.rawAt h⟩, rfl, hb, h1.symm⟩, q v (w.add h2)⟩
/-- a return, a break from within -/
theorem Wf.retT {R : Hp → Prop} (w : Wf F H (.raw p (.frz od (.dT vs)) :: M)) (hk : KnP F vs kvs) (q : ∀ H', Wf F H' (.dt p kvs :: M) → R H') : H p = some (.frz od (.dT vs)) ∧ R (upd H p (.dT vs)) := ⟨(w.unlockT hk).1, q _ (w.unlockT hk).2⟩
end
/-! ### sorted(d, reverse=True) -/
def nD (n : Int × Int) : D := .tup [.int n.1, .int n.2]
theorem ndK_D (n : Int × Int) : (ndK n).map keyD = [.int n.1, .int n.2] := rfl
theorem k_sortRT {X : Cx} (hc : X.calm = true) : CallRK X (.builtin "sorted") [Str.ofString "reverse"] rSortRevT := cr_sortedRevT hc
theorem s_ckw {r : List V → List V → Hp → VK → Prop} {t tk : TA} {σ : L2.St} {H : Hp} {Q : VK} (h : t σ H fun vs H1 => tk σ H1 fun zs H2 => r vs zs H2 Q) : tCKw r t tk σ H Q := h
section
variable {K : PySem.W.Frag} {σ : L2.St} {H : Hp} {F : List (V × D)} {M M' : List ME} {Q : VK} {p : Addr} {kvs : List (List Key × D)} {ns : List (Int × Int)}
theorem Wf.nodesN {F : List (V × D)} {H : Hp} {M : List ME} (w : Wf F H M) : ∀ {bs : List Addr} {ms : List (Int × Int)}, bs.length = ms.length → (∀ (i : Nat) (b : Addr) (m : Int × Int), bs[i]? = some b → ms[i]? = some m → H b = some (.tup [.int m.1, .int m.2])) → ∃ FX, (∀ f ∈ F, f ∈ FX) ∧ Wf FX H M ∧ KnA FX (bs.map V.ref) (ms.map nD)
  | [], [], _, _ => ⟨F, fun _ h => h, w, .nil⟩
  | [], _ :: _, e, _ => by cases e
  | _ :: _, [], e, _ => by cases e
  | b :: bs, m :: ms, e, h => by
    obtain ⟨FX, h1, h2, h3⟩ := Wf.nodesN w (bs := bs) (ms := ms) (Nat.succ.inj e) fun i b' m' => h (i + 1) b' m'
    refine ⟨(.ref b, nD m) :: FX, fun f hf => List.mem_cons_of_mem _ (h1 f hf), h2.tupN (h 0 b m rfl rfl) fun I => .cons (.int _) (.cons (.int _) .nil), .cons (.mem List.mem_cons_self) ?_⟩
    have : ∀ {xs : List V} {ds : List D}, KnA FX xs ds → KnA ((.ref b, nD m) :: FX) xs ds := fun {xs ds} a => by
      induction a with
      | nil => exact .nil
      | cons h a ih => exact .cons h.more ih
    exact this h3
theorem n_sortRT (w : Wf F H M) (h : .dt p kvs ∈ M) (hk : kvs.map (·.1) = ns.map ndK) (q : ∀ (ms : List (Int × Int)) p H', ms.Perm ns → ms.Pairwise lexGe → Wf F H' (.ml p (ms.map nD) :: M) → Q (.ref p) H') : rSortRevT [.ref p] [.bl true] H Q := by
  obtain ⟨I, Mc, vs, w1, a, hF, hp, ha⟩ := w.dtAt h
  have e : vs.map (·.1) = kvs.map (·.1) := by
    clear hp hk h
    induction ha with
    | nil => rfl
    | cons _ _ ih => rw [List.map_cons, List.map_cons, ih]
  refine ⟨p, vs, ns, rfl, rfl, .inl hp, e.trans hk, fun ms bs l h1 h2 h3 h4 hl => q ms l _ h1 h2 ?_⟩
  obtain ⟨FX, f1, f2, f3⟩ := w.nodesN h3 h4
  obtain ⟨I2, Mc2, w2, a2, hF2⟩ := f2.ex
  exact ⟨I2, _, w2.newM hl, .cons (.ml (f3.is hF2)) a2, fun f hf => hF2 f (f1 f hf)⟩
end
/-! ### long lists; the last one is taken -/
section
variable {K : PySem.W.Frag} {σ : L2.St} {H : Hp} {F : List (V × D)} {M M' : List ME} {Q : VK} {x : V} {p : Addr} {ds : List D} {d : D}
theorem n_appB (w : Wf F H M) (f : Foc M (.ml p ds) M' (.ml p (ds ++ [d]))) (h : Kn F x d) (hz : ds.length ≤ 10000000) (q : ∀ H', Wf F H' M' → Q .non H') : rAppend (.ref p) [x] H Q := by
  obtain ⟨I, Mc, w, a, hF⟩ := w.ex
  obtain ⟨M1, m, M2, rfl, h3, h4⟩ := a.foc f
  cases h3 with
  | ml b =>
    exact ⟨p, _, x, rfl, rfl, w.at, by rw [b.length]; exact Nat.lt_of_le_of_lt hz (by decide), q _ ⟨I, _, w.put, h4 I _ (Same.refl _) (.ml (b.app (.one (h.is hF)))), hF⟩⟩
theorem n_popD (w : Wf F H M) (f : Foc M (.ml p ds) M' (.ml p ds.dropLast)) (hd : ds[ds.length - 1]? = some d) (q : ∀ y H', Wf ((y, d) :: F) H' M' → Q y H') : rPop (.ref p) [] H Q := by
  obtain ⟨I, Mc, w, a, hF⟩ := w.ex
  obtain ⟨M1, m, M2, rfl, h3, h4⟩ := a.foc f
  cases h3 with
  | @ml _ vs _ b =>
    have h0 : ds.length - 1 < ds.length := (List.getElem?_eq_some_iff.mp hd).1
    have h2 : vs.length - 1 < vs.length := by rw [b.length]; exact h0
    obtain ⟨d', e1, e2⟩ := b.of (List.getElem?_eq_getElem h2)
    rw [b.length, hd] at e1
    cases e1
    refine ⟨p, vs, _, rfl, rfl, w.at, List.getElem?_eq_getElem h2, q _ _ ⟨I, _, w.put, h4 I _ (Same.refl _) (.ml b.dropLast), fun f hf => ?_⟩⟩
    rcases List.mem_cons.mp hf with rfl | hf
    · exact e2
    · exact hF f hf
end
end Fs

namespace Fs
open PySem PySem.Spec PyProof.Rows L2
/-! ### try with several clauses `except X as e` -/
abbrev Clause := Value × Nat × (Addr → Value → Option Addr → TS)
/-- what the clauses wish of an exception, one behind the other -/
def wAsM (K : PySem.W.Frag) (Wout : WX) (D : Ends) : List Clause → WX
  | [] => Wout
  | (c, i, ts) :: r => wAs K c i ts (wAsM K Wout D r) D
inductive HdsAs (X : Cx) : List ExceptHandler → List Clause → Prop
  | nil : HdsAs X [] []
  | cons {x n : Str} {c : Value} {i : Nat} {ts : Addr → Value → Option Addr → TS} {b₀ : Stmt} {suite : List Stmt} {np pos' : Pos} {hds : List ExceptHandler} {l : List Clause} (hi : X.N[i]? = some n) (hln : X.env.kindOf n = some .local) (hc : Names X x c)
      (hsu : ∀ (a : Addr) (oe : Obj) (cls : Value) (d : Option Addr) (pn : List (Addr × Obj)), Zc cls d oe → (∃ vs, oe.data = .fields vs) → PSs (X.suite a ((a, oe) :: pn)) (b₀ :: suite) (ts a cls d)) (r : HdsAs X hds l) :
      HdsAs X (.ExceptHandler (some (.Name x np)) (some n) (b₀ :: suite) pos' :: hds) ((c, i, ts) :: l)
/-- an exception `a` is caught and has landed: the clauses are gone through -/
structure Cau (X : Cx) (pins : List (Addr × Obj)) (σ : L2.St) (H : Hp) (a : Addr) (cls : Value) (d : Option Addr) (s : Shared) : Prop where
  ex : ∃ (B : Heap) (sI : Shared), Inv X pins σ H sI ∧ (∀ b o, sI.heap.get? b = some o → b ∉ frs X.stack → B.get? b = some o) ∧ HandSPX.FlyingZ B (X.env :: X.outer) a (Zc cls d) s.heap ∧ sI.heap.UpToSlots s.heap ∧ s.os = sI.os ∧ AllBare s.gens
  na : H a = none
section
variable {X : Cx} {pins : List (Addr × Obj)} {σ : L2.St} {H : Hp} {a : Addr} {cls : Value} {d : Option Addr} {s : Shared}
theorem Cau.inv (c : Cau X pins σ H a cls d s) : Inv X pins σ H s := by
  obtain ⟨B, sI, I, nb, fl, up, os, ag⟩ := c.ex
  exact I.landed nb fl.1 up os ag
theorem Cau.again (c : Cau X pins σ H a cls d s) {M : Model} {A : Around} {E : Value → Shared → Prop} {Q : Unit → Shared → Prop} (q : ∀ s', Cau X pins σ H a cls d s' → Q () s') : wpAny M A (setFlight (.ref a) none) Q E s := by
  obtain ⟨B, sI, I, nb, fl, up, os, ag⟩ := c.ex
  exact HandSPX.lands_againZ fl fun h' fl' up' => q _ ⟨⟨B, sI, I, nb, fl', up.trans up', os, ag⟩, c.na⟩
/-- the thing that is caught; the clause's own state -/
theorem Cau.suite (c : Cau X pins σ H a cls d s) (hs : X.stack = X.env :: X.outer) (hf : X.env.frame = some X.env.locals) : ∃ oe, s.heap.get? a = some oe ∧ Zc cls d oe ∧ (∃ vs, oe.data = .fields vs) ∧ Inv (X.suite a ((a, oe) :: (X.pn ++ pins))) [] σ H s := by
  have J := c.inv
  obtain ⟨B, sI, I, nb, fl, up, os, ag⟩ := c.ex
  obtain ⟨oe, vs, he, hz, hd⟩ := fl.there
  have out : a ∉ frs (X.env :: X.outer) := fun hm => by
    obtain ⟨_, o', e', hn⟩ := fl.2.2.1.mem hm
    cases he.symm.trans e'
    exact hn _ hd
  exact ⟨oe, he, hz, ⟨vs, hd⟩, J.suite he hd c.na
    (fun z => out (List.mem_filterMap.mpr ⟨X.env, List.mem_cons_self, by rw [hf, z]⟩))
    (fun hm => by
      obtain ⟨e, h1, h2⟩ := List.mem_filterMap.mp hm
      exact out (List.mem_filterMap.mpr ⟨e, List.mem_cons_of_mem _ h1, h2⟩))⟩
/-- no clause is left -/
theorem Cau.out (c : Cau X pins σ H a cls d s) (hs : X.stack = X.env :: X.outer) (hf : X.env.frame = some X.env.locals) {W : WX} (tk : Takes X W) (w : W cls d σ H) {Q : Flow → Shared → Prop} : wpAny (model X.prog X.w) X.A (handleBy (.ref a) X.env []) Q X.xe s := by
  have J := c.inv
  obtain ⟨B, sI, I, nb, fl, up, os, ag⟩ := c.ex
  refine wpAny_handleBy_nil ?_
  obtain ⟨_, _, _, oe, vs, T, oT, ts', he, hz, hd, h1, hr⟩ := id fl
  have fin : wpAny (model X.prog X.w) X.A (setFlight (.ref a) X.env.frame) (fun _ s4 => wpAny (model X.prog X.w) X.A (throw (.ref a) : Sem Flow) Q X.xe s4) X.xe s := by
    rw [hf]
    exact HandSPX.setFlight_upZ fl fun h4 hh4 up4 => wpAny_throw (tk _ _ ⟨a, B, sI, pins, σ, H, cls, d, rfl, I, nb, up.trans up4, .inr (.inr (by rw [hs]; exact hh4)), c.na, os, ag, w⟩)
  unfold PySem.passOn
  refine wpAny_bind (wpAny_field he hd h1 ?_)
  rw [if_neg (by simp)]
  first
    | exact wpAny_bind (wpAny_pure (wpAny_bind fin))
    | exact wpAny_bind fin
end
section
variable {X : Cx} {body : List Stmt} {h₀ : ExceptHandler} {hds : List ExceptHandler} {l : List Clause} {pos : Pos} {tb : WX → TS} {Wout : WX}
/-- the clauses, gone through -/
theorem Cau.go {pins : List (Addr × Obj)} {σ : L2.St} {H : Hp} {a : Addr} {cls : Value} {d : Option Addr} {D : Ends} (ok : X.Ok) (hs : X.stack = X.env :: X.outer) (hf : X.env.frame = some X.env.locals) (hN : X.N.Nodup) (tk : Takes X Wout) {hds : List ExceptHandler} {l : List Clause} (hk : HdsAs X hds l) :
    ∀ {s : Shared}, Cau X pins σ H a cls d s → wAsM X.K Wout D l cls d σ H → wpAny (model X.prog X.w) X.A (handleBy (.ref a) X.env hds) (SP X pins D) X.xe s := by
  induction hk with
  | nil => exact fun c w => c.out hs hf tk w
  | @cons x n k i ts b₀ suite np pos' hds2 l2 hi hln hc hsu r ih =>
    intro s c w
    obtain ⟨b, hb1, hyes, hno⟩ := w
    obtain ⟨oe, he, hz, _, S⟩ := c.suite hs hf
    refine wpAny_handleBy_cons (codeAny_handlers_test ?_) (by intro q; cases q)
    have LM := PySem.W.exm_one (M := model X.prog X.w) (c.inv.kIn) (fun A Q E s k q => wpAny_typeOf_ref (k _ _ he) (by rw [hz.1]; exact q)) hb1
    have test : ∀ {Q : Value → Shared → Prop} {E : Value → Shared → Prop}, Q k s → wpAny (model X.prog X.w) (X.A.mark (some (.ref a))) (eval (.Name x np) X.env) Q E s := fun {Q E} q => by
      obtain ⟨hg, hdbg, hm | ⟨hm, hv, hnn⟩⟩ := hc
      · exact ld_glob (X := X.suite a ((a, oe) :: (X.pn ++ pins))) S hg hm q hdbg
      · exact ld_blt (X := X.suite a ((a, oe) :: (X.pn ++ pins))) S hg hm hv q hnn hdbg
    refine test (LM.here ?_)
    cases b with
    | false => exact ih c (hno rfl)
    | true =>
      refine codeAny_handlers_suite_as (c.again fun s4 c4 => ?_)
      obtain ⟨oe4, he4, hz4, hd4, S4⟩ := c4.suite hs hf
      refine store_ok (X := X.suite a ((a, oe4) :: (X.pn ++ pins))) (v := .ref a) S4 hN hi (.inl hln) rfl (fun s5 S5 => ?_) (.inr hln)
      refine wpAny_mono ((hsu a oe4 cls d (X.pn ++ pins) hz4 hd4).run [] s5 _ H _ S5 (hyes rfl a c.na)) (fun f s6 hsp => ?_) (fun _ _ z => False.elim z)
      have gone : ∀ {σ6 : L2.St} {H6 : Hp} {Q : Shared → Prop}, Inv (X.suite a ((a, oe4) :: (X.pn ++ pins))) [] σ6 H6 s6 → (∀ s7, Inv X pins (σ6.set i none) H6 s7 → Q s7) →
          wpAny (model X.prog X.w) X.A (do bindName X.env n .none; unbindBehindTheSuite X.env n pos') (fun _ s7 => Q s7) X.xe s6 := fun S6 hq => gone_ok (S6.unsuite ok) hN hi hln hq
      cases f with
      | ret u =>
        obtain ⟨v6, σ6, H6, S6, r6, q6⟩ := hsp
        exact gone S6 fun s7 J7 => ⟨_, _, _, J7, r6, q6⟩
      | _ =>
        obtain ⟨σ6, H6, S6, q6⟩ := hsp
        exact gone S6 fun s7 J7 => ⟨_, _, J7, q6⟩
theorem ps_try_asM (hs : X.stack = X.env :: X.outer) (hf : X.env.frame = some X.env.locals) (hN : X.N.Nodup) (tk : Takes X Wout)
    (hb : ∀ (W : WX) (pn : List (Addr × Obj)) (xe : Value → Shared → Prop), Takes (X.tr pn xe) W → PassesOwn (model X.prog X.w) X.A X.env xe → PSs (X.tr pn xe) body (tb W))
    (hh : HdsAs X (h₀ :: hds) l) : PS X (.Try body (h₀ :: hds) [] [] pos) (fun D σ H => tb (wAsM X.K Wout D l) D σ H) := by
  refine ⟨fun pins s σ H D I h => ?_⟩
  have ok := I.ok
  have B := hb (wAsM X.K Wout D l) (X.pn ++ pins) (fun e s₁ => wpAny (model X.prog X.w) X.A (noteFrame e X.env) (fun _ s₂ => wpAny (model X.prog X.w) X.A (setFlight e none) (fun _ s₃ =>
    wpAny (model X.prog X.w) X.A (handleBy e X.env (h₀ :: hds)) (SP X pins D) X.xe s₃) X.xe s₂) X.xe s₁) (fun u s' xx => by
      obtain ⟨a, B, sI, pins', σ', H', cls, d, rfl, J', nb, up, sky, na, os, ag, w⟩ := xx
      refine Sky.land Zc.steady (by rw [ok.frames, hs]) hf (by rw [← hs]; exact sky) fun h3 fl3 up3 => ?_
      exact Cau.go ok hs hf hN tk hh ⟨⟨B, sI, J'.ofTry ok, nb, fl3, up.trans up3, os, ag⟩, na⟩ w) PassesOwn.looking
  refine wpAny_Try_except (wpAny_mono (B.run [] s σ H D (I.toTry _) h) (fun f s1 q => ?_) fun _ _ z => z)
  cases f with
  | next => obtain ⟨σ', H', J', q⟩ := q; exact wpAny_execs_nil ⟨σ', H', J'.ofTry ok, q⟩
  | ret u => obtain ⟨v, σ', H', J', r, q⟩ := q; exact ⟨v, σ', H', J'.ofTry ok, r, q⟩
  | _ => obtain ⟨σ', H', J', q⟩ := q; exact ⟨σ', H', J'.ofTry ok, q⟩
end
/-- a clause that does not fit -/
theorem s_missed {K : PySem.W.Frag} {cls c : Value} {i : Nat} {ts : Addr → Value → Option Addr → TS} {D : Ends} {d : Option Addr} {σ : L2.St} {H : Hp} {W : WX} (e : PySem.W.exmOne K cls c = some false) (h : W cls d σ H) : wAs K c i ts W D cls d σ H := ⟨false, e, fun q => (nomatch q), fun _ => h⟩
theorem s_hit {K : PySem.W.Frag} {cls c : Value} {i : Nat} {ts : Addr → Value → Option Addr → TS} {D : Ends} {d : Option Addr} {σ : L2.St} {H : Hp} {W : WX} (e : PySem.W.exmOne K cls c = some true)
    (h : ∀ a, H a = none → ts a cls d { nx := fun σ' H' => D.nx (σ'.set i none) H', rt := D.rt, bk := fun σ' H' => D.bk (σ'.set i none) H', ct := fun σ' H' => D.ct (σ'.set i none) H' } (σ.set i (some (.ref a))) H) : wAs K c i ts W D cls d σ H := ⟨true, e, fun _ a ha => h a ha, fun q => (nomatch q)⟩
theorem s_par3 {i j l : Nat} {tA : TA} {G : Ends} {σ : L2.St} {H : Hp} (h : tA σ H fun vs H1 => ∃ u v w, vs = [u, v, w] ∧ G.nx (((σ.set i (some u)).set j (some v)).set l (some w)) H1) : tPar3 i j l tA G σ H := h
theorem s_par3' {P : V → V → V → Prop} {x y z : V} (h : P x y z) : ∃ u v w, [x, y, z] = [u, v, w] ∧ P u v w := ⟨x, y, z, rfl, h⟩
/-- a call by either of two contracts -/
theorem pe_two {X : Cx} {e : Expr} {t1 t2 : TE} (h1 : PE X e t1) (h2 : PE X e t2) : PE X e (fun σ H Q => t1 σ H Q ∨ t2 σ H Q) := ⟨fun pins s σ H Q I h => h.elim (h1.run pins s σ H Q I) (h2.run pins s σ H Q I)⟩
theorem ps_two {X : Cx} {s : Stmt} {t1 t2 : TS} (h1 : PS X s t1) (h2 : PS X s t2) : PS X s (fun D σ H => t1 D σ H ∨ t2 D σ H) := ⟨fun pins s σ H D I h => h.elim (h1.run pins s σ H D I) (h2.run pins s σ H D I)⟩
end Fs

namespace Fs
open PySem PySem.Spec PyProof.Rows L2
/-! ### cells that are shown to a callee, as things that are read alone -/
theorem topO_ok {P : Program} {w : World} {H : Hp} {h : Heap} {a : Addr} {o : Obj} (e : h.get? a = some o) : ObjOk P w H h a topO := ⟨trivial, ⟨o, e⟩, fun _ _ _ _ => trivial⟩
def addC : List (Addr × Obj) → Hp → Hp
  | [], H => H
  | c :: cs, H => upd (addC cs H) c.1 (.frz c.2 topO)
def cutC (cs : List (Addr × Obj)) (H : Hp) : Hp := fun b => if b ∈ cs.map (·.1) then none else H b
section
variable {P : Program} {w : World} {H H' : Hp} {h h' : Heap} {cs : List (Addr × Obj)} {b : Addr} {o : HO}
theorem addC_ne (n : b ∉ cs.map (·.1)) : addC cs H b = H b := by
  induction cs with
  | nil => rfl
  | cons c cs ih =>
    rw [List.map_cons, List.mem_cons, not_or] at n
    show upd (addC cs H) c.1 _ b = _
    rw [upd_ne n.1, ih n.2]
theorem addC_at (nd : (cs.map (·.1)).Nodup) {c : Addr × Obj} (hc : c ∈ cs) : addC cs H c.1 = some (.frz c.2 topO) := by
  induction cs with
  | nil => cases hc
  | cons d cs ih =>
    rw [List.map_cons, List.nodup_cons] at nd
    show upd (addC cs H) d.1 _ c.1 = _
    rcases List.mem_cons.mp hc with rfl | hc
    · exact upd_same
    · rw [upd_ne (fun e => nd.1 (by rw [← e]; exact List.mem_map_of_mem hc)), ih nd.2 hc]
theorem addC_or (nd : (cs.map (·.1)).Nodup) (b : Addr) : (∃ c ∈ cs, b = c.1 ∧ addC cs H b = some (.frz c.2 topO)) ∨ (b ∉ cs.map (·.1) ∧ addC cs H b = H b) := by
  by_cases hb : b ∈ cs.map (·.1)
  · obtain ⟨c, hc, e⟩ := List.mem_map.mp hb
    exact .inl ⟨c, hc, e.symm, by rw [← e]; exact addC_at nd hc⟩
  · exact .inr ⟨hb, addC_ne hb⟩
theorem cutC_nil {H : Hp} : cutC [] H = H := funext fun b => if_neg (by simp)
theorem cutC_in (hb : b ∈ cs.map (·.1)) : cutC cs H b = none := if_pos hb
theorem cutC_ne (hb : b ∉ cs.map (·.1)) : cutC cs H b = H b := if_neg hb
/-- a description that leans on fewer or more of the things that are not read -/
theorem objOk_of {a : Addr} (x : ObjOk P w H h a o) (ho : ∀ b, H b = some (.own a) → H' b = some (.own a)) (ht : ∀ b xs, H b = some (.tup xs) → H' b = some (.tup xs)) : ObjOk P w H' h a o :=
  x.stay (fun _ _ _ e => e) ho ht
theorem hok_add (nd : (cs.map (·.1)).Nodup) (x : HOk P w H h) (hc : ∀ c ∈ cs, H c.1 = none ∧ h.get? c.1 = some c.2) : HOk P w (addC cs H) h := fun b o e => by
  have out : ∀ b' o', H b' = some o' → addC cs H b' = some o' := fun b' o' e' => by
    rcases addC_or (H := H) nd b' with ⟨c, h1, h2, _⟩ | ⟨_, h2⟩
    · rw [h2, (hc c h1).1] at e'
      cases e'
    · rw [h2]
      exact e'
  rcases addC_or (H := H) nd b with ⟨c, h1, h2, h3⟩ | ⟨_, h2⟩
  · rw [h3] at e
    cases e
    rw [h2]
    exact ⟨(hc c h1).2, topO_ok (hc c h1).2⟩
  · rw [h2] at e
    exact objOk_of (x b o e) (fun _ q => out _ _ q) fun _ _ q => out _ _ q
theorem hok_cut (x : HOk P w H h) (hc : ∀ c ∈ cs, ∃ u, H c.1 = some (.frz c.2 u)) : HOk P w (cutC cs H) h := fun b o e => by
  have hb : b ∉ cs.map (·.1) := fun z => by
    rw [cutC_in z] at e
    cases e
  rw [cutC_ne hb] at e
  have out : ∀ b' o', H b' = some o' → (∀ ob u, o' ≠ .frz ob u) → cutC cs H b' = some o' := fun b' o' e' n => by
    by_cases z : b' ∈ cs.map (·.1)
    · obtain ⟨c, h1, h2⟩ := List.mem_map.mp z
      obtain ⟨u, h3⟩ := hc c h1
      rw [← h2, h3] at e'
      exact (n _ _ (Option.some.inj e').symm).elim
    · rw [cutC_ne z]
      exact e'
  exact objOk_of (x b o e) (fun _ q => out _ _ q fun _ _ z => nomatch z) fun _ _ q => out _ _ q fun _ _ z => nomatch z
end
section
variable {P : Program} {w : World} {K : PySem.W.Frag} {mg : Str → Option Value} {base : Heap} {A : Around} {outer : List Env} {s s' : Shared} {H : Hp} {cs : List (Addr × Obj)} {Q : VK} {u : Value}
/-- things that nobody follows: new since the base, no frames -/
structure Hid (base : Heap) (outer : List Env) (s : Shared) (cs : List (Addr × Obj)) : Prop where
  nd : (cs.map (·.1)).Nodup
  at_ : ∀ c ∈ cs, s.heap.get? c.1 = some c.2
  nb : ∀ c ∈ cs, base.get? c.1 = none
  nf : ∀ c ∈ cs, c.1 ∉ frs outer
theorem env0_add (e : Env0 P w K mg base A outer s H) (d : Hid base outer s cs) (n : ∀ c ∈ cs, H c.1 = none) : Env0 P w K mg base A outer s (addC cs H) where
  frames := e.frames
  mod := e.mod
  bs := fun b o q => ⟨(e.bs b o q).1, by
    rcases addC_or (H := H) d.nd b with ⟨c, h1, h2, _⟩ | ⟨_, h2⟩
    · rw [h2, d.nb c h1] at q
      cases q
    · rw [h2]
      exact (e.bs b o q).2⟩
  bsz := e.bsz
  funs := e.funs
  frf := fun b hb => by
    rcases addC_or (H := H) d.nd b with ⟨c, h1, h2, _⟩ | ⟨_, h2⟩
    · exact absurd (h2 ▸ hb) (d.nf c h1)
    · rw [h2]
      exact e.frf b hb
  hok := hok_add d.nd e.hok fun c hc => ⟨n c hc, d.at_ c hc⟩
  bare := e.bare
theorem ce_cut (d : Hid base outer s cs) (n : ∀ c ∈ cs, H c.1 = none) (x : CE outer P w (addC cs H) s (fun v H2 => Q v (cutC cs H2)) u s') : CE outer P w H s Q u s' := by
  obtain ⟨v, H', os, bare, un, hok, r, q⟩ := x
  have ca : ∀ c ∈ cs, H' c.1 = some (.frz c.2 topO) := fun c hc => un.frzs _ _ _ (addC_at d.nd hc)
  have go : ∀ {b : Addr}, H b = none → (∃ c ∈ cs, b = c.1) ∨ (b ∉ cs.map (·.1) ∧ addC cs H b = none) := fun {b} e => by
    rcases addC_or (H := H) d.nd b with ⟨c, h1, h2, _⟩ | ⟨h1, h2⟩
    · exact .inl ⟨c, h1, h2⟩
    · exact .inr ⟨h1, by rw [h2]; exact e⟩
  have out : ∀ {b : Addr} {o : HO}, H b = some o → b ∉ cs.map (·.1) := fun {b o} e z => by
    obtain ⟨c, h1, h2⟩ := List.mem_map.mp z
    rw [← h2, n c h1] at e
    cases e
  refine ⟨v, cutC cs H', os, bare, ⟨fun b o e hb nf nx => ?_, fun b o e hb hf nx => ?_, fun b o e hb nx => ?_, un.there, fun b xs e => ?_, fun b o x e => ?_, fun b ps e => ?_⟩, hok_cut hok fun c hc => ⟨_, ca c hc⟩, r, q⟩
  · rcases go hb with ⟨c, h1, h2⟩ | ⟨_, h2⟩
    · have := (hok _ _ (ca c h1)).1
      rw [h2] at e ⊢
      rw [d.at_ c h1] at e
      cases e
      exact this
    · exact un.keep b o e h2 nf nx
  · rcases go hb with ⟨c, h1, h2⟩ | ⟨_, h2⟩
    · exact absurd (h2 ▸ hf) (d.nf c h1)
    · exact un.slot b o e h2 hf nx
  · rcases go hb with ⟨c, h1, h2⟩ | ⟨h1, h2⟩
    · exact cutC_in (List.mem_map.mpr ⟨c, h1, h2.symm⟩)
    · rw [cutC_ne h1]
      exact un.free b o e h2 nx
  · rw [cutC_ne (out e)]
    exact un.tups b xs (by rw [addC_ne (out e)]; exact e)
  · rw [cutC_ne (out e)]
    exact un.frzs b o x (by rw [addC_ne (out e)]; exact e)
  · rw [cutC_ne (out e)]
    exact un.tbls b ps (by rw [addC_ne (out e)]; exact e)
theorem env0_cut (e : Env0 P w K mg base A outer s H) (c : ∀ c ∈ cs, H c.1 = some (.frz c.2 topO)) : Env0 P w K mg base A outer s (cutC cs H) where
  frames := e.frames
  mod := e.mod
  bs := fun b o q => ⟨(e.bs b o q).1, by
    by_cases z : b ∈ cs.map (·.1)
    · exact cutC_in z
    · rw [cutC_ne z]
      exact (e.bs b o q).2⟩
  bsz := e.bsz
  funs := e.funs
  frf := fun b hb => by
    by_cases z : b ∈ cs.map (·.1)
    · exact cutC_in z
    · rw [cutC_ne z]
      exact e.frf b hb
  hok := hok_cut e.hok fun d hd => ⟨_, c d hd⟩
  bare := e.bare
theorem ce_add (nd : (cs.map (·.1)).Nodup) (e : Env0 P w K mg base A outer s H) (c : ∀ c ∈ cs, H c.1 = some (.frz c.2 topO)) (x : CE outer P w (cutC cs H) s (fun v H2 => (∀ d ∈ cs, H2 d.1 = none) → Q v (addC cs H2)) u s') : CE outer P w H s Q u s' := by
  obtain ⟨v, H', os, bare, un, hok, r, q⟩ := x
  have at0 : ∀ d ∈ cs, s.heap.get? d.1 = some d.2 := fun d hd => (e.hok _ _ (c d hd)).1
  have nf : ∀ d ∈ cs, d.1 ∉ frs outer := fun d hd z => by
    have := e.frf _ z
    rw [c d hd] at this
    cases this
  have cn : ∀ d ∈ cs, cutC cs H d.1 = none := fun d hd => cutC_in (List.mem_map_of_mem hd)
  have at1 : ∀ d ∈ cs, H' d.1 = none ∧ s'.heap.get? d.1 = some d.2 := fun d hd => ⟨un.free _ _ (at0 d hd) (cn d hd) (by simp), un.keep _ _ (at0 d hd) (cn d hd) (nf d hd) (by simp)⟩
  have out : ∀ {b : Addr}, (∀ d ∈ cs, b ≠ d.1) → b ∉ cs.map (·.1) := fun {b} h z => by
    obtain ⟨d, h1, h2⟩ := List.mem_map.mp z
    exact h d h1 h2.symm
  have n0 : ∀ {b : Addr}, H b = none → b ∉ cs.map (·.1) := fun {b} hb => out fun d hd z => by
    rw [z, c d hd] at hb
    cases hb
  have n1 : ∀ {b : Addr} {o : HO}, H b = some o → (∀ ob u, o ≠ .frz ob u) → b ∉ cs.map (·.1) := fun {b o} hb n => out fun d hd z => by
    rw [z, c d hd] at hb
    exact n _ _ (Option.some.inj hb).symm
  refine ⟨v, addC cs H', os, bare, ⟨fun b o e hb => ?_, fun b o e hb => ?_, fun b o e hb nx => ?_, un.there, fun b xs e => ?_, fun b o x e => ?_, fun b ps e => ?_⟩, hok_add nd hok at1, r, q fun d hd => (at1 d hd).1⟩
  · exact un.keep b o e (by rw [cutC_ne (n0 hb)]; exact hb)
  · exact un.slot b o e (by rw [cutC_ne (n0 hb)]; exact hb)
  · rw [addC_ne (n0 hb)]
    exact un.free b o e (by rw [cutC_ne (n0 hb)]; exact hb) nx
  · have z := n1 e fun _ _ z => nomatch z
    rw [addC_ne z]
    exact un.tups b xs (by rw [cutC_ne z]; exact e)
  · by_cases z : b ∈ cs.map (·.1)
    · obtain ⟨d, h1, h2⟩ := List.mem_map.mp z
      rw [← h2, c d h1] at e
      cases e
      rw [← h2]
      exact addC_at nd h1
    · rw [addC_ne z]
      exact un.frzs b o x (by rw [cutC_ne z]; exact e)
  · have z := n1 e fun _ _ z => nomatch z
    rw [addC_ne z]
    exact un.tbls b ps (by rw [cutC_ne z]; exact e)
end
/-! ### a value that may be called -/
/-- v is a function; its promise sp, wherever what I knows stands -/
def FnV (P : Program) (w : World) (K : PySem.W.Frag) (mg : Str → Option Value) (base : Heap) (k : Nat) (sp : Sp) : V → Hp → Prop := fun v I => ∃ f : Addr, v = .ref f ∧ (∀ H h, HOk P w H h → Same I H → PySem.W.FnAt f h) ∧
  ∀ (A : Around) (outer : List Env) (s : Shared) (H : Hp) (us : List Value) (vs : List V) (Q : VK), Room k A → Env0 P w K mg base A outer s H → Vals vs us → Same I H → sp vs H Q E0 → codeAny (model P w) A (.call (.ref f) ⟨us, []⟩) (CR CX0 outer P w H s Q E0) s
theorem FnV.imp {P : Program} {w : World} {K : PySem.W.Frag} {mg : Str → Option Value} {base : Heap} {j k : Nat} {sp sp' : Sp} {v : V} {I : Hp} (x : FnV P w K mg base j sp v I) (hk : j ≤ k) (h : ∀ vs H Q, sp' vs H Q E0 → sp vs H Q E0) : FnV P w K mg base k sp' v I := by
  obtain ⟨f, e, a, r⟩ := x
  exact ⟨f, e, a, fun A outer s H us vs Q hr e0 rv sm q => r A outer s H us vs Q (hr.mono hk) e0 rv sm (h _ _ _ q)⟩
def CallV (P : Program) (w : World) (K : PySem.W.Frag) (mg : Str → Option Value) (base : Heap) (k : Nat) (v : V) (vs : List V) (H : Hp) (Q : VK) : Prop := ∃ (sp : Sp) (I : Hp), FnV P w K mg base k sp v I ∧ Same I H ∧ sp vs H Q E0
def IsFnV (P : Program) (w : World) (K : PySem.W.Frag) (mg : Str → Option Value) (base : Heap) (k : Nat) (v : V) (H : Hp) : Prop := ∃ (sp : Sp) (I : Hp), FnV P w K mg base k sp v I ∧ Same I H
def tCallV (P : Program) (w : World) (K : PySem.W.Frag) (mg : Str → Option Value) (base : Heap) (k i : Nat) (t : TA) : TE := fun σ H Q => ∃ v, σ[i]? = some (some v) ∧ IsFnV P w K mg base k v H ∧ t σ H fun vs H1 => CallV P w K mg base k v vs H1 Q
section
variable {X : Cx} {a : Str} {i k : Nat} {p1 p2 : Pos} {e : Expr} {es : List Expr} {t : TA}
theorem pe_callV (hN : X.N[i]? = some a) (hv : Vis X.env.scope a) (hr : Room k X.A) (ha : PA X (e :: es) t) (hd : (a == ("__debug__" : Str)) = false := by decide) (hcd : (a == ("__classdict__" : Str)) = false := by decide)
    (he : starEach (e :: es) X.env = (false, eval e X.env) :: starEach es X.env := by rfl) (hpl : (backTo p2 (starEach es X.env)).any (·.1) = false := by rfl) :
    PE X (.Call (.Name a p1) (e :: es) [] p2) (tCallV X.prog X.w X.K X.mg X.base k i t) := by
  refine ⟨fun pins s σ H Q J h => ?_⟩
  obtain ⟨v, hs, ⟨sp0, I0, ⟨f, ev, fa, _⟩, sm0⟩, h⟩ := h
  subst ev
  refine wpAny_Call_Name_kw (thn ((pe_var (pos := p1) (i := i) hN hv hd hcd).run pins s σ H (fun v H1 => v = .ref f ∧ H1 = H) J ⟨.ref f, hs, rfl, rfl⟩) fun u s1 ⟨v, H1, J1, r1, q1⟩ => ?_)
  obtain ⟨ev, eH⟩ := q1
  subst ev
  rw [eH] at J1
  obtain rfl : u = Value.ref f := r1
  refine PySem.W.callWith_F (fa _ _ J1.hok sm0) (thn (ha.run p2 pins s1 σ H _ J1 h) fun us s2 ⟨vs, H2, J2, rv, sp, I, ⟨f2, ef, fa2, run⟩, sm, q⟩ => ?_) he hpl
  cases ef
  refine ⟨fa2 _ _ J2.hok sm, wpAny_call (codeAny_mono (run X.A X.stack s2 H2 us vs Q hr J2.env0 rv sm q) fun r s' z => ?_)⟩
  cases r with
  | error er => exact False.elim z
  | ok fl =>
    cases fl with
    | ret u => exact J2.after z
    | next => exact False.elim z
    | brk => exact False.elim z
    | cont => exact False.elim z
end
/-! ### calls out of a frame whose cells others captured -/
/-- the address of the cell of the j-th name -/
def cAt (X : Cx) (j : Nat) : Addr := (X.env.cells.lookup ((X.N[j]?).getD (Str.ofString ""))).getD 0
/-- the cells of the slots js as objects -/
def CellsFor (X : Cx) (σ : L2.St) (js : List Nat) (cs : List (Addr × Obj)) : Prop := Paired (fun (j : Nat) (c : Addr × Obj) => c.1 = cAt X j ∧ ∃ v, σ[j]? = some (some v) ∧ CelO c.2 v) js cs
theorem CellsFor.adr {X : Cx} {σ : L2.St} : ∀ {js : List Nat} {cs : List (Addr × Obj)}, CellsFor X σ js cs → cs.map (·.1) = js.map (cAt X)
  | _, _, .nil => rfl
  | _, _, .cons h t => by rw [List.map_cons, List.map_cons, h.1, CellsFor.adr t]
def celM (X : Cx) (js : List Nat) (vs : List V) : List ME := (js.zip vs).map fun p => .cel (cAt X p.1) p.2
section
variable {X : Cx} {pins : List (Addr × Obj)} {σ : L2.St} {H : Hp} {s : Shared} {cs : List (Addr × Obj)} {js : List Nat}
/-- slots that are cells of this def, told apart -/
structure Celled (X : Cx) (js : List Nat) : Prop where
  nd : js.Nodup
  nN : X.N.Nodup
  k : ∀ j ∈ js, ∃ y, X.N[j]? = some y ∧ X.env.scope.names.lookup y = some .cell
  fn : ∀ y, X.fn y = true
theorem cells_are (J : Inv X pins σ H s) (c : Celled X js) (h : ∀ j ∈ js, ∃ v, σ[j]? = some (some v)) : ∃ cs, CellsFor X σ js cs ∧ Hid X.base X.stack s cs ∧ ∀ d ∈ cs, H d.1 = none := by
  have one : ∀ j ∈ js, ∃ o y, X.N[j]? = some y ∧ X.env.cells.lookup y = some (cAt X j) ∧ s.heap.get? (cAt X j) = some o ∧ ∃ v, σ[j]? = some (some v) ∧ CelO o v := fun j hj => by
    obtain ⟨y, h1, h2⟩ := c.k j hj
    obtain ⟨v, hv⟩ := h j hj
    obtain ⟨m, _, hl⟩ := J.loc
    obtain ⟨u, ru, hk⟩ := hl j y v h1 hv (.inr (.inl h2))
    rcases hk with ⟨hk, _⟩ | ⟨_, a, ha, o, ho, hd⟩
    · have hk : X.env.scope.names.lookup y = some .local := hk
      rw [h2] at hk
      cases hk
    · have e : cAt X j = a := by
        unfold cAt
        rw [h1]
        show (X.env.cells.lookup y).getD 0 = a
        rw [ha]
        rfl
      rw [e]
      exact ⟨o, y, h1, ha, ho, v, hv, u, hd, ru⟩
  have ex : ∃ cs, CellsFor X σ js cs ∧ ∀ d ∈ cs, s.heap.get? d.1 = some d.2 ∧ ∃ y, X.env.cells.lookup y = some d.1 := by
    clear c h
    revert one
    induction js with
    | nil => exact fun _ => ⟨[], .nil, fun _ h => nomatch h⟩
    | cons j js ih =>
      intro one
      obtain ⟨o, y, _, h1, h2, h3⟩ := one j List.mem_cons_self
      obtain ⟨cs, i1, i2⟩ := ih fun j hj => one j (List.mem_cons_of_mem _ hj)
      refine ⟨(cAt X j, o) :: cs, .cons ⟨rfl, h3⟩ i1, fun d hd => ?_⟩
      rcases List.mem_cons.mp hd with rfl | hd
      · exact ⟨h2, y, h1⟩
      · exact i2 d hd
  obtain ⟨cs, c1, c2⟩ := ex
  have low : ∀ d ∈ cs, X.s_0.heap.objs.size ≤ d.1 := fun d hd => by
    obtain ⟨y, hy⟩ := (c2 d hd).2
    exact J.ok.cab y d.1 (c.fn y) hy
  refine ⟨cs, c1, ⟨?_, fun d hd => (c2 d hd).1, fun d hd => ?_, fun d hd z => ?_⟩, fun d hd => ?_⟩
  · rw [c1.adr]
    refine List.pairwise_map.mpr (c.nd.imp_of_mem fun {a b} ha hb ne e => ne ?_)
    obtain ⟨_, y, n1, l1, _⟩ := one a ha
    obtain ⟨_, z, n2, l2, _⟩ := one b hb
    have e2 : y = z := J.ok.inj y z _ l1 (by rw [e]; exact l2)
    rw [← e2] at n2
    exact nodup_ix c.nN n1 n2
  · exact Heap.get?_none_of_le (Nat.le_trans J.ok.bsz (low d hd))
  · rcases List.mem_cons.mp (J.stkSub _ z) with e | e
    · obtain ⟨y, hy⟩ := (c2 d hd).2
      exact J.cne y _ hy e
    · obtain ⟨_, o, ho, _⟩ := J.ok.funs.mem e
      exact absurd (Nat.lt_of_lt_of_le (Heap.lt_size ho) (low d hd)) (Nat.lt_irrefl _)
  · obtain ⟨y, hy⟩ := (c2 d hd).2
    exact J.freeC y _ hy
/-- what a callee's promise is asked, the cells shown -/
def ShowQ (X : Cx) (js : List Nat) (sp : Sp) (vs : List V) (σ : L2.St) (H : Hp) (Q : VK) : Prop := (∀ j ∈ js, ∃ v, σ[j]? = some (some v)) ∧ ∀ cs, CellsFor X σ js cs → (cs.map (·.1)).Nodup → (∀ d ∈ cs, H d.1 = none) → sp vs (addC cs H) (fun v H2 => Q v (cutC cs H2)) E0
section
variable {k : Nat} {f C : Addr} {fd : FuncData} {ps : List Str} {sp : Sp} {dvs vs : List V} {ds us : List Value} {Q : VK}
theorem run_fnC (F : FnOk X.prog X.w X.K X.mg X.base CX0 k f fd ps sp) (hr : Room k X.A) (hb : Binds X.K fd ps ds) (hd : Vals dvs ds) (c : Celled X js) (J : Inv X pins σ H s) (r : Vals vs us) (h : ShowQ X js sp (vs ++ dvs) σ H Q) :
    wpAny (model X.prog X.w) X.A (call (.ref f) us) (EP X pins σ Q) X.xe s := by
  obtain ⟨cs, c1, c2, c3⟩ := cells_are J c h.1
  have q := h.2 cs c1 c2.nd c3
  have r2 : Vals (vs ++ dvs) (us ++ ds) := r.append hd
  have hl : (us ++ ds).length = ps.length := by rw [← r2.length]; exact F.len _ _ _ _ q
  refine wpAny_call (codeAny_mono (F.run X.A X.stack s (addC cs H) ⟨us, []⟩ (us ++ ds) (vs ++ dvs) _ E0 hr (env0_add J.env0 c2 c3) (hb s us J.kIn hl) r2 q) fun z s' hz => ?_)
  match z, hz with
  | .ok (.ret u), hz => exact J.after (ce_cut c2 c3 hz)
  | .ok .next, hz => exact False.elim hz
  | .ok .brk, hz => exact False.elim hz
  | .ok .cont, hz => exact False.elim hz
  | .error er, hz => exact False.elim hz
end
end
section
variable {F : List (V × D)} {H : Hp} {M M' : List ME} {X : Cx} {σ : L2.St} {js : List Nat} {vs us : List V} {cs : List (Addr × Obj)} {Q : VK} {sp : Sp}
theorem CellsFor.cn {I : Hp} : ∀ {js : List Nat} {cs : List (Addr × Obj)} {us : List V}, CellsFor X σ js cs → js.map (fun j => σ[j]?) = us.map (fun u => some (some u)) → CnA I (celM X js us) (cs.map fun c => (c.1, .frz c.2 topO))
  | _, _, [], .nil, _ => .nil
  | _, _, _ :: _, .nil, e => by cases e
  | _, _, [], .cons _ _, e => by cases e
  | j :: _, c :: _, u :: us, .cons ⟨h1, v, h2, h3⟩ t, e => by
    injection e with e1 e2
    cases h2.symm.trans e1
    refine .cons ?_ (CellsFor.cn t e2)
    show Cn I (.cel (cAt X j) u) (c.1, .frz c.2 topO)
    rw [← h1]
    exact .cel h3
theorem Wf.shown (w : Wf F H M) (c : CellsFor X σ js cs) (nd : (cs.map (·.1)).Nodup) (n : ∀ d ∈ cs, H d.1 = none) (hv : js.map (fun j => σ[j]?) = us.map (fun u => some (some u))) : Wf F (addC cs H) (celM X js us ++ M) := by
  obtain ⟨I, Mc, w, a, hF⟩ := w.ex
  have out : ∀ {b : Addr} {o : HO}, H b = some o → b ∉ cs.map (·.1) := fun {b o} e z => by
    obtain ⟨d, h1, h2⟩ := List.mem_map.mp z
    rw [← h2, n d h1] at e
    cases e
  have app : ∀ {M1 M2 : List ME} {N1 N2 : List (Addr × HO)}, CnA I M1 N1 → CnA I M2 N2 → CnA I (M1 ++ M2) (N1 ++ N2) := fun {M1 M2 N1 N2} h1 h2 => by
    induction h1 with
    | nil => exact h2
    | cons h _ ih => exact .cons h ih
  refine ⟨I, cs.map (fun c => (c.1, .frz c.2 topO)) ++ Mc, ⟨fun b x e => ?_, fun p hp => ?_, ?_⟩, app (c.cn hv) a, hF⟩
  · rw [addC_ne (out (w.imm _ _ e))]
    exact w.imm _ _ e
  · rcases List.mem_append.mp hp with h | h
    · obtain ⟨d, h1, rfl⟩ := List.mem_map.mp h
      exact ⟨addC_at nd h1, w.imm.free (n d h1)⟩
    · obtain ⟨h1, h2⟩ := w.mu p h
      exact ⟨by rw [addC_ne (out h1)]; exact h1, h2⟩
  · rw [List.map_append, List.map_map]
    refine List.nodup_append.mpr ⟨nd, w.nd, fun x hx y hy e => ?_⟩
    obtain ⟨p, h1, h2⟩ := List.mem_map.mp hy
    have := out (w.mu p h1).1
    rw [h2, ← e] at this
    exact this hx
theorem CnA.split {I : Hp} {M2 : List ME} : ∀ {M1 : List ME} {N : List (Addr × HO)}, CnA I (M1 ++ M2) N → ∃ N1 N2, N = N1 ++ N2 ∧ CnA I M1 N1 ∧ CnA I M2 N2
  | [], N, a => ⟨[], N, rfl, .nil, a⟩
  | _ :: _, _, .cons h a => by
    obtain ⟨N1, N2, rfl, h1, h2⟩ := CnA.split a
    exact ⟨_ :: N1, N2, rfl, .cons h h1, h2⟩
theorem cel_adr {I : Hp} : ∀ {js : List Nat} {us : List V} {N : List (Addr × HO)}, js.length = us.length → CnA I (celM X js us) N → N.map (·.1) = js.map (cAt X)
  | [], [], _, _, a => by cases a; rfl
  | [], _ :: _, _, e, _ => by cases e
  | _ :: _, [], _, e, _ => by cases e
  | j :: js, u :: us, _, e, a => by
    cases a with
    | cons h a =>
      cases h
      rw [List.map_cons, List.map_cons, cel_adr (Nat.succ.inj e) a]
theorem Wf.hidden (w : Wf F H (celM X js us ++ M)) (hl : js.length = us.length) (ha : cs.map (·.1) = js.map (cAt X)) : Wf F (cutC cs H) M := by
  obtain ⟨I, Mc, w, a, hF⟩ := w.ex
  obtain ⟨N1, N2, rfl, a1, a2⟩ := a.split
  have e := cel_adr hl a1
  rw [← ha] at e
  have nd := w.nd
  rw [List.map_append] at nd
  obtain ⟨_, nd2, nd3⟩ := List.nodup_append.mp nd
  refine ⟨I, N2, ⟨fun b x h => ?_, fun p hp => ?_, nd2⟩, a2, hF⟩
  · by_cases z : b ∈ cs.map (·.1)
    · rw [← e] at z
      obtain ⟨p, h1, h2⟩ := List.mem_map.mp z
      have := (w.mu p (List.mem_append_left _ h1)).2
      rw [h2, h] at this
      cases this
    · rw [cutC_ne z]
      exact w.imm _ _ h
  · obtain ⟨h1, h2⟩ := w.mu p (List.mem_append_right _ hp)
    refine ⟨?_, h2⟩
    rw [cutC_ne (fun z => ?_)]
    · exact h1
    · rw [← e] at z
      exact nd3 _ z _ (List.mem_map_of_mem hp) rfl
/-- a promise asked with the cells shown -/
theorem n_shown (w : Wf F H M) (hv : js.map (fun j => σ[j]?) = us.map (fun u => some (some u)))
    (h : ∀ H1 (Q1 : VK), Wf F H1 (celM X js us ++ M) → (∀ v F' M' H2, Wf F' H2 (celM X js us ++ M') → (∀ H3, Wf F' H3 M' → Q v H3) → Q1 v H2) → sp vs H1 Q1 E0) : ShowQ X js sp vs σ H Q := by
  have hl : js.length = us.length := by
    have := congrArg List.length hv
    rwa [List.length_map, List.length_map] at this
  refine ⟨fun j hj => ?_, fun cs c nd n => h _ _ (w.shown c nd n hv) fun v F' M' H2 w2 q => q _ (w2.hidden hl c.adr)⟩
  clear h hl
  induction js generalizing us with
  | nil => cases hj
  | cons i js ih =>
    cases us with
    | nil => cases hv
    | cons u us =>
      injection hv with e1 e2
      rcases List.mem_cons.mp hj with rfl | hj
      · exact ⟨u, e1⟩
      · exact ih e2 hj
end
/-! ### a lambda is made -/
/-- its words -/
structure LW where
  params : Arguments
  body : Expr
  scope : Scope
  qual : Str
  cl : List (Str × Addr)
def LamO (f : Addr) (L : LW) (c : Addr) : HO := .ext fun h => ∃ pm ctv : Value, h.get? f = some (PySem.W.kla_obj "<lambda>" L.qual L.params L.body L.scope L.cl pm c ctv)
theorem lamO_new {P : Program} {w : World} {H : Hp} {h : Heap} {f c : Addr} {L : LW} {pm ctv : Value} (e : h.get? f = some (PySem.W.kla_obj "<lambda>" L.qual L.params L.body L.scope L.cl pm c ctv)) : ObjOk P w H h f (LamO f L c) :=
  ⟨⟨pm, ctv, e⟩, ⟨_, e⟩, fun _ _ ⟨pm, ctv, z⟩ st => ⟨pm, ctv, st _ z⟩⟩
theorem lamO_at {P : Program} {w : World} {H : Hp} {h : Heap} {f c : Addr} {L : LW} (x : HOk P w H h) (e : H f = some (LamO f L c)) : ∃ pm ctv : Value, h.get? f = some (PySem.W.kla_obj "<lambda>" L.qual L.params L.body L.scope L.cl pm c ctv) := (x f _ e).1
/-- a table of code objects, all of the name q -/
def TabK (H : Hp) (q : Str) (ps : Array Value) : Prop := TriplesOk ps.toList ∧ ∀ (pos : Pos) (cv : Value), codeAmong pos ps.toList = some cv → ∃ c, cv = .ref c ∧ H c = some (LamX.CodeO c q)
def tLamV (Pt : Addr) (pos : Pos) (L : LW) : TE := fun _ H Q => ∃ ps : Array Value, H Pt = some (.tbl ps) ∧ TabK H L.qual ps ∧
  (∀ f c, H c = none → H f = none → f ≠ c → Q (.ref f) (upd (upd (upd H Pt (.tbl (ps ++ #[rawInt pos.line, rawInt pos.col, .ref c]))) c (LamX.CodeO c L.qual)) f (LamO f L c))) ∧
  ∀ f c, codeAmong pos ps.toList = some (.ref c) → H f = none → Q (.ref f) (upd H f (LamO f L c))
section
variable {X : Cx} {c P : Addr} {params : Arguments} {body : Expr} {scope : Scope} {pos : Pos}
theorem pe_lamV (B : LamX.TabB X.base X.mg c P) (hcode : X.env.code = .ref c) (hdef : defaultsOf params X.env = ([], [])) (hfree : ∀ y ∈ scope.names, y.2 = .free → X.env.scope.names.lookup y.1 = some .cell ∨ X.env.scope.names.lookup y.1 = some .free) :
    PE X (.Lambda params body scope pos) (tLamV P pos ⟨params, body, scope, X.env.qual ++ "<lambda>", cloFrom X.env.cells scope.names []⟩) := by
  refine ⟨fun pins s σ H Q J h => ?_⟩
  obtain ⟨ps, hP, ⟨tok, tell⟩, miss, hit⟩ := h
  have clo := closure_ok (scope := scope) (env := X.env) fun y hy e => (hfree y hy e).elim (fun z => J.ok.has _ (.inl z)) fun z => J.ok.has _ (.inr z)
  have oP : s.heap.get? P = some { cls := .none, data := .fields ps } := J.hok P _ hP
  have bP := B.bm.keeps J.bk
  refine PySem.W.kla_eval hdef ?_
  cases among : codeAmong pos ps.toList with
  | some cv =>
    obtain ⟨k, ek, hk⟩ := tell pos cv among
    subst ek
    refine PySem.W.kla_makeFunctionHit (c := c) (P := P) (mg := X.mg) clo J.ok.glob (J.mod.glob.keeps J.bk) hcode (B.code.keeps J.bk) oP tok among bP fun ctv h2 tk ext big => ?_
    have J2 : Inv X pins σ H { s with heap := h2, toks := tk } := J.kept ext
    refine ⟨.ref _, _, J2.laid (o := LamO h2.objs.size ⟨params, body, scope, X.env.qual ++ "<lambda>", cloFrom X.env.cells scope.names []⟩ k) (fun b u e => ?_) (Nat.le_refl _) (lamO_new (pm := (X.mg "__name__").getD .none) (ctv := ctv) ?_), rfl, hit _ _ among (J2.hok.fresh (Nat.le_refl _))⟩
    · exact Heap.get?_push_of_some _ e
    · exact Heap.get?_push_size _ rfl
  | none =>
    refine PySem.W.kla_makeFunction (c := c) (P := P) (mg := X.mg) clo J.ok.glob (J.mod.glob.keeps J.bk) hcode (B.code.keeps J.bk) oP tok among B.gP bP fun k ctv h2 tk ext low high rec tab => ?_
    obtain ⟨k2, ob, vs, t, e2, ho, hd, hv⟩ := rec
    cases e2
    have J2 := LamX.inv_table (t' := tk) (more := #[rawInt pos.line, rawInt pos.col, .ref k]) J hP (fun b o nb e => ext b o nb e) tab low ⟨ob, vs, t, ho, hd, hv⟩
    refine ⟨.ref _, _, J2.laid (o := LamO h2.objs.size ⟨params, body, scope, X.env.qual ++ "<lambda>", cloFrom X.env.cells scope.names []⟩ k) (fun b u e => ?_) (Nat.le_refl _) (lamO_new (pm := (X.mg "__name__").getD .none) (ctv := ctv) ?_), rfl, miss _ _ (J.hok.fresh low) (J.hok.fresh (Nat.le_trans low (Nat.le_of_lt high))) (Nat.ne_of_gt high)⟩
    · exact Heap.get?_push_of_some _ e
    · exact Heap.get?_push_size _ rfl
end
theorem Foc.self {e : ME} : ∀ {M : List ME}, e ∈ M → Foc M e M e
  | _ :: _, h => by
    rcases List.mem_cons.mp h with rfl | h
    · exact .here
    · exact .there (Foc.self h)
section
variable {F : List (V × D)} {σ : L2.St} {H : Hp} {M : List ME} {Q : VK} {Pt : Addr} {pos : Pos} {L : LW} {φ : V → Hp → Prop}
theorem n_lam (w : Wf F H M) (hm : .tb Pt L.qual ∈ M) (hφ : ∀ f c I, I f = some (LamO f L c) → I c = some (LamX.CodeO c L.qual) → φ (.ref f) I) (q : ∀ f H', Wf ((.ref f, .fact φ) :: F) H' M → Q (.ref f) H') : tLamV Pt pos L σ H Q := by
  obtain ⟨I, Mc, w, a, hF⟩ := w.ex
  obtain ⟨M1, m, M2, rfl, c1, c2⟩ := a.foc (Foc.self hm)
  cases c1 with
  | @tb _ _ ps tok tell =>
    have hP : H Pt = some (.tbl ps) := w.at
    refine ⟨ps, hP, ⟨tok, fun p cv e => let ⟨k, h1, h2⟩ := tell p cv e; ⟨k, h1, w.imm _ _ h2⟩⟩, fun f k nk nf ne => q f _ ?_, fun f k hk nf => q f _ ?_⟩
    · have kP : k ≠ Pt := fun e => by rw [e, hP] at nk; cases nk
      have fP : f ≠ Pt := fun e => by rw [e, hP] at nf; cases nf
      have w1 : W I (upd H Pt (.tbl (ps ++ #[rawInt pos.line, rawInt pos.col, .ref k]))) _ := w.put
      have n1 : upd H Pt (.tbl (ps ++ #[rawInt pos.line, rawInt pos.col, .ref k])) k = none := by rw [upd_ne kP]; exact nk
      have w2 := w1.newI (o := LamX.CodeO k L.qual) n1
      have n2 : upd (upd H Pt (.tbl (ps ++ #[rawInt pos.line, rawInt pos.col, .ref k]))) k (LamX.CodeO k L.qual) f = none := by rw [upd_ne ne, upd_ne fP]; exact nf
      have w3 := w2.newI (o := LamO f L k) n2
      have s1 : Same I (upd I k (LamX.CodeO k L.qual)) := w1.same n1
      have s2 : Same (upd I k (LamX.CodeO k L.qual)) (upd (upd I k (LamX.CodeO k L.qual)) f (LamO f L k)) := w2.same n2
      refine ⟨_, _, w3, c2 _ _ (s1.trans s2) (.tb ?_ fun p cv e => ?_), fun g hg => ?_⟩
      · rw [show (ps ++ #[rawInt pos.line, rawInt pos.col, .ref k]).toList = ps.toList ++ [rawInt pos.line, rawInt pos.col, .ref k] by simp]
        exact PySem.TriplesOk_snoc _ _ _ _ tok
      · rw [show (ps ++ #[rawInt pos.line, rawInt pos.col, .ref k]).toList = ps.toList ++ [rawInt pos.line, rawInt pos.col, .ref k] by simp] at e
        rcases LamX.among_app _ tok e with z | z
        · obtain ⟨j, h1, h2⟩ := tell p cv z
          exact ⟨j, h1, s2 _ _ (s1 _ _ h2)⟩
        · exact ⟨k, z, s2 _ _ upd_same⟩
      · rcases List.mem_cons.mp hg with rfl | hg
        · exact .fact (Same.refl _) (hφ f k _ upd_same (by rw [upd_ne ne.symm]; exact upd_same))
        · exact (hF g hg).mono (s1.trans s2)
    · have w3 := w.newI (o := LamO f L k) nf
      have s2 : Same I (upd I f (LamO f L k)) := w.same nf
      obtain ⟨j, e1, ho⟩ := tell pos _ hk
      cases e1
      refine ⟨_, _, w3, c2 _ _ s2 (.tb tok fun p cv e => let ⟨j, h1, h2⟩ := tell p cv e; ⟨j, h1, s2 _ _ h2⟩), fun g hg => ?_⟩
      rcases List.mem_cons.mp hg with rfl | hg
      · exact .fact (Same.refl _) (hφ f k _ upd_same (s2 _ _ ho))
      · exact (hF g hg).mono s2
end
/-! ### what a lambda promises -/
abbrev LW.nf (L : LW) (c : Addr) : NdefX.NF := ⟨"<lambda>", L.qual, L.params, [], L.scope, L.cl, c⟩
theorem paired_at {α β : Type} {R : α → β → Prop} : ∀ {l : List α} {m : List β}, Paired R l m → ∀ {i : Nat} {a : α}, l[i]? = some a → ∃ b, m[i]? = some b ∧ R a b
  | _, _, .nil, i, a, e => by simp at e
  | _, _, .cons h _, 0, a, e => by simp at e; subst e; exact ⟨_, rfl, h⟩
  | _, _, .cons _ t, i + 1, a, e => by
    obtain ⟨b, h1, h2⟩ := paired_at t (i := i) (a := a) (by simpa using e)
    exact ⟨b, by simpa using h1, h2⟩
theorem paired_nodup {cl : List (Str × Addr)} (hinj : ∀ x y c, cl.lookup x = some c → cl.lookup y = some c → x = y) : ∀ {fr : List Str} {cs : List (Addr × Obj)}, Paired (fun y (c : Addr × Obj) => cl.lookup y = some c.1) fr cs → fr.Nodup → (cs.map (·.1)).Nodup
  | _, _, .nil, _ => List.nodup_nil
  | y :: fr, c :: cs, .cons h t, nd => by
    obtain ⟨n1, n2⟩ := List.nodup_cons.mp nd
    refine List.nodup_cons.mpr ⟨fun z => n1 ?_, paired_nodup hinj t n2⟩
    clear nd n1 n2
    revert z
    generalize hcs : cs = ds at t
    intro z
    obtain ⟨d, h1, h2⟩ := List.mem_map.mp z
    have aux : ∀ {fr : List Str} {ds : List (Addr × Obj)}, Paired (fun y (c : Addr × Obj) => cl.lookup y = some c.1) fr ds → d ∈ ds → ∃ x ∈ fr, cl.lookup x = some d.1 := fun {fr ds} t => by
      induction t with
      | nil => exact fun h => nomatch h
      | cons h t ih =>
        intro hd
        rcases List.mem_cons.mp hd with rfl | hd
        · exact ⟨_, List.mem_cons_self, h⟩
        · obtain ⟨x, q1, q2⟩ := ih hd
          exact ⟨x, List.mem_cons_of_mem _ q1, q2⟩
    obtain ⟨x, q1, q2⟩ := aux t h1
    rw [hinj y x c.1 h (by rw [show c.1 = d.1 from h2.symm]; exact q2)]
    exact q1
section
variable {P : Program} {w : World} {K : PySem.W.Frag} {mg : Str → Option Value} {base : Heap} {N ps fr : List Str} {f c : Addr} {k : Nat} {sp : Sp} {L : LW} {I : Hp}
theorem fnV_lam (S : NdefX.NScope N ps fr L.scope) (hb : ∀ (pm cv ctv : Value) (us : List Value), us.length = ps.length → bindArgs (PySem.W.kla_fn "<lambda>" L.qual L.params L.body L.scope L.cl pm cv ctv) ⟨us, []⟩ = pure (ps.zip us))
    (hinj : ∀ x y c, L.cl.lookup x = some c → L.cl.lookup y = some c → x = y) (hfr : ∀ y c, L.cl.lookup y = some c → y ∈ fr)
    (hsp : ∀ vs H Q, sp vs H Q E0 → vs.length = ps.length ∧ ∃ (cs : List (Addr × Obj)) (ws : List V), Paired (fun y (c : Addr × Obj) => L.cl.lookup y = some c.1) fr cs ∧ Paired (fun (c : Addr × Obj) w => CelO c.2 w) cs ws ∧ (∀ c ∈ cs, H c.1 = some (.frz c.2 topO)) ∧
      ∀ (A : Around) (outer : List Env) (s : Shared) (f c : Addr), Room k (A.deeper (NdefX.envF (L.nf c) f s.heap.objs.size)) → ∃ t, PE (NdefX.ncx CX0 P w K mg base N (L.nf c) f A outer s (cutC cs H) E0) L.body t ∧ t (NdefX.startF N vs (ws.map some)) (cutC cs H) (fun v H2 => (∀ d ∈ cs, H2 d.1 = none) → Q v (addC cs H2)))
    (hf : I f = some (LamO f L c)) (hc : I c = some (LamX.CodeO c L.qual)) : FnV P w K mg base (k + 1) sp (.ref f) I := by
  refine ⟨f, rfl, fun H h x sm => ?_, fun A outer s H us vs Q hr e0 rv sm q => ?_⟩
  · obtain ⟨pm, ctv, e⟩ := lamO_at x (sm _ _ hf)
    exact ⟨_, _, _, _, e⟩
  obtain ⟨hl, cs, ws, p1, p2, hcs, body⟩ := hsp vs H Q q
  obtain ⟨pm, ctv, ho⟩ := lamO_at e0.hok (sm _ _ hf)
  obtain ⟨⟨oc, cvs, t, hoc, hdc, hvc⟩, _, _⟩ := e0.hok c _ (sm _ _ hc)
  have ndf : fr.Nodup := by
    have z := S.nd.sublist (List.take_sublist (ps.length + fr.length) N)
    rw [S.pre] at z
    exact (List.nodup_append.mp z).2.1
  have nd := paired_nodup hinj p1 ndf
  have e1 := env0_cut e0 hcs
  have C : NdefX.CellsAt L.cl fr (ws.map some) s.heap (cutC cs H) := by
    have one : ∀ (i : Nat) (y : Str), fr[i]? = some y → ∃ d ∈ cs, L.cl.lookup y = some d.1 ∧ ∃ v u, ws[i]? = some v ∧ RelV v u ∧ s.heap.IsCell d.1 (some u) := fun i y hy => by
      obtain ⟨d, q1, q2⟩ := paired_at p1 hy
      obtain ⟨v, q3, u, q4, q5⟩ := paired_at p2 q1
      exact ⟨d, List.mem_of_getElem? q1, q2, v, u, q3, q5, d.2, (e0.hok _ _ (hcs d (List.mem_of_getElem? q1))).1, q4⟩
    refine ⟨?_, fun y a ha => ?_, hinj, fun i y hy => ?_⟩
    · rw [List.length_map, ← p2.length, ← p1.length]
    · obtain ⟨i, hi⟩ := List.mem_iff_getElem?.mp (hfr y a ha)
      obtain ⟨d, q1, q2, v, u, _, _, q3⟩ := one i y hi
      rw [ha] at q2
      cases q2
      exact ⟨cutC_in (List.mem_map_of_mem q1), _, q3⟩
    · obtain ⟨d, q1, q2, v, u, q3, q4, q5⟩ := one i y hy
      refine ⟨d.1, q2, fun v2 h2 => ⟨u, ?_, q5⟩⟩
      rw [List.getElem?_map, q3] at h2
      cases h2
      exact q4
  have fin : codeAny (model P w) A (.call (.ref f) ⟨us, []⟩) (CR CX0 outer P w (cutC cs H) s (fun v H2 => (∀ d ∈ cs, H2 d.1 = none) → Q v (addC cs H2)) E0) s := by
    have lim : s.heap.NoLimit := e0.mod.nolimit.keeps fun b o e => (e0.bs b o e).1
    refine PySem.W.kla_callFunE hr.depth ho rfl S.co S.gen rfl ⟨c, oc, cvs, t, rfl, hoc, hdc, hvc⟩ ?_
    rw [hb _ _ _ us (by rw [← rv.length]; exact hl)]
    refine wpAny_pure (wpAny_newFunctionEnv S.nocell (fun ⟨n, _⟩ hy => S.par n (List.of_mem_zip hy).1) (fun h1 hns hsb => ⟨lim.fresh _ hsb, ?_⟩) S.kind)
    have keep : ∀ b o, s.heap.get? b = some o → h1.get? b = some o := fun b o e => hsb.extBut b o (Nat.ne_of_lt (Heap.lt_size e)) (Heap.get?_push_of_some _ e)
    obtain ⟨t2, ht, hq⟩ := body A outer s f c (hr.deeper _)
    have J : Inv (NdefX.ncx CX0 P w K mg base N (L.nf c) f A outer s (cutC cs H) E0) [] (NdefX.startF N vs (ws.map some)) (cutC cs H) { s with heap := h1, toks := s.toks + (ps.zip us).length } :=
      NdefX.inv_startN S hr.hd e1 hl rv C hns keep
    refine PySem.W.kla_codeExpr (wpAny_mono (ht.run [] _ _ _ _ J hq) (fun u s' hz => ?_) fun e s' hz => hz)
    obtain ⟨v, H2, J2, r2, q2⟩ := hz
    exact ⟨v, H2, J2.os, J2.bare, J2.base, J2.hok, r2, q2⟩
  refine codeAny_mono fin fun r s' z => ?_
  match r, z with
  | .ok (.ret u), z => exact ce_add nd e0 hcs z
  | .ok .next, z => exact False.elim z
  | .ok .brk, z => exact False.elim z
  | .ok .cont, z => exact False.elim z
  | .error er, z => exact False.elim z
end
def celL (as : List Addr) (ws : List V) : List ME := (as.zip ws).map fun p => .cel p.1 p.2
theorem celM_L {X : Cx} : ∀ {js : List Nat} {us : List V}, celM X js us = celL (js.map (cAt X)) us
  | [], _ => rfl
  | _ :: _, [] => rfl
  | j :: js, u :: us => by
    show ME.cel (cAt X j) u :: celM X js us = ME.cel (cAt X j) u :: celL (js.map (cAt X)) us
    rw [celM_L]
section
variable {F : List (V × D)} {H : Hp} {M G : List ME} {as : List Addr} {ws : List V}
theorem cn_cels {I : Hp} : ∀ {as : List Addr} {ws : List V} {N : List (Addr × HO)}, as.length = ws.length → CnA I (celL as ws) N → ∃ cs : List (Addr × Obj), cs.map (·.1) = as ∧ Paired (fun (c : Addr × Obj) w => CelO c.2 w) cs ws ∧ N = cs.map fun c => (c.1, HO.frz c.2 topO)
  | [], [], _, _, a => by cases a; exact ⟨[], rfl, .nil, rfl⟩
  | [], _ :: _, _, e, _ => by cases e
  | _ :: _, [], _, e, _ => by cases e
  | x :: as, v :: ws, _, e, a => by
    cases a with
    | cons h a =>
      obtain ⟨cs, h1, h2, rfl⟩ := cn_cels (Nat.succ.inj e) a
      cases h with
      | @cel _ _ o hc => exact ⟨(x, o) :: cs, by rw [List.map_cons, h1], .cons hc h2, rfl⟩
theorem cels_cn {I : Hp} : ∀ {as : List Addr} {ws : List V} {cs : List (Addr × Obj)}, cs.map (·.1) = as → Paired (fun (c : Addr × Obj) w => CelO c.2 w) cs ws → CnA I (celL as ws) (cs.map fun c => (c.1, HO.frz c.2 topO))
  | _, _, _, rfl, .nil => .nil
  | _, _, _, rfl, .cons h t => .cons (.cel h) (cels_cn rfl t)
/-- the cells are put aside while a function's body runs -/
theorem n_cels (w : Wf F H (M ++ (celL as ws ++ G))) (hl : as.length = ws.length) : ∃ cs : List (Addr × Obj), cs.map (·.1) = as ∧ Paired (fun (c : Addr × Obj) w => CelO c.2 w) cs ws ∧ (∀ c ∈ cs, H c.1 = some (.frz c.2 topO)) ∧ as.Nodup ∧ Wf F (cutC cs H) (M ++ G) ∧
    ∀ F' H' M' G', Wf F' H' (M' ++ G') → (∀ c ∈ cs, H' c.1 = none) → Wf F' (addC cs H') (M' ++ (celL as ws ++ G')) := by
  have pm : ∀ M G : List ME, List.Perm (M ++ (celL as ws ++ G)) (celL as ws ++ (M ++ G)) := fun M G => by
    rw [← List.append_assoc, ← List.append_assoc]
    exact List.Perm.append_right _ List.perm_append_comm
  obtain ⟨I, Mc, w, a, hF⟩ := (w.perm (pm M G)).ex
  obtain ⟨N1, N2, rfl, a1, a2⟩ := a.split
  obtain ⟨cs, h1, h2, rfl⟩ := cn_cels hl a1
  have hcs : ∀ c ∈ cs, H c.1 = some (.frz c.2 topO) := fun c hc => (w.mu _ (List.mem_append_left _ (List.mem_map_of_mem (f := fun c : Addr × Obj => (c.1, HO.frz c.2 topO)) hc))).1
  have nd := w.nd
  rw [List.map_append, List.map_map] at nd
  obtain ⟨nd1, nd2, nd3⟩ := List.nodup_append.mp nd
  have nd1 : (cs.map (·.1)).Nodup := nd1
  refine ⟨cs, h1, h2, hcs, h1 ▸ nd1, ⟨I, N2, ⟨fun b x h => ?_, fun p hp => ?_, nd2⟩, a2, hF⟩, fun F' H' M' G' w' hn => Wf.perm ?_ (pm M' G').symm⟩
  · by_cases z : b ∈ cs.map (·.1)
    · obtain ⟨c, q1, q2⟩ := List.mem_map.mp z
      have := (w.mu _ (List.mem_append_left _ (List.mem_map_of_mem (f := fun c : Addr × Obj => (c.1, HO.frz c.2 topO)) q1))).2
      rw [show b = c.1 from q2.symm] at h
      rw [this] at h
      cases h
    · rw [cutC_ne z]
      exact w.imm _ _ h
  · obtain ⟨q1, q2⟩ := w.mu p (List.mem_append_right _ hp)
    refine ⟨?_, q2⟩
    rw [cutC_ne fun z => ?_]
    · exact q1
    · exact nd3 _ z _ (List.mem_map_of_mem hp) rfl
  · obtain ⟨I', Mc', w2, a', hF'⟩ := w'.ex
    have out : ∀ {b : Addr} {o : HO}, H' b = some o → b ∉ cs.map (·.1) := fun {b o} e z => by
      obtain ⟨d, q1, q2⟩ := List.mem_map.mp z
      rw [show b = d.1 from q2.symm, hn d q1] at e
      cases e
    have app : ∀ {M1 M2 : List ME} {N1 N2 : List (Addr × HO)}, CnA I' M1 N1 → CnA I' M2 N2 → CnA I' (M1 ++ M2) (N1 ++ N2) := fun {M1 M2 N1 N2} h1 h2 => by
      induction h1 with
      | nil => exact h2
      | cons h _ ih => exact .cons h ih
    refine ⟨I', cs.map (fun c => (c.1, HO.frz c.2 topO)) ++ Mc', ⟨fun b x e => ?_, fun p hp => ?_, ?_⟩, app (cels_cn h1 h2) a', hF'⟩
    · rw [addC_ne (out (w2.imm _ _ e))]
      exact w2.imm _ _ e
    · rcases List.mem_append.mp hp with h | h
      · obtain ⟨d, q1, rfl⟩ := List.mem_map.mp h
        exact ⟨addC_at nd1 q1, w2.imm.free (hn d q1)⟩
      · obtain ⟨q1, q2⟩ := w2.mu p h
        exact ⟨by rw [addC_ne (out q1)]; exact q1, q2⟩
    · rw [List.map_append, List.map_map]
      refine List.nodup_append.mpr ⟨nd1, w2.nd, fun x hx y hy e => ?_⟩
      obtain ⟨p, q1, q2⟩ := List.mem_map.mp hy
      have := out (w2.mu p q1).1
      rw [show p.1 = y from q2, ← e] at this
      exact this hx
end
/-! ### defs that make functions: their code object is known -/
section
variable {P : Program} {w : World} {K : PySem.W.Frag} {mg : Str → Option Value} {base : Heap}
theorem _root_.L2.FunD.okT {CX : CXT} {x qual : Str} {st : Stmt} {dvs : List V} {f c : Addr} {fd : FuncData} {N ps : List Str} {k : Nat} {sp : Sp} (F : FunD K x qual (defArgs st) (defBody st) (defScope st) dvs [] f fd) (T : fd.code = .ref c) (S : FnScope N ps (defScope st)) (len : ∀ vs H Q E, sp vs H Q E → vs.length = ps.length)
    (hbody : ∀ (A : Around) (outer : List Env) (s : Shared) (H : Hp) (vs : List V) (Q : VK) (E : XK), Room k (A.deeper (envOfC qual (defScope st) s.heap.objs.size f (.ref c))) → sp vs H Q E →
      ∃ t, PSs (cxOf CX P w K mg base N qual (defScope st) f (.ref c) A outer s H E) (defBody st) t ∧ t { nx := fun _ H' => Q .non H', rt := Q } (start N vs) H) : FnOk P w K mg base CX (k + 1) f fd ps sp := by
  obtain ⟨oc, od, dV, kV, doc, pm, an, cdv, ct, osl, rfl, lk, hcd, _, _⟩ := F.ex
  obtain rfl : cdv = .ref c := T
  exact fn_of lk hcd S len fun A outer s H vs Q E hr hsp => hbody A outer s H vs Q E hr hsp
theorem _root_.L2.Fun.okT {x qual : Str} {st : Stmt} {f c : Addr} {fd : FuncData} {N ps : List Str} {k : Nat} {sp : Sp} (F : Fun K x qual st f fd) (T : fd.code = .ref c) (S : FnScope N ps (defScope st)) (len : ∀ vs H Q E, sp vs H Q E → vs.length = ps.length)
    (hbody : ∀ (A : Around) (outer : List Env) (s : Shared) (H : Hp) (vs : List V) (Q : VK) (E : XK), Room k (A.deeper (envOfC qual (defScope st) s.heap.objs.size f (.ref c))) → sp vs H Q E →
      ∃ t, PSs (cxOf CX0 P w K mg base N qual (defScope st) f (.ref c) A outer s H E).nox (defBody st) t ∧ t { nx := fun _ H' => Q .non H', rt := Q } (start N vs) H) : FnOk P w K mg base CX0 (k + 1) f fd ps sp := by
  obtain ⟨oc, od, kV, doc, pm, an, cdv, ct, osl, rfl, lk, hcd⟩ := F.ex
  obtain rfl : cdv = .ref c := T
  refine fn_of lk hcd S len fun A outer s H vs Q E hr hsp => ?_
  obtain ⟨t, h, q⟩ := hbody A outer s H vs Q E hr hsp
  exact ⟨t, h.nox, q⟩
/-- what the end asks: the makers' tables cs -/
def LawT (q : Program) (l : PySem.W.OpenLaw) (w : World) (K : PySem.W.Frag) (CX : CXT) (k n : Nat) (x : Str) (mg : Str → Option Value) (fa : Addr) : Prop := ∃ (fd : FuncData) (cs : List (Addr × Addr)) (sp : Sp),
  (∀ p ∈ cs, (∃ y d, (recsOf q).find? (fun e => e.name == y) = some d ∧ PySem.W.tabIn K y = some p) ∧ K.lookup p.2 = none) ∧ (∀ (s : Shared) (u : Value), BindsTo s fd ⟨[u], []⟩ [(x, u)]) ∧
  (∀ (H : Hp) (a : Addr) (ns : List Int), ns.length ≤ n → (∀ z ∈ ns, Builtin.Int.intBits z ≤ 1048576) → (∀ p ∈ cs, H p.2 = some (.tbl #[])) → SqL K H a (ns.map V.int) → sp [.ref a] H (fun v _ => v = .bl true) fun _ _ _ => False) ∧
  ∀ base : Heap, K.In base → base.Ns mainGlobals mg → (∀ p ∈ cs, LamX.TabB base mg p.1 p.2) → FnOk l.prog w K mg base CX k fa fd [x] sp
theorem walk_T {l : PySem.W.OpenLaw} {n k : Nat} {q : Program} {loose : List Str} {XP : (Str → Option Value) → Heap → Prop} {YP : World → Heap → Prop} {d : DefRec} {K : Params → PySem.W.Frag} {CX : World → CXT} {x : Str}
    (hn : l.most = some n) (hn2 : n ≤ sizeLine) (hdf : d.params.defaults = []) (hr : Room k callerA) (hY : ∀ (w : World) (h : Heap), YP w h → (K w.params).In h)
    (F : ∀ (w : World) (mg : Str → Option Value) (fa : Addr) (h : Heap), (K w.params).In h → h.Ns mainGlobals mg → mg d.name = some (.ref fa) → LawT q l w (K w.params) (CX w) k n x mg fa)
    (hCX : ∀ (w : World) (H : Hp) (s : Shared) (e : Value) (s' : Shared), CX w [] H s (fun _ _ _ => False) e s' → False) :
    PySem.W.WalkO q loose XP YP l.row.toRowW d [] (fun f vs => PySem.call f vs) := by
  refine Att.attach_callB hn hdf fun w s0 s1 mg mb fa o pm cd doc a vs ns G Y ho hd hcd hmg hobj hints hlen hbits hg => ?_
  have KX := hY w _ Y
  obtain ⟨fd, cs, sp, hT, hb, hsp, hF⟩ := F w mg fa _ KX G.T.g hmg
  have tb : ∀ p ∈ cs, PySem.W.CodeHd s1.heap p.1 p.2 ∧ s1.heap.get? p.2 = some { cls := .none, data := .fields #[] } := fun p hp => by
    obtain ⟨⟨y, d2, h1, h2⟩, _⟩ := hT p hp
    exact PySem.W.tab_of G.T KX h1 h2
  exact LamX.law_callTs KX G.T.g G.T.b G.T.builtins G.T.nolimit hg (fun p hp => (tb p hp).2) (fun p hp => (hT p hp).2) (fun p hp => (tb p hp).1) G.T.bmain hobj hints (Nat.le_trans hlen hn2) hr hF hb (fun H hH hS => hsp H a ns hlen hbits hH hS) fun H e s' => hCX w H s1 e s'
end
/-- an empty table at the begin -/
theorem Wf.tb0 {H : Hp} {P : Addr} {q : Str} (h : H P = some (.tbl #[])) : Wf [] H [.tb P q] :=
  ⟨fun _ => none, [(P, .tbl #[])], ⟨fun _ _ e => (nomatch e), fun p hp => by rw [List.mem_singleton.mp hp]; exact ⟨h, rfl⟩, by simp⟩, .cons (.tb trivial fun pos cv e => by
    have z : codeAmong pos [] = some cv := e
    simp [codeAmong] at z) .nil, fun _ h => nomatch h⟩
/-! ### calls with the cells shown -/
def tCalC (X : Cx) (js : List Nat) (sp : Sp) (dvs : List V) (t : TA) : TE := fun σ H Q => t σ H fun vs H1 => ShowQ X js sp (vs ++ dvs) σ H1 Q
def ShowV (X : Cx) (js : List Nat) (k : Nat) (v : V) (vs : List V) (σ : L2.St) (H : Hp) (Q : VK) : Prop := ∃ (sp : Sp) (I : Hp), FnV X.prog X.w X.K X.mg X.base k sp v I ∧ Same I H ∧ ShowQ X js sp vs σ H Q
def tCallVC (X : Cx) (js : List Nat) (k i : Nat) (t : TA) : TE := fun σ H Q => ∃ v, σ[i]? = some (some v) ∧ IsFnV X.prog X.w X.K X.mg X.base k v H ∧ t σ H fun vs H1 => ShowV X js k v vs σ H1 Q
def tFldVC (X : Cx) (js : List Nat) (k : Nat) (m : Str) (te : TE) (t : TA) : TE := fun σ H Q => te σ H fun y H1 => ∃ (a C dx : Addr) (fs : List (Str × V)) (v : V), y = .ref a ∧ H1 a = some (.ins C dx fs) ∧ Cls X.K C ∧ NoAttr X.K C m ∧ fs.lookup m = some v ∧ IsFnV X.prog X.w X.K X.mg X.base k v H1 ∧
      t σ H1 fun vs H2 => ShowV X js k v vs σ H2 Q
theorem s_calC {X : Cx} {js : List Nat} {sp : Sp} {dvs : List V} {t : TA} {σ : L2.St} {H : Hp} {Q : VK} (h : t σ H fun vs H1 => ShowQ X js sp (vs ++ dvs) σ H1 Q) : tCalC X js sp dvs t σ H Q := h
theorem s_callVC {X : Cx} {js : List Nat} {k i : Nat} {t : TA} {σ : L2.St} {H : Hp} {Q : VK} {v : V} (hs : σ[i]? = some (some v)) (hf : IsFnV X.prog X.w X.K X.mg X.base k v H) (h : t σ H fun vs H1 => ShowV X js k v vs σ H1 Q) : tCallVC X js k i t σ H Q := ⟨v, hs, hf, h⟩
theorem s_fldVC {X : Cx} {js : List Nat} {k : Nat} {m : Str} {te : TE} {t : TA} {σ : L2.St} {H : Hp} {Q : VK} (h : te σ H fun y H1 => ∃ (a C dx : Addr) (fs : List (Str × V)) (v : V), y = .ref a ∧ H1 a = some (.ins C dx fs) ∧ Cls X.K C ∧ NoAttr X.K C m ∧ fs.lookup m = some v ∧ IsFnV X.prog X.w X.K X.mg X.base k v H1 ∧ t σ H1 fun vs H2 => ShowV X js k v vs σ H2 Q) : tFldVC X js k m te t σ H Q := h
theorem celled1 {X : Cx} {j : Nat} {y : Str} (nN : X.N.Nodup) (h1 : X.N[j]? = some y) (h2 : X.env.scope.names.lookup y = some .cell) (fn : ∀ y, X.fn y = true) : Celled X [j] :=
  ⟨by simp, nN, fun i hi => by rw [List.mem_singleton.mp hi]; exact ⟨y, h1, h2⟩, fn⟩
section
variable {X : Cx} {x m a : Str} {C : Addr} {i : Nat} {p pos apos p1 p2 : Pos} {e o : Expr} {es : List Expr} {t : TA} {k : Nat} {ps : List Str} {dvs : List V} {sp : Sp} {js : List Nat} {te : TE}
theorem pe_calC (c : Cal X.prog X.w X.K X.mg X.base x k ps dvs sp) (hr : Room k X.A) (hg : Gl X x) (hc : Celled X js) (ha : PA X (e :: es) t) (hdb : (x == ("__debug__" : Str)) = false := by decide)
    (he : starEach (e :: es) X.env = (false, eval e X.env) :: starEach es X.env := by rfl) (hpl : (backTo pos (starEach es X.env)).any (·.1) = false := by rfl) : PE X (.Call (.Name x p) (e :: es) [] pos) (tCalC X js sp dvs t) := by
  obtain ⟨f, fd, ds, F, hm, hk, hb, hd⟩ := c.ex
  refine ⟨fun pins s σ H Q J h => ?_⟩
  refine wpAny_Call_Name_kw (ld_glob J hg hm ?_ hdb)
  exact PySem.W.callWith_K (h₀ := X.base) J.ok.mod.kin hk (thn (ha.run pos pins s σ H _ J h) fun us s1 ⟨vs, H1, J1, r, q⟩ => ⟨J1.kIn, run_fnC F hr hb hd hc J1 r q⟩) he hpl
/-- a function that a slot holds, called with the cells shown -/
theorem pe_callVC (hN : X.N[i]? = some a) (hv : Vis X.env.scope a) (hr : Room k X.A) (hc : Celled X js) (ha : PA X (e :: es) t) (hd : (a == ("__debug__" : Str)) = false := by decide) (hcd : (a == ("__classdict__" : Str)) = false := by decide)
    (he : starEach (e :: es) X.env = (false, eval e X.env) :: starEach es X.env := by rfl) (hpl : (backTo p2 (starEach es X.env)).any (·.1) = false := by rfl) :
    PE X (.Call (.Name a p1) (e :: es) [] p2) (tCallVC X js k i t) := by
  refine ⟨fun pins s σ H Q J h => ?_⟩
  obtain ⟨v, hs, ⟨sp0, I0, ⟨f, ev, fa, _⟩, sm0⟩, h⟩ := h
  subst ev
  refine wpAny_Call_Name_kw (thn ((pe_var (pos := p1) (i := i) hN hv hd hcd).run pins s σ H (fun v H1 => v = .ref f ∧ H1 = H) J ⟨.ref f, hs, rfl, rfl⟩) fun u s1 ⟨v, H1, J1, r1, q1⟩ => ?_)
  obtain ⟨ev, eH⟩ := q1
  subst ev
  rw [eH] at J1
  obtain rfl : u = Value.ref f := r1
  refine PySem.W.callWith_F (fa _ _ J1.hok sm0) (thn (ha.run p2 pins s1 σ H _ J1 h) fun us s2 ⟨vs, H2, J2, rv, sp, I, ⟨f2, ef, fa2, run⟩, sm, q⟩ => ?_) he hpl
  cases ef
  obtain ⟨cs, c1, c2, c3⟩ := cells_are J2 hc q.1
  have sm2 : Same I (addC cs H2) := fun b o e => by
    have := sm b o e
    rw [addC_ne (fun z => ?_)]
    · exact this
    · obtain ⟨d, h1, h2⟩ := List.mem_map.mp z
      rw [← h2, c3 d h1] at this
      cases this
  refine ⟨fa2 _ _ J2.hok sm, wpAny_call (codeAny_mono (run X.A X.stack s2 (addC cs H2) us vs _ hr (env0_add J2.env0 c2 c3) rv sm2 (q.2 cs c1 c2.nd c3)) fun r s' z => ?_)⟩
  match r, z with
  | .ok (.ret u), z => exact J2.after (ce_cut c2 c3 z)
  | .ok .next, z => exact False.elim z
  | .ok .brk, z => exact False.elim z
  | .ok .cont, z => exact False.elim z
  | .error er, z => exact False.elim z
/-- a function that a field holds, called with the cells shown: x.f(..) -/
theorem pe_fldVC {pl : Sem Bool} (ho : PE X o te) (hr : Room k X.A) (hc : Celled X js) (ha : PA X (e :: es) t)
    (he : starEach (e :: es) X.env = (false, eval e X.env) :: starEach es X.env := by rfl) (hpl : (backTo pos (starEach es X.env)).any (·.1) = false := by rfl)
    (ht : eval (.Call (.Attribute o m apos) (e :: es) [] pos) X.env = (do
      let ov ← eval o X.env
      standAt apos.atName
      let (f, first) ← holding [ov] (getMethod ov m pl)
      callWith pos f first (backTo pos (starEach (e :: es) X.env)) (backToKw pos (keywordEach [] X.env))) := by rfl) :
    PE X (.Call (.Attribute o m apos) (e :: es) [] pos) (tFldVC X js k m te t) := by
  refine ⟨fun pins s σ H Q J h => ?_⟩
  refine PySem.W.methodCall_KW (pl := pl) (thn (ho.run pins s σ H _ J h) fun u s1 ⟨y, H1, J1, ry, b, C, dx, fs, v, ey, eb, hC, hno, hl, ⟨sp0, I0, ⟨f, ev, fa, _⟩, sm0⟩, q1⟩ => ?_) ht
  subst ey
  subst ev
  obtain rfl : u = Value.ref b := ry
  refine getmeth_fld J1 eb hC hno hl fun u2 s2 J2 r2 => ?_
  obtain rfl : u2 = Value.ref f := r2
  refine PySem.W.callWith_F (first := []) (fa _ _ J2.hok sm0) (thn (ha.run pos pins s2 σ H1 _ J2 q1) fun us s3 ⟨vs, H2, J3, rv, sp, I, ⟨f2, ef, fa2, run⟩, sm, q⟩ => ?_) he hpl
  cases ef
  obtain ⟨cs, c1, c2, c3⟩ := cells_are J3 hc q.1
  have sm2 : Same I (addC cs H2) := fun b o e => by
    have := sm b o e
    rw [addC_ne (fun z => ?_)]
    · exact this
    · obtain ⟨d, h1, h2⟩ := List.mem_map.mp z
      rw [← h2, c3 d h1] at this
      cases this
  refine ⟨fa2 _ _ J3.hok sm, wpAny_call (codeAny_mono (run X.A X.stack s3 (addC cs H2) us vs _ hr (env0_add J3.env0 c2 c3) rv sm2 (q.2 cs c1 c2.nd c3)) fun r s' z => ?_)⟩
  match r, z with
  | .ok (.ret u), z => exact J3.after (ce_cut c2 c3 z)
  | .ok .next, z => exact False.elim z
  | .ok .brk, z => exact False.elim z
  | .ok .cont, z => exact False.elim z
  | .error er, z => exact False.elim z
end
section
variable {P : Program} {w : World} {K : PySem.W.Frag} {mg : Str → Option Value} {base : Heap} {k : Nat} {sp : Sp} {v : V} {F : List (V × D)} {H : Hp} {M : List ME}
theorem Wf.fnV (ww : Wf F H M) (h : Kn F v (.fact (FnV P w K mg base k sp))) : ∃ I, FnV P w K mg base k sp v I ∧ Same I H := by
  obtain ⟨I, Mc, w1, a, hF⟩ := ww.ex
  have := h.is hF
  cases this with
  | fact s q => exact ⟨_, q, s.trans w1.imm⟩
theorem n_isFn (ww : Wf F H M) (h : Kn F v (.fact (FnV P w K mg base k sp))) : IsFnV P w K mg base k v H := by
  obtain ⟨I, a, b⟩ := ww.fnV h
  exact ⟨sp, I, a, b⟩
theorem n_callV {vs : List V} {Q : VK} (ww : Wf F H M) (h : Kn F v (.fact (FnV P w K mg base k sp))) (q : sp vs H Q E0) : CallV P w K mg base k v vs H Q := by
  obtain ⟨I, a, b⟩ := ww.fnV h
  exact ⟨sp, I, a, b, q⟩
end
/-- entries that are cells of unlike addresses stand together ahead -/
theorem cels_ahead {G : List ME} : ∀ {as : List Addr} {ws : List V} {M : List ME}, as.Nodup → (∀ e ∈ celL as ws, e ∈ M) → ∃ M', List.Perm M (celL as ws ++ M') ∧ ∀ e ∈ M, (∀ c v, e ≠ .cel c v) → e ∈ M'
  | [], _, M, _, _ => ⟨M, .refl _, fun e h _ => h⟩
  | _ :: _, [], M, _, _ => ⟨M, .refl _, fun e h _ => h⟩
  | a :: as, v :: ws, M, nd, h => by
    obtain ⟨n1, n2⟩ := List.nodup_cons.mp nd
    obtain ⟨M1, M2, rfl⟩ := List.append_of_mem (h _ List.mem_cons_self)
    have ne : ∀ e ∈ celL as ws, e ≠ .cel a v := fun e he z => by
      obtain ⟨p, h1, h2⟩ := List.mem_map.mp he
      rw [z] at h2
      injection h2 with h3 _
      exact n1 (h3 ▸ (List.of_mem_zip h1).1)
    obtain ⟨M', p, q⟩ := cels_ahead (G := G) (ws := ws) (M := M1 ++ M2) n2 fun e he => by
      have := h e (List.mem_cons_of_mem _ he)
      rcases List.mem_append.mp this with z | z
      · exact List.mem_append_left _ z
      · rcases List.mem_cons.mp z with z | z
        · exact absurd z (ne e he)
        · exact List.mem_append_right _ z
    refine ⟨M', List.perm_middle.trans (p.cons _), fun e he nc => q e ?_ nc⟩
    rcases List.mem_append.mp he with z | z
    · exact List.mem_append_left _ z
    · rcases List.mem_cons.mp z with z | z
      · exact absurd z (nc a v)
      · exact List.mem_append_right _ z
/-- what a lambda captures are cells of the def that makes it -/
def lamFreeB (sc scope : Scope) : Bool := scope.names.all fun y => !decide (y.2 = .free) || (decide (sc.names.lookup y.1 = some .cell) || decide (sc.names.lookup y.1 = some .free))
theorem lamFree_by {sc scope : Scope} (h : lamFreeB sc scope = true) : ∀ y ∈ scope.names, y.2 = .free → sc.names.lookup y.1 = some .cell ∨ sc.names.lookup y.1 = some .free := fun y hy e => by
  have := List.all_eq_true.mp h y hy
  simp only [Bool.or_eq_true, Bool.not_eq_true', decide_eq_true_eq, decide_eq_false_iff_not] at this
  exact this.resolve_left fun z => z e
section
variable {P : Program} {wd : World} {K : PySem.W.Frag} {mg : Str → Option Value} {base : Heap} {k : Nat} {sp : Sp} {v y : V} {F : List (V × D)} {H : Hp} {M : List ME} {X : Cx} {js : List Nat} {us vs : List V} {σ : L2.St} {Q : VK} {φ ψ : V → Hp → Prop}
theorem n_showV (w : Wf F H M) (h : Kn F v (.fact (FnV X.prog X.w X.K X.mg X.base k sp))) (hv : js.map (fun j => σ[j]?) = us.map (fun u => some (some u)))
    (q : ∀ H1 (Q1 : VK), Wf F H1 (celM X js us ++ M) → (∀ v F' M' H2, Wf F' H2 (celM X js us ++ M') → (∀ H3, Wf F' H3 M' → Q v H3) → Q1 v H2) → sp vs H1 Q1 E0) : ShowV X js k v vs σ H Q := by
  obtain ⟨I, a, b⟩ := w.fnV h
  exact ⟨sp, I, a, b, n_shown w hv q⟩
theorem n_fldFn {C : Addr} {fs : List (Str × D)} {m : Str} {A : V → Prop} (w : Wf F H M) (h : Rk F M y (.obj C fs)) (hc : Cls K C) (hn : NoAttr K C m) (hl : fs.lookup m = some (.fact φ)) (hi : ∀ v, Wf ((v, .fact φ) :: F) H M → A v) :
    ∃ (a C dx : Addr) (fs : List (Str × V)) (v : V), y = .ref a ∧ H a = some (.ins C dx fs) ∧ Cls K C ∧ NoAttr K C m ∧ fs.lookup m = some v ∧ A v := by
  obtain ⟨I, Mc, w, a, hF⟩ := w.ex
  obtain ⟨p, dx, vs, rfl, hp, b⟩ := h.obj w a hF
  obtain ⟨u, e, hu⟩ := b.get hl
  exact ⟨p, C, dx, vs, u, rfl, hp, hc, hn, e, hi u ⟨I, Mc, w, a, fun f hf => by
    rcases List.mem_cons.mp hf with rfl | hf
    · exact hu
    · exact hF f hf⟩⟩
theorem Wf.factTo (w : Wf F H M) (h : Kn F v (.fact φ)) (hi : ∀ v I, φ v I → ψ v I) : Wf ((v, .fact ψ) :: F) H M := by
  obtain ⟨I, Mc, w, a, hF⟩ := w.ex
  have e := h.is hF
  refine ⟨I, Mc, w, a, fun f hf => ?_⟩
  rcases List.mem_cons.mp hf with rfl | hf
  · cases e with
    | fact s q => exact .fact s (hi _ _ q)
  · exact hF f hf
theorem Wf.ref_of {C : Addr} {fs : List (Str × D)} (w : Wf F H M) (h : Kn F v (.obj C fs)) : ∃ a, v = .ref a := by
  obtain ⟨I, Mc, w, a, hF⟩ := w.ex
  have e := h.is hF
  cases e
  exact ⟨_, rfl⟩
theorem Wf.non_of (w : Wf F H M) (h : Kn F v .non) : v = .non := by
  obtain ⟨I, Mc, w, a, hF⟩ := w.ex
  exact (h.is hF).non_eq
theorem Wf.fn_of (w : Wf F H M) (h : Kn F v (.fact (FnV P wd K mg base k sp))) : ∃ a, v = .ref a := by
  obtain ⟨I, ⟨f, e, _⟩, _⟩ := w.fnV h
  exact ⟨f, e⟩
theorem Kn.app {d : D} : ∀ (L : List (V × D)), Kn F v d → Kn (L ++ F) v d
  | [], h => h
  | _ :: L, h => (Kn.app L h).more
theorem Rk.app {d : D} : ∀ (L : List (V × D)), Rk F M v d → Rk (L ++ F) M v d
  | [], h => h
  | _ :: L, h => (Rk.app L h).moreF
end
theorem lk1 {y z : Str} {a c : Addr} (h : [(y, a)].lookup z = some c) : z = y := by
  rw [List.lookup_cons] at h
  cases e : z == y with
  | true => exact eq_of_beq e
  | false => rw [e] at h; cases h
theorem cloFrom_app (cells : List (Str × Addr)) : ∀ (names : List (Str × NameKind)) (acc : List (Str × Addr)), cloFrom cells names acc = (((names.filter fun p => p.2 == .free).map fun p => (p.1, (cells.lookup p.1).getD 0)).reverse) ++ acc
  | [], acc => rfl
  | (n, k) :: r, acc => by
    unfold cloFrom
    cases e : (k == .free) with
    | true => rw [if_pos rfl, cloFrom_app cells r, List.filter_cons, if_pos e, List.map_cons, List.reverse_cons, List.append_assoc]; rfl
    | false => rw [if_neg (by decide), cloFrom_app cells r, List.filter_cons, if_neg (by rw [e]; decide)]
/-- what a lambda with one captured name closes over -/
theorem clo1 {cells : List (Str × Addr)} {names : List (Str × NameKind)} {y : Str} (h : ((names.filter fun p => p.2 == .free).map fun p => p.1) = [y]) : cloFrom cells names [] = [(y, (cells.lookup y).getD 0)] := by
  rw [cloFrom_app, List.append_nil, show ((names.filter fun p => p.2 == .free).map fun p => (p.1, (cells.lookup p.1).getD 0)) = (((names.filter fun p => p.2 == .free).map fun p => p.1).map fun n => (n, (cells.lookup n).getD 0)) by rw [List.map_map]; rfl, h]
  rfl
section
variable {P : Program} {w : World} {K : PySem.W.Frag} {mg : Str → Option Value} {base : Heap} {N ps fr : List Str} {f c : Addr} {k : Nat} {sp : Sp} {L : LW} {I : Hp}
theorem fnV_lam1 {y : Str} {ca : Addr} (hcl : L.cl = [(y, ca)]) (S : NdefX.NScope N ps [y] L.scope) (hb : ∀ (pm cv ctv : Value) (us : List Value), us.length = ps.length → bindArgs (PySem.W.kla_fn "<lambda>" L.qual L.params L.body L.scope L.cl pm cv ctv) ⟨us, []⟩ = pure (ps.zip us))
    (hsp : ∀ vs H Q, sp vs H Q E0 → vs.length = ps.length ∧ ∃ (F : List (V × D)) (M : List ME) (v : V), Wf F H M ∧ .cel ca v ∈ M ∧ ∀ (H1 : Hp) (M1 : List ME) (Q1 : VK), Wf F H1 M1 → (∀ e ∈ M, (∀ c u, e ≠ .cel c u) → e ∈ M1) → (∀ u H2, Wf F H2 M1 → (∀ H3, Wf F H3 M → Q u H3) → Q1 u H2) →
      ∀ (A : Around) (outer : List Env) (s : Shared) (f c : Addr), Room k (A.deeper (NdefX.envF (L.nf c) f s.heap.objs.size)) → ∃ t, PE (NdefX.ncx CX0 P w K mg base N (L.nf c) f A outer s H1 E0) L.body t ∧ t (NdefX.startF N vs [some v]) H1 Q1)
    (hf : I f = some (LamO f L c)) (hc : I c = some (LamX.CodeO c L.qual)) : FnV P w K mg base (k + 1) sp (.ref f) I := by
  refine fnV_lam (fr := [y]) S hb (fun x z c h1 h2 => ?_) (fun x c h => ?_) (fun vs H Q q => ?_) hf hc
  · rw [hcl] at h1 h2
    exact (lk1 h1).trans (lk1 h2).symm
  · rw [hcl] at h
    exact List.mem_singleton.mpr (lk1 h)
  · obtain ⟨hl, F, M, v, w', hm, body⟩ := hsp vs H Q q
    obtain ⟨M1, pm, hM1⟩ := cels_ahead (G := []) (as := [ca]) (ws := [v]) (M := M) (by simp) (fun e he => by rw [List.mem_singleton.mp he]; exact hm)
    obtain ⟨cs, e1, p2, hcs, nd, w2, back⟩ := n_cels (M := []) (as := [ca]) (ws := [v]) (G := M1) (w'.perm pm) rfl
    have w2 : Wf F (cutC cs H) M1 := w2
    have bk : ∀ H2, Wf F H2 M1 → (∀ d ∈ cs, H2 d.1 = none) → Wf F (addC cs H2) M := fun H2 w3 hn => Wf.perm (back F H2 [] M1 w3 hn) pm.symm
    have b2 := body (cutC cs H) M1 (fun v H2 => (∀ d ∈ cs, H2 d.1 = none) → Q v (addC cs H2)) w2 hM1 (fun u H2 w3 q3 hn => q3 _ (bk H2 w3 hn))
    refine ⟨hl, cs, [v], ?_, p2, hcs, fun A outer s f c hr => ?_⟩
    rotate_left
    · exact b2 A outer s f c hr
    have one : ∃ c0, cs = [c0] ∧ c0.1 = ca := by
      clear p2 hcs back bk b2 w2 nd
      cases cs with
      | nil => cases e1
      | cons c0 r =>
        cases r with
        | nil => exact ⟨c0, rfl, (List.cons.inj e1).1⟩
        | cons d r => cases (List.cons.inj e1).2
    obtain ⟨c0, e3, e2⟩ := one
    rw [e3]
    exact .cons (by rw [hcl, e2, List.lookup_cons, beq_self_eq_true]) .nil
end
end Fs

namespace Fs
open PySem PySem.Spec PyProof.Rows L2
/-! ### dicts with pairs as keys: length, kind -/
section
variable {K : PySem.W.Frag} {F : List (V × D)} {M : List ME} {H : Hp} {Q : VK} {p : Addr} {kvs : List (List Key × D)}
theorem IsP.len {I : Hp} {κ : Type} : ∀ {vs : List (κ × V)} {ds : List (κ × D)}, IsP I vs ds → vs.length = ds.length
  | _, _, .nil => rfl
  | _, _, .cons _ a => congrArg Nat.succ (IsP.len a)
theorem n_lenDT (w : Wf F H M) (h : .dt p kvs ∈ M) (q : Q (.int (kvs.length : Nat)) H) : rLenT [.ref p] H Q := by
  obtain ⟨I, Mc, vs, w, a, hF, hp, ha⟩ := w.dtAt h
  exact ⟨p, vs, rfl, hp, by rw [ha.len]; exact q⟩
theorem n_isiDT {b : String} {k : Bool} (w : Wf F H M) (h : .dt p kvs ∈ M) (hb : kitB "dict" b = some k) (q : Q (.bl k) H) : rIsiU K [.ref p, .ty b] H Q := by
  obtain ⟨I, Mc, vs, w, a, hF, hp, ha⟩ := w.dtAt h
  exact .inl ⟨.ref p, .ty b, _, _, k, rfl, .ty b, .base (.dT hp), hb, q⟩
end
/-! ### x is True, x is not False; d.get(k) -/
def IsBQ (b : Bool) (Q : VK) (x : V) (H : Hp) : Prop := ∃ c, x = .bl c ∧ Q (.bl (c == b)) H
def NotBQ (b : Bool) (Q : VK) (x : V) (H : Hp) : Prop := ∃ c, x = .bl c ∧ Q (.bl (c != b)) H
def tIsB (b : Bool) (ta : TE) : TE := fun σ H Q => ta σ H fun x H1 => IsBQ b Q x H1
def tNotB (b : Bool) (ta : TE) : TE := fun σ H Q => ta σ H fun x H1 => NotBQ b Q x H1
section
variable {X : Cx} {a : Expr} {ta : TE} {b c : Bool}
theorem pc_isB {j pos'} (ha : PE X a ta) : PC X .Is a (.Constant (.bool b) j pos') (tIsB b ta) := by
  refine ⟨fun pins s σ H Q I h => ?_⟩
  refine thn (ha.run pins s σ H _ I h) fun v s1 ⟨x, H1, I1, r1, c, e, q1⟩ => ?_
  subst e
  cases r1
  exact Constant_bool (is_bool ⟨.bl _, H1, I1, rfl, q1⟩)
theorem pc_notB {j pos'} (ha : PE X a ta) : PC X .IsNot a (.Constant (.bool b) j pos') (tNotB b ta) := by
  refine ⟨fun pins s σ H Q I h => ?_⟩
  refine thn (ha.run pins s σ H _ I h) fun v s1 ⟨x, H1, I1, r1, c, e, q1⟩ => ?_
  subst e
  cases r1
  exact Constant_bool (isnot_bool ⟨.bl _, H1, I1, rfl, q1⟩)
end
section
variable {K : PySem.W.Frag} {F : List (V × D)} {M : List ME} {H : Hp} {Q : VK} {σ : L2.St} {ta ty : TE} {b c : Bool} {p : Addr} {kvs : List (List Key × D)} {k : List Key} {y : V}
theorem s_isB (h : ta σ H fun x H1 => IsBQ b Q x H1) : tIsB b ta σ H Q := h
theorem s_notB (h : ta σ H fun x H1 => NotBQ b Q x H1) : tNotB b ta σ H Q := h
theorem s_isBt (h : Q (.bl c) H) : IsBQ true Q (.bl c) H := ⟨c, rfl, by cases c <;> exact h⟩
theorem s_isBf (h : Q (.bl (!c)) H) : IsBQ false Q (.bl c) H := ⟨c, rfl, by cases c <;> exact h⟩
theorem s_notBt (h : Q (.bl (!c)) H) : NotBQ true Q (.bl c) H := ⟨c, rfl, by cases c <;> exact h⟩
theorem s_notBf (h : Q (.bl c) H) : NotBQ false Q (.bl c) H := ⟨c, rfl, by cases c <;> exact h⟩
/-- d.get(k) of a dict with tuples as keys -/
def DG1 (ty : TE) (σ : L2.St) (Q : VK) (x : V) (H : Hp) : Prop := ∃ a, x = .ref a ∧ IsD H a ∧ ty σ H fun y H2 => ∃ o, DGet H2 a y o ∧ Q (o.getD .non) H2
def DG1Q (Q : VK) (p : Addr) (y : V) (H : Hp) : Prop := ∃ o, DGet H p y o ∧ Q (o.getD .non) H
theorem s_dget1 (h : ta σ H fun x H1 => DG1 ty σ Q x H1) : tDGet1 ta ty σ H Q := h
theorem n_dgetM (w : Wf F H M) (h : .dt p kvs ∈ M) (q : ty σ H fun y H2 => DG1Q Q p y H2) : DG1 ty σ Q (.ref p) H := by
  obtain ⟨I, Mc, vs, w, a, hF, hp, ha⟩ := w.dtAt h
  exact ⟨p, rfl, .inr ⟨vs, .inl hp⟩, q⟩
theorem n_dgetO (w : Wf F H M) (h : .dt p kvs ∈ M) (hy : Rk F M y (.tup (k.map keyD))) (q : ∀ u, Wf ((u, (getP kvs k).getD .non) :: F) H M → Q u H) : DG1Q Q p y H := by
  obtain ⟨b, rfl, hb⟩ := w.keyT hy
  obtain ⟨I, Mc, vs, w, a, hF, hp, ha⟩ := w.dtAt h
  refine ⟨_, DGet.t hp hb, ?_⟩
  rcases ha.get (k := k) with ⟨h1, h2⟩ | ⟨v, d', h1, h2, h3⟩
  · rw [h2]
    rw [h1] at q
    exact q _ (.cons w a hF .non)
  · rw [h1]
    rw [h2] at q
    exact q v (.cons w a hF h3)
/-- what is known goes over to more facts -/
theorem Rk.ks {F FX : List (V × D)} {M : List ME} {v : V} {d : D} (h : Rk F M v d) (k : KS F FX) (hd : (∃ n, d = .ref n) ∨ (∃ n, d = .ty n) → False) : Rk FX M v d := by
  cases h with
  | mem h => exact .of (k _ h) hd
  | int n => exact .int n
  | bl n => exact .bl n
  | str n => exact .str n
  | non => exact .non
  | ml h => exact .ml h
  | mi h => exact .mi h
/-- k in a dict that is walked -/
theorem n_dinTF {P : Bool → Prop} {vs : List (List Key × V)} {od : Obj} {d : D} (w : Wf F H M) (h : .raw p (.frz od (.dT vs)) ∈ M) (hk : KnP F vs kvs) (hy : Rk F M y (.tup (k.map keyD))) (hd : getP kvs k = some d) (q : P true) : DInQ P (.ref p) y H := by
  obtain ⟨b, rfl, hb⟩ := w.keyT hy
  obtain ⟨v, h1, h2⟩ := hk.get hd
  exact ⟨p, some v, rfl, .inr ⟨vs, k, b, .inr ⟨od, w.rawAt h⟩, rfl, hb, h1.symm⟩, q⟩
end
/-! ### calls with keywords and calls of methods, the cells shown -/
def tCalKC (X : Cx) (js : List Nat) (n m : Nat) (sp : Sp) (gV : List V → List V → List V) (t tk : TA) : TE := fun σ H Q => t σ H fun vs H1 => tk σ H1 fun zs H2 => vs.length = n ∧ zs.length = m ∧ ShowQ X js sp (gV vs zs) σ H2 Q
theorem s_calKC {X : Cx} {js : List Nat} {n m : Nat} {sp : Sp} {gV : List V → List V → List V} {t tk : TA} {σ : L2.St} {H : Hp} {Q : VK} (h : t σ H fun vs H1 => tk σ H1 fun zs H2 => vs.length = n ∧ zs.length = m ∧ ShowQ X js sp (gV vs zs) σ H2 Q) : tCalKC X js n m sp gV t tk σ H Q := h
def tMethC (X : Cx) (js : List Nat) (C : Addr) (m : Str) (sp : Sp) (dvs : List V) (to : TE) (t : TA) : TE := fun σ H Q => to σ H fun x H1 => MethQ C m x H1 (t σ H1 fun vs H2 => ShowQ X js sp (x :: (vs ++ dvs)) σ H2 Q)
theorem s_methC {X : Cx} {js : List Nat} {C : Addr} {m : Str} {sp : Sp} {dvs : List V} {to : TE} {t : TA} {σ : L2.St} {H : Hp} {Q : VK} (h : to σ H fun x H1 => MethQ C m x H1 (t σ H1 fun vs H2 => ShowQ X js sp (x :: (vs ++ dvs)) σ H2 Q)) : tMethC X js C m sp dvs to t σ H Q := h
section
variable {X : Cx} {x m : Str} {C : Addr} {p pos apos : Pos} {e o : Expr} {es : List Expr} {kws : List Keyword} {t tk : TA} {ta : TE} {k n : Nat} {ps ks : List Str} {dvs : List V} {gV : List V → List V → List V} {sp : Sp} {js : List Nat}
theorem pe_calKC (c : CalK X.prog X.w X.K X.mg X.base x k ps n ks gV sp) (hr : Room k X.A) (hg : Gl X x) (hc : Celled X js) (ha : PA X (e :: es) t) (hkw : PK X kws tk)
    (hall : (backToKw pos (keywordEach kws X.env)).all (·.1.isSome) = true := by rfl) (hks : (backToKw pos (keywordEach kws X.env)).filterMap (·.1) = ks := by rfl) (hdb : (x == ("__debug__" : Str)) = false := by decide)
    (he : starEach (e :: es) X.env = (false, eval e X.env) :: starEach es X.env := by rfl) (hpl : ((backTo pos (starEach (e :: es) X.env)).any (·.1) || (backToKw pos (keywordEach kws X.env)).any (·.1.isNone)) = false := by rfl) :
    PE X (.Call (.Name x p) (e :: es) kws pos) (tCalKC X js n ks.length sp gV t tk) := by
  obtain ⟨f, fd, g, F, hm, hk, hb⟩ := c.ex
  refine ⟨fun pins s σ H Q J h => ?_⟩
  refine wpAny_Call_Name_kw (ld_glob J hg hm ?_ hdb)
  refine PySem.W.callWith_KW (h₀ := X.base) J.ok.mod.kin hk hall (thn (ha.run pos pins s σ H _ J h) fun us s1 ⟨vs, H1, J1, r, q⟩ => ?_) hpl he
  refine thn (hkw.run pos pins s1 σ H1 _ J1 q) fun ws s2 ⟨zs, H2, J2, rz, l1, l2, q2⟩ => ⟨J2.kIn, ?_⟩
  rw [hks]
  obtain ⟨cs, c1, c2, c3⟩ := cells_are J2 hc q2.1
  have q := q2.2 cs c1 c2.nd c3
  have r2 := hb.rel r rz
  refine wpAny_call (codeAny_mono (F.run X.A X.stack s2 (addC cs H2) ⟨us, ks.zip ws⟩ (g us ws) (gV vs zs) _ E0 hr (env0_add J2.env0 c2 c3) (hb.to s2 us ws J2.kIn (r.length.symm.trans l1) (rz.length.symm.trans l2)) r2 q) fun z s' hz => ?_)
  match z, hz with
  | .ok (.ret u), hz => exact J2.after (ce_cut c2 c3 hz)
  | .ok .next, hz => exact False.elim hz
  | .ok .brk, hz => exact False.elim hz
  | .ok .cont, hz => exact False.elim hz
  | .error er, hz => exact False.elim hz
theorem pe_metC {pl : Sem Bool} (he : PE X o ta) (c : Met X.prog X.w X.K X.mg X.base m C k ps dvs sp) (hr : Room k X.A) (hc : Celled X js) (ha : PA X (e :: es) t)
    (hst : starEach (e :: es) X.env = (false, eval e X.env) :: starEach es X.env := by rfl) (hpl : (backTo pos (starEach es X.env)).any (·.1) = false := by rfl)
    (ht : eval (.Call (.Attribute o m apos) (e :: es) [] pos) X.env = (do
      let ov ← eval o X.env
      standAt apos.atName
      let (f, first) ← holding [ov] (getMethod ov m pl)
      callWith pos f first (backTo pos (starEach (e :: es) X.env)) (backToKw pos (keywordEach [] X.env))) := by rfl) :
    PE X (.Call (.Attribute o m apos) (e :: es) [] pos) (tMethC X js C m sp dvs ta t) := by
  obtain ⟨f, fd, ds, c, hm, F, hb, hd⟩ := c.ex
  refine ⟨fun pins s σ H Q I h => ?_⟩
  refine PySem.W.methodCall_KW (pl := pl) (thn (he.run pins s σ H _ I h) fun u s1 ⟨x, H1, I1, rx, a, dx, fs, ex, ea, l, q⟩ => ?_) ht
  subst ex
  obtain rfl : u = Value.ref a := rx
  refine getmeth_ok I1 ea c hm l ?_
  refine PySem.W.callWith_K (first := [.ref a]) (h₀ := X.base) I.ok.mod.kin hm.kp (thn (ha.run pos pins s1 σ H1 _ I1 q) fun us s2 ⟨vs, H2, I2, r, q2⟩ => ⟨I2.kIn, ?_⟩) hst hpl
  exact run_fnC (us := .ref a :: us) (vs := .ref a :: vs) F hr hb hd hc I2 (.cons rfl r) q2
theorem pe_met0C {pl : Sem Bool} (he : PE X o ta) (c : Met X.prog X.w X.K X.mg X.base m C k ps dvs sp) (hr : Room k X.A) (hc : Celled X js)
    (ht : eval (.Call (.Attribute o m apos) [] [] pos) X.env = (do
      let ov ← eval o X.env
      standAt apos.atName
      let (f, first) ← holding [ov] (getMethod ov m pl)
      callWith pos f first (backTo pos (starEach [] X.env)) (backToKw pos (keywordEach [] X.env))) := by rfl) :
    PE X (.Call (.Attribute o m apos) [] [] pos) (tMethC X js C m sp dvs ta tNil) := by
  obtain ⟨f, fd, ds, c, hm, F, hb, hd⟩ := c.ex
  refine ⟨fun pins s σ H Q I h => ?_⟩
  refine PySem.W.methodCall_KW (pl := pl) (thn (he.run pins s σ H _ I h) fun u s1 ⟨x, H1, I1, rx, a, dx, fs, ex, ea, l, q⟩ => ?_) ht
  subst ex
  obtain rfl : u = Value.ref a := rx
  refine getmeth_ok I1 ea c hm l ?_
  exact PySem.W.callWith_K0 (first := [.ref a]) I1.kIn hm.kp (run_fnC (us := [.ref a]) (vs := [.ref a]) F hr hb hd hc I1 (.cons rfl .nil) q)
end
end Fs

namespace Fs
open PySem PySem.Spec PyProof.Rows L2
local macro_rules | `(tactic| ktf_call "is") => `(tactic| (first | ((refine' Is.mono ?s ?h); (case s => assumption); (case h => ktf_call "is")) | fail))
local macro_rules | `(tactic| ktf_call "is") => `(tactic| exact Is.str _)
local macro_rules | `(tactic| ktf_call "is") => `(tactic| exact Is.non)
local macro_rules | `(tactic| ktf_call "is") => `(tactic| exact Is.bl _)
local macro_rules | `(tactic| ktf_call "is") => `(tactic| exact Is.int _)
local macro_rules | `(tactic| ktf_call "is") => `(tactic| assumption)
local macro_rules | `(tactic| ktf_call "isa") => `(tactic| assumption)
local macro_rules | `(tactic| ktf_call "isa") => `(tactic| (first | ((refine' IsA.cons ?x ?y); (case x => ktf_call "is"); (case y => ktf_call "isa")) | fail))
local macro_rules | `(tactic| ktf_call "isa") => `(tactic| exact IsA.nil)
local macro_rules | `(tactic| ktf_call "lst") => `(tactic| (first | ((refine' W.imm ?w _ _ ?h); (case w => assumption); (case h => assumption)) | fail))
local macro_rules | `(tactic| ktf_call "lst") => `(tactic| (first | exact W.at2 (by assumption) | fail))
local macro_rules | `(tactic| ktf_call "lst") => `(tactic| (first | exact W.at1 (by assumption) | fail))
local macro_rules | `(tactic| ktf_call "lst") => `(tactic| (first | exact W.at0 (by assumption) | fail))
local macro_rules | `(tactic| ktf_call "lst") => `(tactic| assumption)
local macro_rules | `(tactic| wtm_at "inv") => `(tactic| (intro u hu; first | (have e := Is.int_eq hu; subst e) | (have e := Is.bl_eq hu; subst e) | (have e := Is.non_eq hu; subst e) | (have e := Is.str_eq hu; subst e) | (have e := Is.ref_eq hu; subst e) | skip))
local macro_rules | `(tactic| ktr_call "o1" 0) => `(tactic| (first | with_reducible refine s_iteDn (by omega) ?_ | fail))
local macro_rules | `(tactic| ktr_call "o1" 0) => `(tactic| (first | with_reducible refine s_iteDp (by omega) ?_ | fail))
local macro_rules | `(tactic| ktr_call "o1" 0) => `(tactic| (first | with_reducible refine s_iteIn (by omega) ?_ | fail))
local macro_rules | `(tactic| ktr_call "o1" 0) => `(tactic| (first | with_reducible refine s_iteIp (by omega) ?_ | fail))
local macro_rules | `(tactic| ktr_call "o1" 0) => `(tactic| (first | ((with_reducible refine' s_I ?c ?_); (case c => first | exact cd64 (by omega) (by omega) | (show (0 : Int) < _; omega) | exact ⟨⟨by decide, by decide, by decide⟩, by decide⟩)) | fail))
local macro_rules | `(tactic| ktr_call "o1" 0) => `(tactic| (first | ((with_reducible refine' s_mul ?c ?_); (case c => exact cm64 (by omega) (by omega) (by omega) (by omega))) | fail))
local macro_rules | `(tactic| wtm_at "goo") => `(tactic| repeat (first | wtm_at "go0" | ktr_call "o1" 0))
local macro_rules | `(tactic| wtm_at "st") => `(tactic| (wtm_at "s1"; wtm_at "s1"))
local macro_rules | `(tactic| wtm_at "fork") => `(tactic| with_reducible refine s_ite (fun _ => ?_) (fun _ => ?_))
local macro_rules | `(tactic| wtm_at "fork") => `(tactic| with_reducible refine s_iteD (fun _ => ?_) (fun _ => ?_))
local macro_rules | `(tactic| wtm_at "fork") => `(tactic| with_reducible refine s_iteI (fun _ => ?_) (fun _ => ?_))
local macro_rules | `(tactic| ktf_call "kn0") => `(tactic| with_reducible exact Kn.ty _)
local macro_rules | `(tactic| ktf_call "kn0") => `(tactic| assumption)
local macro_rules | `(tactic| ktf_call "kn0") => `(tactic| (first | ((refine' Kn.mem ?h); (case h => ktf_call "mem")) | fail))
local macro_rules | `(tactic| ktf_call "kn0") => `(tactic| with_reducible exact Kn.non)
local macro_rules | `(tactic| ktf_call "kn0") => `(tactic| with_reducible exact Kn.str _)
local macro_rules | `(tactic| ktf_call "kn0") => `(tactic| with_reducible exact Kn.bl _)
local macro_rules | `(tactic| ktf_call "kn0") => `(tactic| with_reducible exact Kn.int _)
local macro_rules | `(tactic| ktf_call "kna0") => `(tactic| (first | ((refine' KnA.cons ?x ?y); (case x => ktf_call "kn0"); (case y => ktf_call "kna0")) | fail))
local macro_rules | `(tactic| ktf_call "kna0") => `(tactic| exact KnA.nil)
local macro_rules | `(tactic| ktf_call "kna") => `(tactic| (first | ((refine' KnA.cons ?x ?y); (case x => ktf_call "kn"); (case y => ktf_call "kna")) | fail))
local macro_rules | `(tactic| ktf_call "kna") => `(tactic| exact KnA.nil)
local macro_rules | `(tactic| ktf_call "rkF") => `(tactic| (first | ((with_reducible refine' Rk.moreF ?h); (case h => ktf_call "rkF")) | fail))
local macro_rules | `(tactic| ktf_call "rkF") => `(tactic| assumption)
local macro_rules | `(tactic| ktf_call "rkM") => `(tactic| (first | ((with_reducible refine' Rk.more ?h); (case h => ktf_call "rkM")) | fail))
local macro_rules | `(tactic| ktf_call "rkM") => `(tactic| ktf_call "rkF")
local macro_rules | `(tactic| ktf_call "rem") => `(tactic| (first | ((with_reducible refine' Rem.there ?h); (case h => ktf_call "rem")) | fail))
local macro_rules | `(tactic| ktf_call "rem") => `(tactic| with_reducible exact Rem.here)
local macro_rules | `(tactic| ktf_call "ks") => `(tactic| (first | ((with_reducible refine' KS.drop ?h); (case h => ktf_call "ks")) | fail))
local macro_rules | `(tactic| ktf_call "ks") => `(tactic| (first | ((with_reducible refine' KS.cons ?x ?y); (case x => ktf_call "kn"); (case y => ktf_call "ks")) | fail))
local macro_rules | `(tactic| ktf_call "ks") => `(tactic| with_reducible exact KS.nil)
local macro_rules | `(tactic| ktf_call "ks") => `(tactic| with_reducible exact KS.refl)
local macro_rules | `(tactic| ktf_call "sl") => `(tactic| (first | ((with_reducible refine' List.Sublist.cons _ ?h); (case h => ktf_call "sl")) | fail))
local macro_rules | `(tactic| ktf_call "sl") => `(tactic| (first | ((with_reducible refine' List.Sublist.cons_cons _ ?h); (case h => ktf_call "sl")) | fail))
local macro_rules | `(tactic| ktf_call "sl") => `(tactic| with_reducible exact List.nil_sublist _)
local macro_rules | `(tactic| ktf_call "sl") => `(tactic| with_reducible exact List.Sublist.refl _)
local macro_rules | `(tactic| wtm_at "wf") => `(tactic| (first | ((refine' Wf.sub ?w ?k ?s); (case w => assumption); (case k => ktf_call "ks"); (case s => ktf_call "sl")) | fail))
local macro_rules | `(tactic| wtm_at "wf") => `(tactic| assumption)
local macro_rules | `(tactic| wtm_at "wf1") => `(tactic| ((refine' Wf.sub ?w ?k ?s); (case w => assumption); (case k => refine' KS.cons (Kn.mem List.mem_cons_self) ?y; (case y => ktf_call "ks")); (case s => first | ktf_call "sl" | exact List.Sublist.refl _)))
local macro_rules | `(tactic| wtm_at "wfd") => `(tactic| ((refine' Wf.sub ?w ?k ?s); (case w => assumption); (case k => ktf_call "ks"); (case s => exact List.Sublist.refl _)))
local macro_rules | `(tactic| wtm_at "lc") => `(tactic| (simp only [List.length_cons, List.length_nil, List.length_map, List.length_append, List.length_singleton, List.length_reverse, List.length_set, List.length_replicate, List.length_range] at *; omega))
local macro_rules | `(tactic| wtm_at "c1") => `(tactic| fail)
local macro_rules | `(tactic| wtm_at "c0") => `(tactic| fail)
local macro_rules | `(tactic| ktn_call "n2" 0) => `(tactic| with_reducible refine s_iS ?_)
local macro_rules | `(tactic| ktn_call "n2" 0) => `(tactic| (first | ((with_reducible refine' s_iteDp ?h ?_); (case h => with_reducible exact rfl)) | fail))
local macro_rules | `(tactic| ktn_call "n2" 0) => `(tactic| with_reducible refine s_enum ?_)
local macro_rules | `(tactic| ktn_call "n2" 0) => `(tactic| with_reducible refine s_nput ?_)
local macro_rules | `(tactic| ktn_call "n2" 0) => `(tactic| with_reducible refine s_nnotin ?_)
local macro_rules | `(tactic| ktn_call "n2" 0) => `(tactic| with_reducible refine s_nget ?_)
local macro_rules | `(tactic| ktn_call "n2" 0) => `(tactic| with_reducible refine s_notBf ?_)
local macro_rules | `(tactic| ktn_call "n2" 0) => `(tactic| with_reducible refine s_notBt ?_)
local macro_rules | `(tactic| ktn_call "n2" 0) => `(tactic| with_reducible refine s_isBf ?_)
local macro_rules | `(tactic| ktn_call "n2" 0) => `(tactic| with_reducible refine s_isBt ?_)
local macro_rules | `(tactic| ktn_call "n2" 0) => `(tactic| with_reducible refine s_notB ?_)
local macro_rules | `(tactic| ktn_call "n2" 0) => `(tactic| with_reducible refine s_isB ?_)
local macro_rules | `(tactic| ktn_call "n2" 0) => `(tactic| with_reducible refine s_dget1 ?_)
local macro_rules | `(tactic| ktn_call "n2" 0) => `(tactic| with_reducible refine s_dput ?_)
local macro_rules | `(tactic| ktn_call "n2" 0) => `(tactic| with_reducible refine s_dnotin ?_)
local macro_rules | `(tactic| ktn_call "n2" 0) => `(tactic| with_reducible refine s_din ?_)
local macro_rules | `(tactic| ktn_call "n2" 0) => `(tactic| with_reducible refine s_dget ?_)
local macro_rules | `(tactic| wtm_at "no") => `(tactic| repeat (first | ktr_call "n0" 0 | ktr_call "o1" 0))
local macro_rules | `(tactic| wtm_at "na") => `(tactic| repeat (first | ktr_call "n0" 0 | ktr_call "o1" 0 | wtm_at "c1"))
local macro_rules | `(tactic| ktr_call "x1" 0) => `(tactic| (first | ((with_reducible refine' s_aug ?h ?_); (case h => exact rfl)) | fail))
local macro_rules | `(tactic| ktr_call "x1" 0) => `(tactic| with_reducible refine s_gcons ?_)
local macro_rules | `(tactic| ktr_call "x1" 0) => `(tactic| with_reducible refine s_gnil ?_)
local macro_rules | `(tactic| ktr_call "x1" 0) => `(tactic| with_reducible refine s_augS ?_)
local macro_rules | `(tactic| ktr_call "x1" 0) => `(tactic| with_reducible refine s_sfld ?_)
local macro_rules | `(tactic| ktr_call "x1" 0) => `(tactic| with_reducible refine s_gsub ?_)
local macro_rules | `(tactic| ktr_call "x1" 0) => `(tactic| with_reducible refine s_bm0 ?_)
local macro_rules | `(tactic| ktr_call "x1" 0) => `(tactic| with_reducible refine s_bm ?_)
local macro_rules | `(tactic| ktr_call "x1" 0) => `(tactic| with_reducible refine s_par2 ?_)
local macro_rules | `(tactic| ktr_call "x1" 0) => `(tactic| with_reducible refine s_par ?_)
local macro_rules | `(tactic| ktr_call "x1" 0) => `(tactic| with_reducible refine s_drop ?_)
local macro_rules | `(tactic| ktr_call "x1" 0) => `(tactic| with_reducible refine s_gname ?_)
local macro_rules | `(tactic| ktr_call "x1" 0) => `(tactic| with_reducible refine s_asg ?_)
local macro_rules | `(tactic| ktr_call "x1" 0) => `(tactic| with_reducible refine s_nil ?_)
local macro_rules | `(tactic| ktr_call "x1" 0) => `(tactic| with_reducible refine s_cons ?_)
local macro_rules | `(tactic| ktr_call "x1" 0) => `(tactic| with_reducible refine s_op ?_)
local macro_rules | `(tactic| ktr_call "x1" 0) => `(tactic| with_reducible refine s_c ?_)
local macro_rules | `(tactic| ktr_call "x1" 0) => `(tactic| (first | ((with_reducible refine' s_var ?h ?_); (case h => exact rfl)) | fail))
local macro_rules | `(tactic| wtm_at "st2") => `(tactic| repeat wtm_at "st0")
local macro_rules | `(tactic| wtm_at "kk") => `(tactic| repeat (first | with_reducible refine s_k ?_ | with_reducible refine iteT ?_ | with_reducible refine iteF ?_ | with_reducible refine s_iteN ?_))
local macro_rules | `(tactic| wtm_at "sq2") => `(tactic| repeat (first | ktr_call "x1" 0 | k_search "n1" | wtm_at "e1" | wtm_at "b1" | with_reducible refine s_seq ?_ | with_reducible refine s_next ?_))
local macro_rules | `(tactic| ktr_call "b2" 0) => `(tactic| (first | ((with_reducible refine s_iteIp ?h ?_); (case h => exact rfl)) | fail))
local macro_rules | `(tactic| ktr_call "b2" 0) => `(tactic| with_reducible refine s_nonN ?_)
local macro_rules | `(tactic| ktr_call "b2" 0) => `(tactic| with_reducible refine s_refN ?_)
local macro_rules | `(tactic| ktr_call "b2" 0) => `(tactic| with_reducible refine s_intN ?_)
local macro_rules | `(tactic| ktr_call "s2" 0) => `(tactic| with_reducible refine s_brk ?_)
local macro_rules | `(tactic| ktr_call "s2" 0) => `(tactic| with_reducible refine s_cnt ?_)
local macro_rules | `(tactic| ktr_call "s2" 0) => `(tactic| with_reducible refine s_iT ?_)
local macro_rules | `(tactic| ktr_call "s2" 0) => `(tactic| with_reducible refine s_iL ?_)
local macro_rules | `(tactic| ktr_call "s2" 0) => `(tactic| (first | ((with_reducible refine' s_aug ?h ?_); (case h => exact rfl)) | fail))
local macro_rules | `(tactic| ktr_call "s2" 0) => `(tactic| with_reducible refine s_zip ?_)
local macro_rules | `(tactic| ktr_call "s2" 0) => `(tactic| with_reducible refine s_rng2 ?_)
local macro_rules | `(tactic| ktr_call "s2" 0) => `(tactic| with_reducible refine s_rng1 ?_)
local macro_rules | `(tactic| ktr_call "s2" 0) => `(tactic| with_reducible refine s_retN ?_)
local macro_rules | `(tactic| ktr_call "s2" 0) => `(tactic| with_reducible refine s_gcons ?_)
local macro_rules | `(tactic| ktr_call "s2" 0) => `(tactic| with_reducible refine s_gnil ?_)
local macro_rules | `(tactic| ktr_call "s2" 0) => `(tactic| (first | ((with_reducible refine' s_tyL ?h ?_); (case h => ktf_call "lst")) | fail))
local macro_rules | `(tactic| ktr_call "s2" 0) => `(tactic| (first | ((with_reducible refine' s_setW1 (by assumption) ?j ?_); (case j => exact rfl); (intro H' w')) | fail))
local macro_rules | `(tactic| ktr_call "s2" 0) => `(tactic| (first | ((with_reducible refine' s_setW0 (by assumption) ?j ?_); (case j => exact rfl); (intro H' w')) | fail))
local macro_rules | `(tactic| ktr_call "s2" 0) => `(tactic| with_reducible refine s_augS ?_)
local macro_rules | `(tactic| ktr_call "s2" 0) => `(tactic| with_reducible refine s_sfld ?_)
local macro_rules | `(tactic| ktr_call "s2" 0) => `(tactic| with_reducible refine s_gsub ?_)
local macro_rules | `(tactic| ktr_call "s2" 0) => `(tactic| with_reducible refine s_bm0 ?_)
local macro_rules | `(tactic| ktr_call "s2" 0) => `(tactic| with_reducible refine s_bm ?_)
local macro_rules | `(tactic| ktr_call "s2" 0) => `(tactic| with_reducible refine s_for ?_)
local macro_rules | `(tactic| ktr_call "s2" 0) => `(tactic| with_reducible refine s_par2 ?_)
local macro_rules | `(tactic| ktr_call "s2" 0) => `(tactic| with_reducible refine s_par ?_)
local macro_rules | `(tactic| ktr_call "s2" 0) => `(tactic| with_reducible refine s_drop ?_)
local macro_rules | `(tactic| ktn_call "e2" 0) => `(tactic| (first | ((with_reducible refine' s_isi (by assumption) ?h ?e ?k ?_); (case h => ktf_call "is"); (case e => exact rfl); (case k => first | exact kit_ii | exact kit_ib | exact kit_bi | exact kit_bb | exact kit_tt | exact kit_ll | decide +kernel)) | fail))
local macro_rules | `(tactic| ktn_call "e2" 0) => `(tactic| (first | ((with_reducible refine' s_ne ?h ?_); (case h => exact rfl)) | fail))
local macro_rules | `(tactic| ktn_call "e2" 0) => `(tactic| (first | ((with_reducible refine' s_eq ?h ?_); (case h => exact rfl)) | fail))
local macro_rules | `(tactic| ktn_call "e2" 0) => `(tactic| (first | ((with_reducible refine' s_I ?c ?_); (case c => exact ⟨⟨by decide, by decide, by decide⟩, by decide⟩)) | fail))
local macro_rules | `(tactic| ktn_call "e2" 0) => `(tactic| (first | ((with_reducible refine' s_lenM ?h ?_); (case h => ktf_call "lst")) | fail))
local macro_rules | `(tactic| ktn_call "e2" 0) => `(tactic| (first | ((with_reducible refine' s_lenL (by assumption) ?h ?_); (case h => ktf_call "is")) | fail))
local macro_rules | `(tactic| ktn_call "e2" 0) => `(tactic| (first | ((with_reducible refine' s_lenT (by assumption) ?h ?_); (case h => ktf_call "is")) | fail))
local macro_rules | `(tactic| ktn_call "e2" 0) => `(tactic| (first | ((with_reducible refine' s_fldI (by assumption) ?h ?c ?n ?f ?d ?_); (case h => ktf_call "is"); (case c => exact OwnC.cl (by assumption)); (case n => assumption); (case f => decide); (case d => exact rfl); wtm_at "inv") | fail))
local macro_rules | `(tactic| ktn_call "e2" 0) => `(tactic| (first | ((with_reducible refine' s_ixLM ?h ?d ?_); (case h => ktf_call "lst"); (case d => exact rfl)) | fail))
local macro_rules | `(tactic| ktn_call "e2" 0) => `(tactic| (first | ((with_reducible refine' s_ixM ?h ?d ?_); (case h => ktf_call "lst"); (case d => exact rfl)) | fail))
local macro_rules | `(tactic| ktn_call "e2" 0) => `(tactic| (first | ((with_reducible refine' s_ixL (by assumption) ?h ?d ?_); (case h => ktf_call "is"); (case d => exact rfl); wtm_at "inv") | fail))
local macro_rules | `(tactic| ktn_call "e2" 0) => `(tactic| (first | ((with_reducible refine' s_ixT (by assumption) ?h ?d ?_); (case h => ktf_call "is"); (case d => exact rfl); wtm_at "inv") | fail))
local macro_rules | `(tactic| ktn_call "e2" 0) => `(tactic| with_reducible refine s_ipI ?_)
local macro_rules | `(tactic| ktn_call "e2" 0) => `(tactic| with_reducible refine s_max2 ?_)
local macro_rules | `(tactic| ktn_call "e2" 0) => `(tactic| with_reducible refine s_min2 ?_)
local macro_rules | `(tactic| ktn_call "e2" 0) => `(tactic| with_reducible refine s_intI ?_)
local macro_rules | `(tactic| ktn_call "e2" 0) => `(tactic| with_reducible refine s_intB ?_)
local macro_rules | `(tactic| ktn_call "e2" 0) => `(tactic| with_reducible refine s_abs ?_)
local macro_rules | `(tactic| ktn_call "e2" 0) => `(tactic| with_reducible refine s_yes ?_)
local macro_rules | `(tactic| ktn_call "e2" 0) => `(tactic| with_reducible refine s_lcc ?_)
local macro_rules | `(tactic| ktn_call "e2" 0) => `(tactic| with_reducible refine s_part' ?_)
local macro_rules | `(tactic| ktn_call "e2" 0) => `(tactic| with_reducible refine s_part ?_)
local macro_rules | `(tactic| ktn_call "e2" 0) => `(tactic| with_reducible refine s_noP ?_)
local macro_rules | `(tactic| ktn_call "e2" 0) => `(tactic| with_reducible refine s_sl ?_)
local macro_rules | `(tactic| ktn_call "e2" 0) => `(tactic| with_reducible refine s_rev ?_)
local macro_rules | `(tactic| ktn_call "e2" 0) => `(tactic| with_reducible refine s_meth ?_)
local macro_rules | `(tactic| ktn_call "e2" 0) => `(tactic| with_reducible refine s_makeK ?_)
local macro_rules | `(tactic| ktn_call "e2" 0) => `(tactic| with_reducible refine s_make ?_)
local macro_rules | `(tactic| ktn_call "e2" 0) => `(tactic| with_reducible refine s_fldQ ?_)
local macro_rules | `(tactic| ktn_call "e2" 0) => `(tactic| with_reducible refine s_lst ?_)
local macro_rules | `(tactic| ktn_call "e2" 0) => `(tactic| with_reducible refine s_tup ?_)
local macro_rules | `(tactic| ktn_call "e2" 0) => `(tactic| with_reducible refine s_notN ?_)
local macro_rules | `(tactic| ktn_call "e2" 0) => `(tactic| with_reducible refine s_isN ?_)
local macro_rules | `(tactic| ktn_call "e2" 0) => `(tactic| with_reducible refine s_chain ?_)
local macro_rules | `(tactic| ktn_call "e2" 0) => `(tactic| with_reducible refine s_if ?_)
local macro_rules | `(tactic| ktn_call "e2" 0) => `(tactic| with_reducible refine s_notV ?_)
local macro_rules | `(tactic| ktn_call "e2" 0) => `(tactic| with_reducible refine s_orV ?_)
local macro_rules | `(tactic| ktn_call "e2" 0) => `(tactic| with_reducible refine s_andV ?_)
local macro_rules | `(tactic| ktn_call "e2" 0) => `(tactic| with_reducible refine s_or ?_)
local macro_rules | `(tactic| ktn_call "e2" 0) => `(tactic| with_reducible refine s_and ?_)
local macro_rules | `(tactic| ktn_call "e2" 0) => `(tactic| with_reducible refine s_not ?_)
local macro_rules | `(tactic| ktn_call "e2" 0) => `(tactic| with_reducible refine s_fldVC ?_)
local macro_rules | `(tactic| ktn_call "e2" 0) => `(tactic| with_reducible refine s_methC ?_)
local macro_rules | `(tactic| ktn_call "e2" 0) => `(tactic| with_reducible refine s_calKC ?_)
local macro_rules | `(tactic| ktn_call "e2" 0) => `(tactic| with_reducible refine s_calC ?_)
local macro_rules | `(tactic| ktn_call "e2" 0) => `(tactic| with_reducible refine s_B ?_)
local macro_rules | `(tactic| ktn_call "e2" 0) => `(tactic| with_reducible refine s_un ?_)
local macro_rules | `(tactic| ktn_call "e2" 0) => `(tactic| with_reducible refine s_U ?_)
local macro_rules | `(tactic| tbr_iter "ef") => `(tactic| with_reducible refine s_add ?_)
local macro_rules | `(tactic| tbr_iter "ef") => `(tactic| with_reducible refine s_I0 ?_)
local macro_rules | `(tactic| tbr_iter "ef") => `(tactic| with_reducible refine s_cb ?_)
local macro_rules | `(tactic| tbr_iter "ef") => `(tactic| with_reducible refine s_makeX ?_)
local macro_rules | `(tactic| tbr_iter "ef") => `(tactic| with_reducible refine s_callN ?_)
local macro_rules | `(tactic| tbr_iter "ef") => `(tactic| with_reducible refine s_callS ?_)
local macro_rules | `(tactic| tbr_iter "ef") => `(tactic| with_reducible refine s_call ?_)
local macro_rules | `(tactic| tbr_iter "ef") => `(tactic| with_reducible refine s_k ?_)
local macro_rules | `(tactic| tbr_iter "ef") => `(tactic| with_reducible refine s_test ?_)
local macro_rules | `(tactic| tbr_iter "ef") => `(tactic| with_reducible refine s_nil ?_)
local macro_rules | `(tactic| tbr_iter "ef") => `(tactic| with_reducible refine s_cons ?_)
local macro_rules | `(tactic| tbr_iter "ef") => `(tactic| with_reducible refine s_op ?_)
local macro_rules | `(tactic| tbr_iter "ef") => `(tactic| with_reducible refine s_c ?_)
local macro_rules | `(tactic| tbr_iter "ef") => `(tactic| (first | ((with_reducible refine' s_var ?h ?_); (case h => exact rfl)) | fail))
local macro_rules | `(tactic| tbr_iter "sf") => `(tactic| with_reducible refine s_ret ?_)
local macro_rules | `(tactic| tbr_iter "sf") => `(tactic| with_reducible refine s_next ?_)
local macro_rules | `(tactic| tbr_iter "sf") => `(tactic| with_reducible refine s_ifS ?_)
local macro_rules | `(tactic| tbr_iter "sf") => `(tactic| with_reducible refine s_gname ?_)
local macro_rules | `(tactic| tbr_iter "sf") => `(tactic| with_reducible refine s_asg ?_)
local macro_rules | `(tactic| tbr_iter "sf") => `(tactic| with_reducible refine s_seq ?_)
local macro_rules | `(tactic| tbr_iter "bf") => `(tactic| with_reducible refine s_iteN ?_)
local macro_rules | `(tactic| tbr_iter "bf") => `(tactic| with_reducible refine iteF ?_)
local macro_rules | `(tactic| tbr_iter "bf") => `(tactic| with_reducible refine iteT ?_)
local macro_rules | `(tactic| wtm_at "e1") => `(tactic| ktn_call "e2" 0)
local macro_rules | `(tactic| wtm_at "e1") => `(tactic| tbr_iter "ef")
local macro_rules | `(tactic| wtm_at "s1") => `(tactic| ktr_call "s2" 0)
local macro_rules | `(tactic| wtm_at "s1") => `(tactic| tbr_iter "sf")
local macro_rules | `(tactic| wtm_at "b1") => `(tactic| ktr_call "b2" 0)
local macro_rules | `(tactic| wtm_at "b1") => `(tactic| tbr_iter "bf")
local macro_rules | `(tactic| wtm_at "st0") => `(tactic| wtm_at "b1")
local macro_rules | `(tactic| wtm_at "st0") => `(tactic| ktn_call "e2" 0)
local macro_rules | `(tactic| wtm_at "st0") => `(tactic| tbr_iter "ef")
local macro_rules | `(tactic| wtm_at "st0") => `(tactic| k_search "n1")
local macro_rules | `(tactic| wtm_at "st0") => `(tactic| ktr_call "x1" 0)
local macro_rules | `(tactic| wtm_at "go0") => `(tactic| ktr_call "b2" 0)
local macro_rules | `(tactic| wtm_at "go0") => `(tactic| ktr_call "s2" 0)
local macro_rules | `(tactic| wtm_at "go0") => `(tactic| ktn_call "e2" 0)
local macro_rules | `(tactic| wtm_at "go0") => `(tactic| tbr_iter "f1")
local macro_rules | `(tactic| wtm_at "go") => `(tactic| repeat wtm_at "go0")
local macro_rules | `(tactic| ktf_call "kn") => `(tactic| exact Kn.ref _)
local macro_rules | `(tactic| ktf_call "kn") => `(tactic| exact Kn.ty _)
local macro_rules | `(tactic| ktf_call "kn") => `(tactic| assumption)
local macro_rules | `(tactic| ktf_call "kn") => `(tactic| (first | ((refine' Kn.mem ?h); (case h => ktf_call "mem")) | fail))
local macro_rules | `(tactic| ktf_call "kn") => `(tactic| with_reducible exact Kn.non)
local macro_rules | `(tactic| ktf_call "kn") => `(tactic| with_reducible exact Kn.str _)
local macro_rules | `(tactic| ktf_call "kn") => `(tactic| with_reducible exact Kn.bl _)
local macro_rules | `(tactic| ktf_call "kn") => `(tactic| with_reducible exact Kn.int _)
local macro_rules | `(tactic| ktf_call "foc") => `(tactic| (first | ((with_reducible refine' Foc.there ?h); (case h => ktf_call "foc")) | fail))
local macro_rules | `(tactic| ktf_call "foc") => `(tactic| with_reducible exact Foc.here)
local macro_rules | `(tactic| ktf_call "rk") => `(tactic| ktf_call "rkM")
local macro_rules | `(tactic| ktf_call "rk") => `(tactic| (first | ((with_reducible refine' Rk.mi ?h); (case h => ktf_call "mem")) | fail))
local macro_rules | `(tactic| ktf_call "rk") => `(tactic| (first | ((with_reducible refine' Rk.ml ?h); (case h => ktf_call "mem")) | fail))
local macro_rules | `(tactic| ktf_call "rk") => `(tactic| (first | ((refine' Rk.mem ?h); (case h => ktf_call "mem")) | fail))
local macro_rules | `(tactic| ktf_call "rk") => `(tactic| with_reducible exact Rk.non)
local macro_rules | `(tactic| ktf_call "rk") => `(tactic| with_reducible exact Rk.str _)
local macro_rules | `(tactic| ktf_call "rk") => `(tactic| with_reducible exact Rk.bl _)
local macro_rules | `(tactic| ktf_call "rk") => `(tactic| with_reducible exact Rk.int _)
local macro_rules | `(tactic| ktf_call "mem") => `(tactic| (first | ((with_reducible refine' List.mem_cons_of_mem _ ?h); (case h => ktf_call "mem")) | fail))
local macro_rules | `(tactic| ktf_call "mem") => `(tactic| assumption)
local macro_rules | `(tactic| ktf_call "mem") => `(tactic| with_reducible exact List.mem_cons_self)
local macro_rules | `(tactic| k_search "n1") => `(tactic| (first | ((with_reducible refine' n_sf (by assumption) ?f ?h ?c ?n ?z ?g ?_); (case f => ktf_call "foc"); (case h => ktf_call "kn"); (case c => exact OwnC.cl (by assumption)); (case n => assumption); (case z => decide); (case g => first | decide | (simp; done)); (intro H' w')) | fail))
local macro_rules | `(tactic| k_search "n1") => `(tactic| (first | ((with_reducible refine' n_meth (by assumption) ?h ?m ?_); (case h => ktf_call "rk"); (case m => first | decide | (simp only [List.map_cons, List.map_nil]; decide))) | fail))
local macro_rules | `(tactic| k_search "n1") => `(tactic| (first | ((with_reducible refine' n_fld (by assumption) ?h ?c ?n ?f ?d ?_); (case h => ktf_call "rk"); (case c => exact OwnC.cl (by assumption)); (case n => assumption); (case f => decide); (case d => exact rfl); (intro u w')) | fail))
local macro_rules | `(tactic| k_search "n1") => `(tactic| (first | ((with_reducible refine' n_fldn (by assumption) ?h ?c ?n ?f ?d ?_); (case h => ktf_call "rk"); (case c => exact OwnC.cl (by assumption)); (case n => assumption); (case f => decide); (case d => exact rfl)) | fail))
local macro_rules | `(tactic| k_search "n1") => `(tactic| (first | ((with_reducible refine' n_fldr (by assumption) ?h ?c ?n ?f ?d ?_); (case h => ktf_call "rk"); (case c => exact OwnC.cl (by assumption)); (case n => assumption); (case f => decide); (case d => exact rfl)) | fail))
local macro_rules | `(tactic| k_search "n1") => `(tactic| (first | ((with_reducible refine' n_fldi (by assumption) ?h ?c ?n ?f ?d ?_); (case h => ktf_call "rk"); (case c => exact OwnC.cl (by assumption)); (case n => assumption); (case f => decide); (case d => exact rfl)) | fail))
local macro_rules | `(tactic| k_search "n1") => `(tactic| (first | ((with_reducible refine' n_isi (by assumption) ?h ?e ?k ?_); (case h => ktf_call "rk"); (case e => exact rfl); (case k => first | exact kit_ii | exact kit_ib | exact kit_bi | exact kit_bb | exact kit_tt | exact kit_ll | decide +kernel)) | fail))
local macro_rules | `(tactic| k_search "n1") => `(tactic| (first | ((with_reducible refine' n_rev (by assumption) ?h ?_); (case h => ktf_call "rk"); (intro p H' w')) | fail))
local macro_rules | `(tactic| k_search "n1") => `(tactic| (first | ((with_reducible refine' n_listT (by assumption) ?h ?_); (case h => ktf_call "rk"); (intro p H' w')) | fail))
local macro_rules | `(tactic| k_search "n1") => `(tactic| (first | ((with_reducible refine' n_list (by assumption) ?h ?_); (case h => ktf_call "rk"); (intro p H' w')) | fail))
local macro_rules | `(tactic| k_search "n1") => `(tactic| (first | ((with_reducible refine' n_sl (by assumption) ?h ?_); (case h => ktf_call "rk"); (intro p H' w')) | fail))
local macro_rules | `(tactic| k_search "n1") => `(tactic| (first | ((with_reducible refine' n_set (by assumption) ?f ?h ?z ?_); (case f => ktf_call "foc"); (case h => ktf_call "kn"); (case z => exact rfl); (intro H' w')) | fail))
local macro_rules | `(tactic| k_search "n1") => `(tactic| (first | ((with_reducible refine' n_clear (by assumption) ?f ?_); (case f => ktf_call "foc"); (intro H' w')) | fail))
local macro_rules | `(tactic| k_search "n1") => `(tactic| (first | ((with_reducible refine' n_app (by assumption) ?f ?h ?z ?_); (case f => ktf_call "foc"); (case h => ktf_call "kn0"); (case z => first | omega | (simp; done) | (simp; omega)); (intro H' w')) | fail))
local macro_rules | `(tactic| k_search "n1") => `(tactic| (first | ((with_reducible refine' n_tyL (by assumption) ?h ?_); (case h => ktf_call "mem")) | fail))
local macro_rules | `(tactic| k_search "n1") => `(tactic| (first | ((with_reducible refine' n_gtup4 (by assumption) ?h ?_); (case h => ktf_call "rk"); (intro x y z u w')) | fail))
local macro_rules | `(tactic| k_search "n1") => `(tactic| (first | ((with_reducible refine' n_gtup3 (by assumption) ?h ?_); (case h => ktf_call "rk"); (intro x y z w')) | fail))
local macro_rules | `(tactic| k_search "n1") => `(tactic| (first | ((with_reducible refine' n_gtup2 (by assumption) ?h ?_); (case h => ktf_call "rk"); (intro x y w')) | fail))
local macro_rules | `(tactic| k_search "n1") => `(tactic| (first | ((with_reducible refine' n_gtupIII (by assumption) ?h ?_); (case h => ktf_call "rk")) | fail))
local macro_rules | `(tactic| k_search "n1") => `(tactic| (first | ((with_reducible refine' n_gtupII (by assumption) ?h ?_); (case h => ktf_call "rk")) | fail))
local macro_rules | `(tactic| k_search "n1") => `(tactic| (first | ((with_reducible refine' n_newL (by assumption) ?a ?z ?_); (case a => ktf_call "kna0"); (case z => exact Nat.le_of_ble_eq_true rfl); (intro p H' w')) | fail))
local macro_rules | `(tactic| k_search "n1") => `(tactic| (first | ((with_reducible refine' n_newT (by assumption) ?a ?z ?_); (case a => ktf_call "kna0"); (case z => exact Nat.le_of_ble_eq_true rfl); (intro p H' w')) | fail))
local macro_rules | `(tactic| k_search "n1") => `(tactic| (first | ((with_reducible refine' n_lenT (by assumption) ?h ?_); (case h => ktf_call "rk")) | fail))
local macro_rules | `(tactic| k_search "n1") => `(tactic| (first | ((with_reducible refine' n_lenL (by assumption) ?h ?_); (case h => ktf_call "rk")) | fail))
local macro_rules | `(tactic| k_search "n1") => `(tactic| (first | ((with_reducible refine' n_ixL (by assumption) ?h ?d ?_); (case h => ktf_call "rk"); (case d => first | exact rfl | with_reducible exact atI_head | with_reducible exact atI_last _ _); (intro u w')) | fail))
local macro_rules | `(tactic| k_search "n1") => `(tactic| (first | ((with_reducible refine' n_ixT (by assumption) ?h ?d ?_); (case h => ktf_call "rk"); (case d => exact rfl); (intro u w')) | fail))
local macro_rules | `(tactic| k_search "n1") => `(tactic| (first | ((with_reducible refine' n_ixTn (by assumption) ?h ?d ?_); (case h => ktf_call "rk"); (case d => exact rfl)) | fail))
local macro_rules | `(tactic| k_search "n1") => `(tactic| (first | ((with_reducible refine' n_ixLr (by assumption) ?h ?d ?_); (case h => ktf_call "rk"); (case d => exact rfl)) | fail))
local macro_rules | `(tactic| k_search "n1") => `(tactic| (first | ((with_reducible refine' n_ixLi (by assumption) ?h ?d ?_); (case h => ktf_call "rk"); (case d => exact rfl)) | fail))
local macro_rules | `(tactic| k_search "n1") => `(tactic| (first | ((with_reducible refine' n_ixTr (by assumption) ?h ?d ?_); (case h => ktf_call "rk"); (case d => exact rfl)) | fail))
local macro_rules | `(tactic| k_search "n1") => `(tactic| (first | ((with_reducible refine' n_ixTi (by assumption) ?h ?d ?_); (case h => ktf_call "rk"); (case d => exact rfl)) | fail))
local macro_rules | `(tactic| tbr_iter "f1") => `(tactic| with_reducible refine s_ret ?_)
local macro_rules | `(tactic| tbr_iter "f1") => `(tactic| with_reducible refine s_add ?_)
local macro_rules | `(tactic| tbr_iter "f1") => `(tactic| with_reducible refine s_iteN ?_)
local macro_rules | `(tactic| tbr_iter "f1") => `(tactic| with_reducible refine s_next ?_)
local macro_rules | `(tactic| tbr_iter "f1") => `(tactic| with_reducible refine iteF ?_)
local macro_rules | `(tactic| tbr_iter "f1") => `(tactic| with_reducible refine iteT ?_)
local macro_rules | `(tactic| tbr_iter "f1") => `(tactic| with_reducible refine s_I0 ?_)
local macro_rules | `(tactic| tbr_iter "f1") => `(tactic| with_reducible refine s_cb ?_)
local macro_rules | `(tactic| tbr_iter "f1") => `(tactic| with_reducible refine s_makeX ?_)
local macro_rules | `(tactic| tbr_iter "f1") => `(tactic| with_reducible refine s_callN ?_)
local macro_rules | `(tactic| tbr_iter "f1") => `(tactic| with_reducible refine s_callS ?_)
local macro_rules | `(tactic| tbr_iter "f1") => `(tactic| with_reducible refine s_call ?_)
local macro_rules | `(tactic| tbr_iter "f1") => `(tactic| with_reducible refine s_k ?_)
local macro_rules | `(tactic| tbr_iter "f1") => `(tactic| with_reducible refine s_test ?_)
local macro_rules | `(tactic| tbr_iter "f1") => `(tactic| with_reducible refine s_ifS ?_)
local macro_rules | `(tactic| tbr_iter "f1") => `(tactic| with_reducible refine s_gname ?_)
local macro_rules | `(tactic| tbr_iter "f1") => `(tactic| with_reducible refine s_asg ?_)
local macro_rules | `(tactic| tbr_iter "f1") => `(tactic| with_reducible refine s_seq ?_)
local macro_rules | `(tactic| tbr_iter "f1") => `(tactic| with_reducible refine s_nil ?_)
local macro_rules | `(tactic| tbr_iter "f1") => `(tactic| with_reducible refine s_cons ?_)
local macro_rules | `(tactic| tbr_iter "f1") => `(tactic| with_reducible refine s_op ?_)
local macro_rules | `(tactic| tbr_iter "f1") => `(tactic| with_reducible refine s_c ?_)
local macro_rules | `(tactic| tbr_iter "f1") => `(tactic| (first | ((with_reducible refine' s_var ?h ?_); (case h => exact rfl)) | fail))
local macro_rules | `(tactic| ktr_call "n0" 0) => `(tactic| wtm_at "c0")
local macro_rules | `(tactic| ktr_call "n0" 0) => `(tactic| ktr_call "b2" 0)
local macro_rules | `(tactic| ktr_call "n0" 0) => `(tactic| ktr_call "s2" 0)
local macro_rules | `(tactic| ktr_call "n0" 0) => `(tactic| ktn_call "e2" 0)
local macro_rules | `(tactic| ktr_call "n0" 0) => `(tactic| ktn_call "n2" 0)
local macro_rules | `(tactic| ktr_call "n0" 0) => `(tactic| k_search "n1")
local macro_rules | `(tactic| ktr_call "n0" 0) => `(tactic| tbr_iter "f1")
local macro_rules | `(tactic| wtm_at "n") => `(tactic| repeat ktr_call "n0" 0)
section
variable {P : Program} {wd : World} {K : PySem.W.Frag} {mg : Str → Option Value} {base : Heap}
variable {C_Part C_Box C_Leaf C_Row C_Column C_Pad : Addr}
def top (i : Nat) : Stmt := PySem.Challenge.pw_fairsheet_k32_breadths_by_price.main.body.getD i (.Pass ⟨0, 0, 0, 0⟩)
abbrev s_is_whole : Stmt := top 14
theorem sc_is_whole : FnScope ["thing"] ["thing"] (defScope s_is_whole) := ⟨rfl, rfl, rfl, by decide +kernel, rfl, by decide +kernel, by decide +kernel⟩
def sp_is_whole (K : PySem.W.Frag) : Sp := fun vs H Q _ => ∃ I M v d, vs = [v] ∧ W I H M ∧ Is I v d ∧ TyK K d ∧ Q (.bl d.whole) H
theorem use_isI {K : PySem.W.Frag} {I H : Hp} {M : List (Addr × HO)} {n : Int} {Q : VK} {E : XK} (w : W I H M) (q : Q (.bl true) H) : sp_is_whole K ([.int n] ++ []) H Q E := ⟨I, M, _, _, rfl, w, .int n, .inl ⟨_, rfl⟩, q⟩
theorem use_isN {K : PySem.W.Frag} {I H : Hp} {M : List (Addr × HO)} {v : V} {d : D} {a : String} {Q : VK} {E : XK} (w : W I H M) (h : Is I v d) (ha : d.tn = some a) (hd : d.whole = false) (q : Q (.bl false) H) : sp_is_whole K ([v] ++ []) H Q E := ⟨I, M, _, _, rfl, w, h, .inl ⟨_, ha⟩, by rw [hd]; exact q⟩
theorem n_isw {K : PySem.W.Frag} {F : List (V × D)} {H : Hp} {M : List ME} {v : V} {d : D} {Q : VK} {E : XK} (w : Wf F H M) (hv : Rk F M v d) (ht : TyK K d) (q : Q (.bl d.whole) H) : sp_is_whole K ([v] ++ []) H Q E := ⟨H, [], v, d, rfl, W.self, w.rd hv, ht, q⟩
theorem n_isI {K : PySem.W.Frag} {n : Int} {H : Hp} {Q : VK} {E : XK} (q : Q (.bl true) H) : sp_is_whole K ([.int n] ++ []) H Q E := ⟨H, [], .int n, .int n, rfl, W.self, .int n, .inl ⟨_, rfl⟩, q⟩
local macro_rules | `(tactic| wtm_at "c0") => `(tactic| with_reducible refine n_isI ?_)

theorem ok_is_whole {f : Addr} {fd : FuncData} (F : Fun K "is_whole" "is_whole" s_is_whole f fd) (B : Bn mg)  : FnOk P wd K mg base CX0 1 f fd ["thing"] (sp_is_whole K) := by
  refine F.ok sc_is_whole (fun vs H Q E h => ?_) (fun cdv A outer s H vs Q E hr h => ?_)
  · obtain ⟨I, M, v, d, rfl, w, hv, ha, k⟩ := h
    all_goals rfl
  · obtain ⟨I, M, v, d, rfl, w, hv, ha, k⟩ := h
    refine ⟨_, (pss_one (ps_ret (pe_and (pe_callB (k_isi (K := K) rfl) (by rfl) B.isinstance_ (by decide +kernel) (pa_cons (pv 0) (pa_cons (pe_bltn (v := .ty "int") (by rfl) B.int_ (by decide +kernel) rfl) pa_nil))) (pe_one (pe_not (pe_callB (k_isi (K := K) rfl) (by rfl) B.isinstance_ (by decide +kernel) (pa_cons (pv 0) (pa_cons (pe_bltn (v := .ty "bool") (by rfl) B.bool_ (by decide +kernel) rfl) pa_nil)))))))), ?_⟩
    try dsimp only [cxOf, Cx.nox, Cx.wish, Cx.blk]
    rcases ha with ⟨a, ha⟩ | ⟨C, fs, rfl, oc, ki⟩
    · cases d with
      | int n => wtm_at "go"; exact k
      | bl n => wtm_at "go"; exact k
      | non => wtm_at "go"; exact k
      | str n => wtm_at "go"; exact k
      | tup n => wtm_at "go"; exact k
      | lst n => wtm_at "go"; exact k
      | ref n => cases ha
      | ty n => cases ha
      | obj n m => cases ha
      | fact _ => cases ha
      | dict => wtm_at "go"; exact k
    · wtm_at "go"
      refine s_isiO oc w hv ki ?_
      wtm_at "go"
      exact k
def D.upto (m : Int) : D → Bool
  | .int n => decide (0 ≤ n) && decide (n ≤ m)
  | _ => false
theorem upto_ok {n m : Int} (h0 : 0 ≤ n) (h1 : n ≤ m) : (D.int n).upto m = true := by simp [D.upto, h0, h1]

abbrev s_is_length : Stmt := top 15
theorem sc_is_length : FnScope ["thing"] ["thing"] (defScope s_is_length) := ⟨rfl, rfl, rfl, by decide +kernel, rfl, by decide +kernel, by decide +kernel⟩
def sp_is_length (K : PySem.W.Frag) : Sp := fun vs H Q _ => ∃ I M v d, vs = [v] ∧ W I H M ∧ Is I v d ∧ TyK K d ∧ Q (.bl (d.upto 1000000000000)) H
theorem use_is_length {K : PySem.W.Frag} {I H : Hp} {M : List (Addr × HO)} {n : Int} {Q : VK} {E : XK} (w : W I H M) (h0 : 0 ≤ n) (h1 : n ≤ 1000000000000) (q : Q (.bl true) H) : sp_is_length K ([.int n] ++ []) H Q E := ⟨I, M, _, _, rfl, w, .int n, .inl ⟨_, rfl⟩, by rw [upto_ok h0 h1]; exact q⟩

theorem ok_is_length {f : Addr} {fd : FuncData} (F : Fun K "is_length" "is_length" s_is_length f fd) (B : Bn mg) (c_is_whole : Cal P wd K mg base "is_whole" 1 ["thing"] [] (sp_is_whole K)) (g_LENGTH : ∃ t, mg "LENGTH" = some (.int 1000000000000 t))  : FnOk P wd K mg base CX0 2 f fd ["thing"] (sp_is_length K) := by
  refine F.ok sc_is_length (fun vs H Q E h => ?_) (fun cdv A outer s H vs Q E hr h => ?_)
  · obtain ⟨I, M, v, d, rfl, w, hv, ha, k⟩ := h
    all_goals rfl
  · obtain ⟨I, M, v, d, rfl, w, hv, ha, k⟩ := h
    refine ⟨_, (pss_one (ps_ret (pe_and (pe_cal c_is_whole (hr.mono (by decide)) (by rfl) (pa_cons (pv 0) pa_nil)) (pe_one (pe_chain op_le op_le pe_int (pv 0) (pe_globI (by rfl) g_LENGTH)))))), ?_⟩
    try dsimp only [cxOf, Cx.nox, Cx.wish, Cx.blk]
    wtm_at "go"
    refine ⟨I, M, _, _, rfl, w, hv, ha, ?_⟩
    cases d with
    | int n =>
      cases hv.int_eq
      dsimp only [D.whole]
      wtm_at "go"
      wtm_at "fork"
      · rename_i h1
        wtm_at "go"
        have e : (D.int n).upto 1000000000000 = decide (n ≤ 1000000000000) := by simp [D.upto, h1]
        rw [← e]; exact k
      · rename_i h1
        wtm_at "go"
        have e : (D.int n).upto 1000000000000 = false := by simp [D.upto, h1]
        rw [← e]; exact k
    | bl n => wtm_at "go"; exact k
    | non => wtm_at "go"; exact k
    | str n => wtm_at "go"; exact k
    | tup n => wtm_at "go"; exact k
    | lst n => wtm_at "go"; exact k
    | ref n => wtm_at "go"; exact k
    | ty n => wtm_at "go"; exact k
    | obj n m => wtm_at "go"; exact k
    | fact _ => wtm_at "go"; exact k
    | dict => wtm_at "go"; exact k
abbrev s_is_small : Stmt := top 16
theorem sc_is_small : FnScope ["thing"] ["thing"] (defScope s_is_small) := ⟨rfl, rfl, rfl, by decide +kernel, rfl, by decide +kernel, by decide +kernel⟩
def sp_is_small (K : PySem.W.Frag) : Sp := fun vs H Q _ => ∃ I M v d, vs = [v] ∧ W I H M ∧ Is I v d ∧ TyK K d ∧ Q (.bl (d.upto 1000000)) H
theorem use_is_small {K : PySem.W.Frag} {I H : Hp} {M : List (Addr × HO)} {n : Int} {Q : VK} {E : XK} (w : W I H M) (h0 : 0 ≤ n) (h1 : n ≤ 1000000) (q : Q (.bl true) H) : sp_is_small K ([.int n] ++ []) H Q E := ⟨I, M, _, _, rfl, w, .int n, .inl ⟨_, rfl⟩, by rw [upto_ok h0 h1]; exact q⟩

theorem ok_is_small {f : Addr} {fd : FuncData} (F : Fun K "is_small" "is_small" s_is_small f fd) (B : Bn mg) (c_is_whole : Cal P wd K mg base "is_whole" 1 ["thing"] [] (sp_is_whole K)) (g_SMALL : ∃ t, mg "SMALL" = some (.int 1000000 t))  : FnOk P wd K mg base CX0 2 f fd ["thing"] (sp_is_small K) := by
  refine F.ok sc_is_small (fun vs H Q E h => ?_) (fun cdv A outer s H vs Q E hr h => ?_)
  · obtain ⟨I, M, v, d, rfl, w, hv, ha, k⟩ := h
    all_goals rfl
  · obtain ⟨I, M, v, d, rfl, w, hv, ha, k⟩ := h
    refine ⟨_, (pss_one (ps_ret (pe_and (pe_cal c_is_whole (hr.mono (by decide)) (by rfl) (pa_cons (pv 0) pa_nil)) (pe_one (pe_chain op_le op_le pe_int (pv 0) (pe_globI (by rfl) g_SMALL)))))), ?_⟩
    try dsimp only [cxOf, Cx.nox, Cx.wish, Cx.blk]
    wtm_at "go"
    refine ⟨I, M, _, _, rfl, w, hv, ha, ?_⟩
    cases d with
    | int n =>
      cases hv.int_eq
      dsimp only [D.whole]
      wtm_at "go"
      wtm_at "fork"
      · rename_i h1
        wtm_at "go"
        have e : (D.int n).upto 1000000 = decide (n ≤ 1000000) := by simp [D.upto, h1]
        rw [← e]; exact k
      · rename_i h1
        wtm_at "go"
        have e : (D.int n).upto 1000000 = false := by simp [D.upto, h1]
        rw [← e]; exact k
    | bl n => wtm_at "go"; exact k
    | non => wtm_at "go"; exact k
    | str n => wtm_at "go"; exact k
    | tup n => wtm_at "go"; exact k
    | lst n => wtm_at "go"; exact k
    | ref n => wtm_at "go"; exact k
    | ty n => wtm_at "go"; exact k
    | obj n m => wtm_at "go"; exact k
    | fact _ => wtm_at "go"; exact k
    | dict => wtm_at "go"; exact k
abbrev s_is_weight : Stmt := top 17
theorem sc_is_weight : FnScope ["thing"] ["thing"] (defScope s_is_weight) := ⟨rfl, rfl, rfl, by decide +kernel, rfl, by decide +kernel, by decide +kernel⟩
def sp_is_weight (K : PySem.W.Frag) : Sp := fun vs H Q _ => ∃ I M v d, vs = [v] ∧ W I H M ∧ Is I v d ∧ TyK K d ∧ Q (.bl (d.upto 1000)) H
theorem use_is_weight {K : PySem.W.Frag} {I H : Hp} {M : List (Addr × HO)} {n : Int} {Q : VK} {E : XK} (w : W I H M) (h0 : 0 ≤ n) (h1 : n ≤ 1000) (q : Q (.bl true) H) : sp_is_weight K ([.int n] ++ []) H Q E := ⟨I, M, _, _, rfl, w, .int n, .inl ⟨_, rfl⟩, by rw [upto_ok h0 h1]; exact q⟩

theorem ok_is_weight {f : Addr} {fd : FuncData} (F : Fun K "is_weight" "is_weight" s_is_weight f fd) (B : Bn mg) (c_is_whole : Cal P wd K mg base "is_whole" 1 ["thing"] [] (sp_is_whole K)) (g_WEIGHT : ∃ t, mg "WEIGHT" = some (.int 1000 t))  : FnOk P wd K mg base CX0 2 f fd ["thing"] (sp_is_weight K) := by
  refine F.ok sc_is_weight (fun vs H Q E h => ?_) (fun cdv A outer s H vs Q E hr h => ?_)
  · obtain ⟨I, M, v, d, rfl, w, hv, ha, k⟩ := h
    all_goals rfl
  · obtain ⟨I, M, v, d, rfl, w, hv, ha, k⟩ := h
    refine ⟨_, (pss_one (ps_ret (pe_and (pe_cal c_is_whole (hr.mono (by decide)) (by rfl) (pa_cons (pv 0) pa_nil)) (pe_one (pe_chain op_le op_le pe_int (pv 0) (pe_globI (by rfl) g_WEIGHT)))))), ?_⟩
    try dsimp only [cxOf, Cx.nox, Cx.wish, Cx.blk]
    wtm_at "go"
    refine ⟨I, M, _, _, rfl, w, hv, ha, ?_⟩
    cases d with
    | int n =>
      cases hv.int_eq
      dsimp only [D.whole]
      wtm_at "go"
      wtm_at "fork"
      · rename_i h1
        wtm_at "go"
        have e : (D.int n).upto 1000 = decide (n ≤ 1000) := by simp [D.upto, h1]
        rw [← e]; exact k
      · rename_i h1
        wtm_at "go"
        have e : (D.int n).upto 1000 = false := by simp [D.upto, h1]
        rw [← e]; exact k
    | bl n => wtm_at "go"; exact k
    | non => wtm_at "go"; exact k
    | str n => wtm_at "go"; exact k
    | tup n => wtm_at "go"; exact k
    | lst n => wtm_at "go"; exact k
    | ref n => wtm_at "go"; exact k
    | ty n => wtm_at "go"; exact k
    | obj n m => wtm_at "go"; exact k
    | fact _ => wtm_at "go"; exact k
    | dict => wtm_at "go"; exact k
def isnm : D → Bool
  | .str z => decide (1 ≤ z.length ∧ z.length ≤ 8 ∧ ∀ c ∈ z.cps.toList, 97 ≤ c ∧ c ≤ 122)
  | _ => false
theorem letters_iff {c : Nat} : c ∈ (Str.cps ("abcdefghijklmnopqrstuvwxyz" : Str)).toList ↔ 97 ≤ c ∧ c ≤ 122 := by
  have e : (Str.cps ("abcdefghijklmnopqrstuvwxyz" : Str)).toList = [97, 98, 99, 100, 101, 102, 103, 104, 105, 106, 107, 108, 109, 110, 111, 112, 113, 114, 115, 116, 117, 118, 119, 120, 121, 122] := by decide +kernel
  rw [e]
  simp only [List.mem_cons, List.not_mem_nil, or_false]
  omega
/-- a text's signs seen so far are letters -/
def Ltr (z : Str) (i : Nat) : Prop := ∀ c ∈ z.cps.toList.take i, 97 ≤ c ∧ c ≤ 122
theorem Ltr.zero (z : Str) : Ltr z 0 := fun c h => by simp at h
theorem Ltr.next {z : Str} {i c : Nat} (h : Ltr z i) (e : z.cps.toList[i]? = some c) (hc : 97 ≤ c ∧ c ≤ 122) : Ltr z (i + 1) := fun k hk => by
  rw [List.take_add_one, e] at hk
  rcases List.mem_append.mp hk with q | q
  · exact h k q
  · simp at q; subst q; exact hc
theorem isnm_yes {z : Str} (h1 : 1 ≤ z.length) (h2 : z.length ≤ 8) (h : Ltr z z.length) : isnm (.str z) = true := decide_eq_true ⟨h1, h2, fun c hc => h c (by
  have e : z.length = z.cps.toList.length := by rw [Array.length_toList]; rfl
  rw [e, List.take_length]; exact hc)⟩
theorem isnm_no {z : Str} {i c : Nat} (e : z.cps.toList[i]? = some c) (hc : ¬ (97 ≤ c ∧ c ≤ 122)) : isnm (.str z) = false := decide_eq_false fun h => hc (h.2.2 c (List.mem_of_getElem? e))
theorem isnm_len {z : Str} (h : ¬ (1 ≤ z.length ∧ z.length ≤ 8)) : isnm (.str z) = false := decide_eq_false fun q => h ⟨q.1, q.2.1⟩

abbrev s_is_name : Stmt := top 18
theorem sc_is_name : FnScope ["thing", "sign"] ["thing"] (defScope s_is_name) := ⟨rfl, rfl, rfl, by decide +kernel, rfl, by decide +kernel, by decide +kernel⟩
def sp_is_name : Sp := fun vs H Q _ => ∃ F M v d, vs = [v] ∧ Wf F H M ∧ Rk F M v d ∧ Ty d ∧ (∀ z, d = .str z → z.length ≤ 100000) ∧ ∀ H', Wf F H' M → Q (.bl (isnm d)) H'
theorem n_isname {F : List (V × D)} {H : Hp} {M : List ME} {v : V} {d : D} {Q : VK} {E : XK} (w : Wf F H M) (hv : Rk F M v d) (ht : Ty d) (hz : ∀ z, d = .str z → z.length ≤ 100000) (q : ∀ H', Wf F H' M → Q (.bl (isnm d)) H') : sp_is_name ([v] ++ []) H Q E := ⟨F, M, v, d, rfl, w, hv, ht, hz, q⟩

theorem ok_is_name {f : Addr} {fd : FuncData} (F : Fun K "is_name" "is_name" s_is_name f fd) (B : Bn mg) (g_LONGEST : ∃ t, mg "LONGEST" = some (.int 8 t)) (g_LETTERS : ∃ t, mg "LETTERS" = some (.str "abcdefghijklmnopqrstuvwxyz" t))  : FnOk P wd K mg base CX0 1 f fd ["thing"] sp_is_name := by
  refine F.ok sc_is_name (fun vs H Q E h => ?_) (fun cdv A outer s H vs Q E hr h => ?_)
  · obtain ⟨F, M, v, d, rfl, w, hv, ⟨a, ha⟩, hz, k⟩ := h
    all_goals rfl
  · obtain ⟨F, M, v, d, rfl, w, hv, ⟨a, ha⟩, hz, k⟩ := h
    refine ⟨_, (pss_cons (ps_if (pw_or (pt_not (pt_val (pe_callB (k_isi (K := K) rfl) (by rfl) B.isinstance_ (by decide +kernel) (pa_cons (pv 0) (pa_cons (pe_bltn (v := .ty "str") (by rfl) B.str_ (by decide +kernel) rfl) pa_nil))))) (pw_or1 (pt_not (pt_chain op_le op_le pe_int (pe_callB (k_len (K := K) rfl) (by rfl) B.len_ (by decide +kernel) (pa_cons (pv 0) pa_nil)) (pe_globI (by rfl) g_LONGEST))))).pt (pss_one (ps_ret pe_bl)) pss_nil)
      (pss_cons (ps_for PassesOwn.never rfl (pi_str (pv 0)) (pg_name (i := 1) sc_is_name.nd rfl (Or.inl rfl)) (pss_one (ps_if (pt_cmpR u_niS (pv 1) (pe_globS rfl g_LETTERS) (by with_unfolding_all rfl)) (pss_one (ps_ret pe_bl)) pss_nil)))
      (pss_one (ps_ret pe_bl)))), ?_⟩
    try dsimp only [cxOf, Cx.nox, Cx.wish, Cx.blk]
    cases d with
    | str z =>
      have hl := hz z rfl
      cases (w.rd hv).str_eq
      wtm_at "n"
      refine s_lenS hl ?_
      wtm_at "n"
      wtm_at "fork"
      · wtm_at "n"
        wtm_at "fork"
        · wtm_at "n"
          first | refine s_iS ?_ | skip
          wtm_at "n"
          refine n_forS w (fun i σ' F' M' => Ltr z i ∧ F' = F ∧ M' = M ∧ ∃ x, σ' = [some (.str z), x]) ⟨Ltr.zero z, rfl, rfl, _, rfl⟩ ?_ ?_
          · rintro i c σ' H' F' M' hc ⟨hL, rfl, rfl, x, rfl⟩ w
            wtm_at "n"
            refine s_nis ?_
            wtm_at "n"
            wtm_at "fork"
            · rename_i hm
              wtm_at "n"
              exact ⟨_, _, ⟨hL.next hc (letters_iff.mp hm), rfl, rfl, _, rfl⟩, w⟩
            · rename_i hm
              wtm_at "n"
              rw [isnm_no hc fun q => hm (letters_iff.mpr q)] at k
              exact k _ (by assumption)
          · rintro σ' H' F' M' ⟨hL, rfl, rfl, x, rfl⟩ w
            wtm_at "n"
            rw [isnm_yes (by omega) (by omega) hL] at k
            exact k _ (by assumption)
        · wtm_at "n"
          rw [isnm_len (by omega)] at k
          exact k _ (by assumption)
      · wtm_at "n"
        rw [isnm_len (by omega)] at k
        exact k _ (by assumption)
    | int n => wtm_at "n"; exact k _ (by assumption)
    | bl n => wtm_at "n"; exact k _ (by assumption)
    | non => wtm_at "n"; exact k _ (by assumption)
    | tup n => wtm_at "n"; exact k _ (by assumption)
    | lst n => wtm_at "n"; exact k _ (by assumption)
    | ref n => cases ha
    | ty n => cases ha
    | obj n m => cases ha
    | fact _ => cases ha
    | dict => wtm_at "n"; exact k _ (by assumption)
abbrev s_divisor : Stmt := top 19
theorem sc_divisor : FnScope ["one", "other"] ["one", "other"] (defScope s_divisor) := ⟨rfl, rfl, rfl, by decide +kernel, rfl, by decide +kernel, by decide +kernel⟩
def sp_divisor : Sp := fun vs H Q _ => ∃ a b : Int, vs = [.int a, .int b] ∧ 0 ≤ a ∧ 0 ≤ b ∧ Q (.int (Int.gcd a b)) H

theorem ok_divisor {f : Addr} {fd : FuncData} (F : Fun K "divisor" "divisor" s_divisor f fd) (B : Bn mg)  : FnOk P wd K mg base CX0 1 f fd ["one", "other"] sp_divisor := by
  refine F.ok sc_divisor (fun vs H Q E h => ?_) (fun cdv A outer s H vs Q E hr h => ?_)
  · obtain ⟨a, b, rfl, ha, hb, k⟩ := h
    all_goals rfl
  · obtain ⟨a, b, rfl, ha, hb, k⟩ := h
    refine ⟨_, (pss_cons (ps_while PassesOwn.never (pt_cmpR (k_ne (K := K) rfl hr.units) (pv 0) pe_int (nomark _)) (pss_one (ps_par (i := 0) (j := 1) rfl sc_divisor.nd rfl rfl (by decide) rfl rfl (pa_cons (pe_op op_mod (pv 1) (pv 0)) (pa_cons (pv 0) pa_nil)) rfl)))
      (pss_one (ps_ret (pv 1)))), ?_⟩
    try dsimp only [cxOf, Cx.nox, Cx.wish, Cx.blk]
    with_reducible refine s_seq ?_
    refine s_while (fun σ' H' => H' = H ∧ ∃ a' b' : Int, σ' = [some (.int a'), some (.int b')] ∧ 0 ≤ a' ∧ 0 ≤ b' ∧ Int.gcd b' a' = Int.gcd a b) (fun σ => match σ with | [some (.int b), _] => b.toNat | _ => 0) ⟨rfl, a, b, rfl, ha, hb, Int.gcd_comm _ _⟩ ?_
    rintro σ' H' ⟨rfl, a', b', rfl, ha', hb', e⟩
    wtm_at "go"
    wtm_at "fork"
    · wtm_at "go"
      rename_i e0
      subst e0
      rw [← e, gcd_end hb'] at k
      exact k
    · rename_i e0
      refine s_wN ?_
      wtm_at "goo"
      exact ⟨⟨rfl, b' % a', a', rfl, Int.emod_nonneg _ e0, ha', by rw [gcd_step hb' ha', e]⟩, by
        have := Int.emod_lt_of_pos b' (show 0 < a' by omega)
        have := Int.emod_nonneg b' e0
        show (b' % a').toNat < a'.toNat
        omega⟩
def D.isfr : D → Bool
  | .tup [.int a, .int b] => decide (1 ≤ b ∧ Int.gcd a b = 1)
  | _ => false
/-- what may be asked: of a tuple of two, both of known kinds -/
def Ask (d : D) : Prop := Ty d ∧ ∀ x y, d = .tup [x, y] → Ty x ∧ Ty y
theorem Ask.of {d : D} (h : Ty d) (hn : ∀ x y, d ≠ .tup [x, y]) : Ask d := ⟨h, fun x y e => absurd e (hn x y)⟩
theorem Ask.two {x y : D} (hx : Ty x) (hy : Ty y) : Ask (.tup [x, y]) := ⟨⟨_, rfl⟩, fun _ _ e => by cases e; exact ⟨hx, hy⟩⟩
theorem isfr_no1 {x y : D} (h : x.whole = false) : D.isfr (.tup [x, y]) = false := by cases x <;> first | rfl | cases h
theorem isfr_no2 {x y : D} (h : y.whole = false) : D.isfr (.tup [x, y]) = false := by cases x <;> cases y <;> first | rfl | cases h
theorem isfr_1 (x : D) : D.isfr (.tup [x]) = false := by cases x <;> rfl
theorem isfr_3 (x y z : D) (r : List D) : D.isfr (.tup (x :: y :: z :: r)) = false := by cases x <;> cases y <;> rfl

abbrev s_is_fraction : Stmt := top 20
theorem sc_is_fraction : FnScope ["thing"] ["thing"] (defScope s_is_fraction) := ⟨rfl, rfl, rfl, by decide +kernel, rfl, by decide +kernel, by decide +kernel⟩
def sp_is_fraction : Sp := fun vs H Q _ => ∃ I M v d, vs = [v] ∧ W I H M ∧ Is I v d ∧ Ask d ∧ Q (.bl d.isfr) H
theorem use_isfr {I H : Hp} {M : List (Addr × HO)} {v : V} {d : D} {Q : VK} {E : XK} (w : W I H M) (h : Is I v d) (ha : Ask d) (q : Q (.bl d.isfr) H) : sp_is_fraction ([v] ++ []) H Q E := ⟨I, M, v, d, rfl, w, h, ha, q⟩

theorem ok_is_fraction {f : Addr} {fd : FuncData} (F : Fun K "is_fraction" "is_fraction" s_is_fraction f fd) (B : Bn mg) (c_is_whole : Cal P wd K mg base "is_whole" 1 ["thing"] [] (sp_is_whole K)) (c_divisor : Cal P wd K mg base "divisor" 1 ["one", "other"] [] sp_divisor)  : FnOk P wd K mg base CX0 2 f fd ["thing"] sp_is_fraction := by
  refine F.ok sc_is_fraction (fun vs H Q E h => ?_) (fun cdv A outer s H vs Q E hr h => ?_)
  · obtain ⟨I, M, v, d, rfl, w, hv, ⟨⟨tn, ht⟩, h2⟩, k⟩ := h
    all_goals rfl
  · obtain ⟨I, M, v, d, rfl, w, hv, ⟨⟨tn, ht⟩, h2⟩, k⟩ := h
    refine ⟨_, (pss_cons (ps_if (pw_or (pt_not (pt_val (pe_callB (k_isi (K := K) rfl) (by rfl) B.isinstance_ (by decide +kernel) (pa_cons (pv 0) (pa_cons (pe_bltn (v := .ty "tuple") (by rfl) B.tuple_ (by decide +kernel) rfl) pa_nil))))) (pw_or1 (pt_cmpR (k_ne (K := K) rfl hr.units) (pe_callB (k_len (K := K) rfl) (by rfl) B.len_ (by decide +kernel) (pa_cons (pv 0) pa_nil)) pe_int (nomark _)))).pt (pss_one (ps_ret pe_bl)) pss_nil)
      (pss_cons (ps_if (pw_or (pt_not (pt_val (pe_cal c_is_whole (hr.mono (by decide)) (by rfl) (pa_cons (pe_ix (k_ix (K := K) rfl) (pv 0) pe_int (fun _ _ => rfl)) pa_nil)))) (pw_or (pt_not (pt_val (pe_cal c_is_whole (hr.mono (by decide)) (by rfl) (pa_cons (pe_ix (k_ix (K := K) rfl) (pv 0) pe_int (fun _ _ => rfl)) pa_nil)))) (pw_or1 (pt_cmpR op_lt (pe_ix (k_ix (K := K) rfl) (pv 0) pe_int (fun _ _ => rfl)) pe_int (nomark _))))).pt (pss_one (ps_ret pe_bl)) pss_nil)
      (pss_one (ps_ret (pe_cmpR (k_eq (K := K) rfl hr.units) (pe_cal c_divisor (hr.mono (by decide)) (by rfl) (pa_cons (pe_callB uc_abs (by rfl) B.abs_ (by decide +kernel) (pa_cons (pe_ix (k_ix (K := K) rfl) (pv 0) pe_int (fun _ _ => rfl)) pa_nil)) (pa_cons (pe_ix (k_ix (K := K) rfl) (pv 0) pe_int (fun _ _ => rfl)) pa_nil))) pe_int (nomark _)))))), ?_⟩
    try dsimp only [cxOf, Cx.nox, Cx.wish, Cx.blk]
    cases d with
    | int n => wtm_at "go"; exact k
    | bl n => wtm_at "go"; exact k
    | non => wtm_at "go"; exact k
    | str n => wtm_at "go"; exact k
    | lst n => wtm_at "go"; exact k
    | ref n => cases ht
    | ty n => cases ht
    | obj n m => cases ht
    | fact _ => cases ht
    | dict => wtm_at "go"; exact k
    | tup ds =>
      wtm_at "go"
      match ds, hv, k, h2 with
      | [], hv, k, _ => refine s_iteIn (by simp) ?_; wtm_at "go"; exact k
      | [x], hv, k, _ => refine s_iteIn (by simp) ?_; wtm_at "go"; rw [isfr_1] at k; exact k
      | x :: y :: z :: r, hv, k, _ => refine s_iteIn (by simp only [List.length_cons]; omega) ?_; wtm_at "go"; rw [isfr_3] at k; exact k
      | [x, y], hv, k, h2 =>
        obtain ⟨⟨a, ha⟩, b, hb⟩ := h2 x y rfl
        by_cases hx : x.whole = true
        · obtain ⟨n, rfl⟩ : ∃ n, x = .int n := by cases x <;> first | exact ⟨_, rfl⟩ | cases hx
          by_cases hy : y.whole = true
          · obtain ⟨m, rfl⟩ : ∃ n, y = .int n := by cases y <;> first | exact ⟨_, rfl⟩ | cases hy
            refine s_iteIp rfl ?_
            wtm_at "go"
            refine use_isI w ?_
            wtm_at "go"
            refine use_isI w ?_
            wtm_at "go"
            wtm_at "fork"
            · rename_i hm
              wtm_at "go"
              have e : D.isfr (.tup [.int n, .int m]) = false := decide_eq_false fun h => by omega
              rw [e] at k
              exact k
            · rename_i hm
              wtm_at "go"
              refine ⟨_, _, rfl, (by split <;> omega), (by omega), ?_⟩
              wtm_at "go"
              have e : Int.gcd (if n < 0 then -n else n) m = Int.gcd n m := by
                have := gcd_abs n m
                rw [if_neg (show ¬ m < 0 by omega)] at this
                exact this
              rw [e]
              have e2 : D.isfr (.tup [.int n, .int m]) = decide (V.int (Int.gcd n m : Int) = V.int 1) := by
                show decide (1 ≤ m ∧ Int.gcd n m = 1) = _
                rw [Bool.eq_iff_iff]
                simp
                omega
              rw [e2] at k
              exact k
          · have hy' : y.whole = false := by simpa using hy
            refine s_iteIp rfl ?_
            wtm_at "go"
            refine use_isI w ?_
            wtm_at "go"
            refine use_isN w (by assumption) hb hy' ?_
            wtm_at "go"
            rw [isfr_no2 hy'] at k
            exact k
        · have hx' : x.whole = false := by simpa using hx
          refine s_iteIp rfl ?_
          wtm_at "go"
          refine use_isN w (by assumption) ha hx' ?_
          wtm_at "go"
          rw [isfr_no1 hx'] at k
          exact k
abbrev s_fraction : Stmt := top 21
theorem sc_fraction : FnScope ["top", "bottom", "by"] ["top", "bottom"] (defScope s_fraction) := ⟨rfl, rfl, rfl, by decide +kernel, rfl, by decide +kernel, by decide +kernel⟩
def sp_fraction : Sp := fun vs H Q _ => ∃ I M, ∃ t b : Int, vs = [.int t, .int b] ∧ W I H M ∧ b ≠ 0 ∧ Bd 8000 b ∧ ∀ r J H', Same I J → W J H' M → Is J r (frq (Rat.divInt t b)) → Q r H'
theorem use_fraction {I H : Hp} {M : List (Addr × HO)} {t b : Int} {Q : VK} {E : XK} (w : W I H M) (hb : b ≠ 0) (hB : Bd 8000 b) (q : ∀ r J H', Same I J → W J H' M → Is J r (frq (Rat.divInt t b)) → Q r H') : sp_fraction ([.int t, .int b] ++ []) H Q E := ⟨I, M, t, b, rfl, w, hb, hB, q⟩
theorem n_fraction {F : List (V × D)} {H : Hp} {M : List ME} {t b : Int} {Q : VK} {E : XK} (w : Wf F H M) (hb : b ≠ 0) (hB : Bd 8000 b) (q : ∀ r H', Wf ((r, frq (Rat.divInt t b)) :: F) H' M → Q r H') : sp_fraction ([.int t, .int b] ++ []) H Q E := by
  obtain ⟨I, Mc, w, is, _, up⟩ := w.old
  exact use_fraction w hb hB fun r J H' s w' h => q r H' (up J H' r _ s w' h)

theorem ok_fraction {f : Addr} {fd : FuncData} (F : FunD K "fraction" "fraction" (defArgs s_fraction) (defBody s_fraction) (defScope s_fraction) [.int 1] [] f fd) (B : Bn mg) (c_divisor : Cal P wd K mg base "divisor" 1 ["one", "other"] [] sp_divisor)  : FnOk P wd K mg base CX0 2 f fd ["top", "bottom"] sp_fraction := by
  refine F.ok0 sc_fraction (fun vs H Q E h => ?_) (fun cdv A outer s H vs Q E hr h => ?_)
  · obtain ⟨I, M, t, b, rfl, w, hb, hB, k⟩ := h
    all_goals rfl
  · obtain ⟨I, M, t, b, rfl, w, hb, hB, k⟩ := h
    refine ⟨_, (pss_cons (ps_if (pt_cmpR (k_eq (K := K) rfl hr.units) (pv 1) pe_int (nomark _)) pss_never pss_nil)
      (pss_cons (ps_if (pt_cmpR op_lt (pv 1) pe_int (nomark _)) (pss_one (ps_par (i := 0) (j := 1) rfl sc_fraction.nd rfl rfl (by decide) rfl rfl (pa_cons (pe_un un_neg (pv 0)) (pa_cons (pe_un un_neg (pv 1)) pa_nil)) rfl)) pss_nil)
      (pss_cons (ps_set (i := 2) sc_fraction.nd rfl (Or.inl rfl) (pe_cal c_divisor (hr.mono (by decide)) (by rfl) (pa_cons (pe_callB uc_abs (by rfl) B.abs_ (by decide +kernel) (pa_cons (pv 0) pa_nil)) (pa_cons (pv 1) pa_nil))))
      (pss_one (ps_ret (pe_tup (pa_cons (pe_op op_fdivW (pv 0) (pv 2)) (pa_cons (pe_op op_fdivW (pv 1) (pv 2)) pa_nil)))))))), ?_⟩
    try dsimp only [cxOf, Cx.nox, Cx.wish, Cx.blk]
    have hg := gcd_pos' (t := t) hb
    have hgb : Bd 8000 (Int.gcd t b : Int) := hB.le (gcd_le_right' hb)
    with_reducible refine s_seq ?_
    wtm_at "go"
    refine s_iteIn hb ?_
    with_reducible refine s_next ?_
    with_reducible refine s_mid (fun σ' H' => H' = H ∧ σ' = [some (.int (if b < 0 then -t else t)), some (.int (if b < 0 then -b else b)), none]) ?_ (fun N fin => ?_)
    · rintro σ' H' ⟨rfl, rfl⟩
      wtm_at "go"
      refine ⟨_, _, rfl, (by split <;> split <;> omega), (by split <;> omega), ?_⟩
      have e : Int.gcd (if (if b < 0 then -t else t) < 0 then -(if b < 0 then -t else t) else (if b < 0 then -t else t)) (if b < 0 then -b else b) = Int.gcd t b := by
        by_cases h1 : b < 0
        · rw [if_pos h1, if_pos h1]
          have := gcd_abs (-t) (-b)
          rw [if_neg (show ¬ -b < 0 by omega)] at this
          rw [this, Int.gcd_neg, Int.neg_gcd]
        · rw [if_neg h1, if_neg h1]
          have := gcd_abs t b
          rw [if_neg h1] at this
          exact this
      rw [e]
      wtm_at "go"
      refine s_I (hgb.cd hg) ?_
      wtm_at "go"
      refine s_I (hgb.cd hg) ?_
      rw [low_num hb, low_den hb]
      wtm_at "go"
      refine s_newT w (by ktf_call "isa") (by simp) fun p J H' s1 _ w1 h1 => ?_
      exact k _ J H' s1 w1 h1
    · wtm_at "go"
      wtm_at "fork"
      · rename_i hlt
        wtm_at "go"
        exact fin _ _ ⟨rfl, by rw [if_pos hlt, if_pos hlt]; rfl⟩
      · rename_i hlt
        wtm_at "go"
        exact fin _ _ ⟨rfl, by rw [if_neg hlt, if_neg hlt]; rfl⟩
abbrev s_plus : Stmt := top 22
theorem sc_plus : FnScope ["one", "other"] ["one", "other"] (defScope s_plus) := ⟨rfl, rfl, rfl, by decide +kernel, rfl, by decide +kernel, by decide +kernel⟩
def sp_plus : Sp := fun vs H Q _ => ∃ I M u v, ∃ p q : Rat, vs = [u, v] ∧ W I H M ∧ Is I u (frq p) ∧ Is I v (frq q) ∧ Sz 100000 p ∧ Sz 100000 q ∧ Bd 8000 (p.den * q.den : Int) ∧ ∀ r J H', Same I J → W J H' M → Is J r (frq (p + q)) → Q r H'
theorem use_plus {I H : Hp} {M : List (Addr × HO)} {u v : V} {p q : Rat} {Q : VK} {E : XK} {j k : Nat} (w : W I H M) (hu : Is I u (frq p)) (hv : Is I v (frq q)) (hp : Sz j p) (hq : Sz k q) (h1 : j ≤ 100000) (h2 : k ≤ 100000) (hB : Bd 8000 (p.den * q.den : Int)) (f : ∀ r J H', Same I J → W J H' M → Is J r (frq (p + q)) → Q r H') : sp_plus ([u, v] ++ []) H Q E :=
  ⟨I, M, u, v, p, q, rfl, w, hu, hv, hp.mono h1, hq.mono h2, hB, f⟩

theorem ok_plus {f : Addr} {fd : FuncData} (F : Fun K "plus" "plus" s_plus f fd) (B : Bn mg) (c_fraction : Cal P wd K mg base "fraction" 2 ["top", "bottom"] [] sp_fraction)  : FnOk P wd K mg base CX0 3 f fd ["one", "other"] sp_plus := by
  refine F.ok sc_plus (fun vs H Q E h => ?_) (fun cdv A outer s H vs Q E hr h => ?_)
  · obtain ⟨I, M, u, v, p, q, rfl, w, hu, hv, hp, hq, hB, k⟩ := h
    all_goals rfl
  · obtain ⟨I, M, u, v, p, q, rfl, w, hu, hv, hp, hq, hB, k⟩ := h
    refine ⟨_, (pss_one (ps_ret (pe_cal c_fraction (hr.mono (by decide)) (by rfl) (pa_cons (pe_op (k_add (K := K) rfl) (pe_op uo_mul (pe_ix (k_ix (K := K) rfl) (pv 0) pe_int (fun _ _ => rfl)) (pe_ix (k_ix (K := K) rfl) (pv 1) pe_int (fun _ _ => rfl))) (pe_op uo_mul (pe_ix (k_ix (K := K) rfl) (pv 1) pe_int (fun _ _ => rfl)) (pe_ix (k_ix (K := K) rfl) (pv 0) pe_int (fun _ _ => rfl)))) (pa_cons (pe_op uo_mul (pe_ix (k_ix (K := K) rfl) (pv 0) pe_int (fun _ _ => rfl)) (pe_ix (k_ix (K := K) rfl) (pv 1) pe_int (fun _ _ => rfl))) pa_nil))))), ?_⟩
    try dsimp only [cxOf, Cx.nox, Cx.wish, Cx.blk]
    wtm_at "go"
    refine s_mul (hp.n.cm hq.d) ?_
    wtm_at "go"
    refine s_mul (hq.n.cm hp.d) ?_
    wtm_at "go"
    refine s_mul (hp.d.cm hq.d) ?_
    wtm_at "go"
    refine use_fraction w (den_mul_ne p q) hB ?_
    rw [add_dv]
    exact k
abbrev s_minus : Stmt := top 23
theorem sc_minus : FnScope ["one", "other"] ["one", "other"] (defScope s_minus) := ⟨rfl, rfl, rfl, by decide +kernel, rfl, by decide +kernel, by decide +kernel⟩
def sp_minus : Sp := fun vs H Q _ => ∃ I M u v, ∃ p q : Rat, vs = [u, v] ∧ W I H M ∧ Is I u (frq p) ∧ Is I v (frq q) ∧ Sz 100000 p ∧ Sz 100000 q ∧ Bd 8000 (p.den * q.den : Int) ∧ ∀ r J H', Same I J → W J H' M → Is J r (frq (p - q)) → Q r H'
theorem use_minus {I H : Hp} {M : List (Addr × HO)} {u v : V} {p q : Rat} {Q : VK} {E : XK} {j k : Nat} (w : W I H M) (hu : Is I u (frq p)) (hv : Is I v (frq q)) (hp : Sz j p) (hq : Sz k q) (h1 : j ≤ 100000) (h2 : k ≤ 100000) (hB : Bd 8000 (p.den * q.den : Int)) (f : ∀ r J H', Same I J → W J H' M → Is J r (frq (p - q)) → Q r H') : sp_minus ([u, v] ++ []) H Q E :=
  ⟨I, M, u, v, p, q, rfl, w, hu, hv, hp.mono h1, hq.mono h2, hB, f⟩

theorem ok_minus {f : Addr} {fd : FuncData} (F : Fun K "minus" "minus" s_minus f fd) (B : Bn mg) (c_fraction : Cal P wd K mg base "fraction" 2 ["top", "bottom"] [] sp_fraction)  : FnOk P wd K mg base CX0 3 f fd ["one", "other"] sp_minus := by
  refine F.ok sc_minus (fun vs H Q E h => ?_) (fun cdv A outer s H vs Q E hr h => ?_)
  · obtain ⟨I, M, u, v, p, q, rfl, w, hu, hv, hp, hq, hB, k⟩ := h
    all_goals rfl
  · obtain ⟨I, M, u, v, p, q, rfl, w, hu, hv, hp, hq, hB, k⟩ := h
    refine ⟨_, (pss_one (ps_ret (pe_cal c_fraction (hr.mono (by decide)) (by rfl) (pa_cons (pe_op op_sub (pe_op uo_mul (pe_ix (k_ix (K := K) rfl) (pv 0) pe_int (fun _ _ => rfl)) (pe_ix (k_ix (K := K) rfl) (pv 1) pe_int (fun _ _ => rfl))) (pe_op uo_mul (pe_ix (k_ix (K := K) rfl) (pv 1) pe_int (fun _ _ => rfl)) (pe_ix (k_ix (K := K) rfl) (pv 0) pe_int (fun _ _ => rfl)))) (pa_cons (pe_op uo_mul (pe_ix (k_ix (K := K) rfl) (pv 0) pe_int (fun _ _ => rfl)) (pe_ix (k_ix (K := K) rfl) (pv 1) pe_int (fun _ _ => rfl))) pa_nil))))), ?_⟩
    try dsimp only [cxOf, Cx.nox, Cx.wish, Cx.blk]
    wtm_at "go"
    refine s_mul (hp.n.cm hq.d) ?_
    wtm_at "go"
    refine s_mul (hq.n.cm hp.d) ?_
    wtm_at "go"
    refine s_mul (hp.d.cm hq.d) ?_
    wtm_at "go"
    refine use_fraction w (den_mul_ne p q) hB ?_
    rw [sub_dv]
    exact k
structure EdgOk (qs : List Rat) : Prop where
  ln : qs.length ≤ 10000
  ok : ∀ (i : Nat) q, qs[i]? = some q → Sz 100000 (rs (qs.take i)) ∧ Sz 100000 q ∧ Bd 8000 ((rs (qs.take i)).den * q.den : Int) ∧ Bd 8000 ((rs (qs.take (i + 1))).den : Int)
def edg (qs : List Rat) : List Int := (List.range (qs.length + 1)).map fun i => (rs (qs.take i)).floor
theorem edg_len (qs : List Rat) : (edg qs).length = qs.length + 1 := by simp [edg]
theorem edg_at {qs : List Rat} {i : Nat} (h : i ≤ qs.length) : (edg qs)[i]? = some (rs (qs.take i)).floor := by
  unfold edg
  rw [List.getElem?_map, List.getElem?_range (by omega)]
  rfl
theorem EdgOk.of {j k : Nat} {qs : List Rat} (h : ∀ q ∈ qs, Sz2 j k q) (h1 : (k + 1) * (qs.length + 2) ≤ 7000) (h2 : j ≤ 5000) (hl : qs.length ≤ 6000) : EdgOk qs where
  ln := by omega
  ok := fun i q hq => by
    have hi : i < qs.length := (List.getElem?_eq_some_iff.mp hq).1
    have s1 := Sz2.rs h i (by omega)
    have s2 := Sz2.rs h (i + 1) (by omega)
    have s3 := h q (List.mem_of_getElem? hq)
    have e1 : (k + 1) * i + (k + 1) * 2 ≤ (k + 1) * (qs.length + 2) := by rw [← Nat.mul_add]; exact Nat.mul_le_mul_left _ (by omega)
    have e2 : k * i ≤ (k + 1) * i := Nat.mul_le_mul_right _ (by omega)
    have e3 : k * (i + 1) = k * i + k := by rw [Nat.mul_add]; omega
    exact ⟨s1.sz (by omega) (by omega), s3.sz (by omega) (by omega), (s1.d.mul s3.d).mono (by omega), s2.d.mono (by omega)⟩

theorem sum_take_le : ∀ (l : List Nat) (i : Nat), (l.take i).sum ≤ l.sum
  | [], i => by simp
  | x :: r, 0 => by simp
  | x :: r, i + 1 => by
    have := sum_take_le r i
    simp only [List.take_succ_cons, List.sum_cons]
    omega
theorem Sz2.rsK {J : Nat} {l : List (Rat × Nat)} (h : ∀ p ∈ l, Sz2 J p.2 p.1) : ∀ i, i ≤ l.length → Sz2 (J + ((l.map (·.2)).take i).sum + i + 1) (((l.map (·.2)).take i).sum + 1) (Fs.rs ((l.map (·.1)).take i))
  | 0, _ => ⟨Bd.of 0 (by simp [rs_nil]) (Nat.pow_pos (by decide)), Bd.of 1 (by simp [rs_nil]) (by simp)⟩
  | i + 1, hi => by
    have hi' : i < l.length := hi
    have e : (l.map (·.1))[i]? = some l[i].1 := by rw [List.getElem?_map, List.getElem?_eq_getElem hi']; rfl
    have e2 : (l.map (·.2))[i]? = some l[i].2 := by rw [List.getElem?_map, List.getElem?_eq_getElem hi']; rfl
    rw [rs_take e, List.take_add_one, e2, Option.toList_some, List.sum_append, List.sum_singleton]
    have ih := Sz2.rsK h i (by omega)
    have hq := h _ (List.getElem_mem hi')
    exact (ih.add hq (J + (((l.map (·.2)).take i).sum + l[i].2) + (i + 1) + 1) (by omega) (by omega)).mono (Nat.le_refl _) (by omega)
theorem EdgOk.ofK {J : Nat} {l : List (Rat × Nat)} (h : ∀ p ∈ l, Sz2 J p.2 p.1) (h1 : (l.map (·.2)).sum ≤ 7000) (h2 : J ≤ 5000) (hl : l.length ≤ 6000) : EdgOk (l.map (·.1)) where
  ln := by rw [List.length_map]; omega
  ok := fun i q hq => by
    have hi : i < l.length := by
      have := (List.getElem?_eq_some_iff.mp hq).1
      rw [List.length_map] at this
      exact this
    have e : (l.map (·.1))[i]? = some l[i].1 := by rw [List.getElem?_map, List.getElem?_eq_getElem hi]; rfl
    rw [e] at hq
    cases hq
    have s1 := Sz2.rsK h i (by omega)
    have s2 := Sz2.rsK h (i + 1) (by omega)
    have s3 := h _ (List.getElem_mem hi)
    have e2 : (l.map (·.2))[i]? = some l[i].2 := by rw [List.getElem?_map, List.getElem?_eq_getElem hi]; rfl
    have l1 := sum_take_le (l.map (·.2)) i
    have l2 := sum_take_le (l.map (·.2)) (i + 1)
    have e3 : ((l.map (·.2)).take (i + 1)).sum = ((l.map (·.2)).take i).sum + l[i].2 := by rw [List.take_add_one, e2, Option.toList_some, List.sum_append, List.sum_singleton]
    exact ⟨s1.sz (by omega) (by omega), s3.sz (by omega) (by omega), (s1.d.mul s3.d).mono (by omega), s2.d.mono (by omega)⟩

abbrev s_together : Stmt := top 24
theorem sc_together : FnScope ["fractions", "total", "one"] ["fractions"] (defScope s_together) := ⟨rfl, rfl, rfl, by decide +kernel, rfl, by decide +kernel, by decide +kernel⟩
def sp_together : Sp := fun vs H Q _ => ∃ I M v, ∃ qs : List Rat, vs = [v] ∧ W I H M ∧ Is I v (.lst (qs.map frq)) ∧ EdgOk qs ∧ ∀ r J H', Same I J → W J H' M → Is J r (frq (rs qs)) → Q r H'
theorem use_together {I H : Hp} {M : List (Addr × HO)} {v : V} {qs : List Rat} {Q : VK} {E : XK} (w : W I H M) (hv : Is I v (.lst (qs.map frq))) (ok : EdgOk qs) (f : ∀ r J H', Same I J → W J H' M → Is J r (frq (rs qs)) → Q r H') : sp_together ([v] ++ []) H Q E := ⟨I, M, v, qs, rfl, w, hv, ok, f⟩

theorem ok_together {f : Addr} {fd : FuncData} (F : Fun K "together" "together" s_together f fd) (B : Bn mg) (c_plus : Cal P wd K mg base "plus" 3 ["one", "other"] [] sp_plus)  : FnOk P wd K mg base CX0 4 f fd ["fractions"] sp_together := by
  refine F.ok sc_together (fun vs H Q E h => ?_) (fun cdv A outer s H vs Q E hr h => ?_)
  · obtain ⟨I, M, v, qs, rfl, w, hv, ok, k⟩ := h
    all_goals rfl
  · obtain ⟨I, M, v, qs, rfl, w, hv, ok, k⟩ := h
    refine ⟨_, (pss_cons (ps_set (i := 1) sc_together.nd rfl (Or.inl rfl) (pe_tup (pa_cons pe_int (pa_cons pe_int pa_nil))))
      (pss_cons (ps_for PassesOwn.never rfl (kpi_list (K := K) rfl (pv 0)) (pg_name (i := 2) sc_together.nd rfl (Or.inl rfl)) (pss_one (ps_set (i := 1) sc_together.nd rfl (Or.inl rfl) (pe_cal c_plus (hr.mono (by decide)) (by rfl) (pa_cons (pv 1) (pa_cons (pv 2) pa_nil))))))
      (pss_one (ps_ret (pv 1))))), ?_⟩
    try dsimp only [cxOf, Cx.nox, Cx.wish, Cx.blk]
    wtm_at "go"
    refine s_newT w (by ktf_call "isa") (by simp) fun t0 J0 H0 s0 _ w0 h0 => ?_
    wtm_at "go"
    refine s_forL w0 (hv.mono s0) (fun i σ' H' => ∃ J tot x2, σ' = [some v, some tot, x2] ∧ Same J0 J ∧ W J H' M ∧ Is J tot (frq (rs (qs.take i)))) ⟨J0, _, _, rfl, Same.refl _, w0, h0⟩ ?_ ?_ ?_
    · rintro i σ' H' ⟨J, tot, x3, rfl, s, w2, _⟩
      exact s.trans w2.imm
    · rintro i d x σ' H' hd hx ⟨J, tot, x3, rfl, s, w2, ht⟩
      rw [List.getElem?_map] at hd
      cases hq : qs[i]? with
      | none => rw [hq] at hd; cases hd
      | some q =>
        rw [hq] at hd
        cases hd
        obtain ⟨o1, o2, o3, o4⟩ := ok.ok i q hq
        wtm_at "go"
        refine use_plus w2 ht (hx.mono s) o1 o2 (by decide) (by decide) o3 fun r J2 H2 s2 w3 h3 => ?_
        rw [← rs_take hq] at h3
        exact ⟨J2, r, _, rfl, s.trans s2, w3, h3⟩
    · rintro σ' H' ⟨J, tot, x3, rfl, s, w2, ht⟩
      rw [List.length_map, List.take_length] at ht
      wtm_at "go"
      exact k _ J H' (s0.trans s) w2 ht
abbrev s_is_below : Stmt := top 25
theorem sc_is_below : FnScope ["one", "other"] ["one", "other"] (defScope s_is_below) := ⟨rfl, rfl, rfl, by decide +kernel, rfl, by decide +kernel, by decide +kernel⟩
def sp_is_below : Sp := fun vs H Q _ => ∃ I M u v a b c d, vs = [u, v] ∧ W I H M ∧ Is I u (fr a b) ∧ Is I v (fr c d) ∧ Bd 100000 a ∧ Bd 100000 b ∧ Bd 100000 c ∧ Bd 100000 d ∧ Q (.bl (decide (a * d < c * b))) H

theorem ok_is_below {f : Addr} {fd : FuncData} (F : Fun K "is_below" "is_below" s_is_below f fd) (B : Bn mg)  : FnOk P wd K mg base CX0 1 f fd ["one", "other"] sp_is_below := by
  refine F.ok sc_is_below (fun vs H Q E h => ?_) (fun cdv A outer s H vs Q E hr h => ?_)
  · obtain ⟨I, M, u, v, a, b, c, d, rfl, w, hu, hv, ha, hb, hc, hd, k⟩ := h
    all_goals rfl
  · obtain ⟨I, M, u, v, a, b, c, d, rfl, w, hu, hv, ha, hb, hc, hd, k⟩ := h
    refine ⟨_, (pss_one (ps_ret (pe_cmpR op_lt (pe_op uo_mul (pe_ix (k_ix (K := K) rfl) (pv 0) pe_int (fun _ _ => rfl)) (pe_ix (k_ix (K := K) rfl) (pv 1) pe_int (fun _ _ => rfl))) (pe_op uo_mul (pe_ix (k_ix (K := K) rfl) (pv 1) pe_int (fun _ _ => rfl)) (pe_ix (k_ix (K := K) rfl) (pv 0) pe_int (fun _ _ => rfl))) (nomark _)))), ?_⟩
    try dsimp only [cxOf, Cx.nox, Cx.wish, Cx.blk]
    wtm_at "go"
    refine s_mul (ha.cm hd) ?_
    wtm_at "go"
    refine s_mul (hc.cm hb) ?_
    wtm_at "go"
    exact k
abbrev s_floor_of : Stmt := top 26
theorem sc_floor_of : FnScope ["one"] ["one"] (defScope s_floor_of) := ⟨rfl, rfl, rfl, by decide +kernel, rfl, by decide +kernel, by decide +kernel⟩
def sp_floor_of : Sp := fun vs H Q _ => ∃ I M u a b, vs = [u] ∧ W I H M ∧ Is I u (fr a b) ∧ Bd 8000 b ∧ 0 < b ∧ Q (.int (a / b)) H

theorem ok_floor_of {f : Addr} {fd : FuncData} (F : Fun K "floor_of" "floor_of" s_floor_of f fd) (B : Bn mg)  : FnOk P wd K mg base CX0 1 f fd ["one"] sp_floor_of := by
  refine F.ok sc_floor_of (fun vs H Q E h => ?_) (fun cdv A outer s H vs Q E hr h => ?_)
  · obtain ⟨I, M, u, a, b, rfl, w, hu, hb, h0, k⟩ := h
    all_goals rfl
  · obtain ⟨I, M, u, a, b, rfl, w, hu, hb, h0, k⟩ := h
    refine ⟨_, (pss_one (ps_ret (pe_op op_fdivW (pe_ix (k_ix (K := K) rfl) (pv 0) pe_int (fun _ _ => rfl)) (pe_ix (k_ix (K := K) rfl) (pv 0) pe_int (fun _ _ => rfl))))), ?_⟩
    try dsimp only [cxOf, Cx.nox, Cx.wish, Cx.blk]
    wtm_at "go"
    refine s_I (hb.cd h0) ?_
    exact k
/-- a greatest: none, or from the base on -/
def Gr (b : Int) (g : D) : Prop := g = .non ∨ ∃ n : Int, g = .int n ∧ b ≤ n ∧ n ≤ 1000000000000
structure PartOk (b l : Int) (g : D) (w s : Int) : Prop where
  l0 : 0 ≤ l
  lb : l ≤ b
  bm : b ≤ 1000000000000
  gr : Gr b g
  w0 : 0 ≤ w
  w1 : w ≤ 1000
  s0 : 0 ≤ s
  s1 : s ≤ 1000
def gOver (g : D) (q : Rat) : Bool := match g with | .int n => decide ((n : Rat) < q) | _ => false
theorem W.doneO {I H : Hp} {M : List (Addr × HO)} {p C dx : Addr} {fs : List (Str × V)} {ds : List (Str × D)} (w : W I H ((p, .ins C dx fs) :: M)) (a : IsF I fs ds) : ∃ J, Same I J ∧ W J H M ∧ Is J (.ref p) (.obj C ds) := ⟨_, w.frzS0, w.frz0, .obj upd_same (a.mono w.frzS0)⟩
abbrev rowD (b l : Int) (g : D) (w s : Int) : D := .tup [.int b, .int l, g, .int w, .int s]
theorem lt_int {n : Int} {q : Rat} : ((n : Rat) < q) ↔ n * q.den < q.num := by
  have := @Rat.lt_iff (n : Rat) q
  simpa using this
theorem int_lt {n : Int} {q : Rat} : (q < (n : Rat)) ↔ q.num < n * q.den := by
  have := @Rat.lt_iff q (n : Rat)
  simpa using this
theorem eq_int {n : Int} {q : Rat} : (q = (n : Rat)) ↔ q.num = n * q.den := by
  constructor
  · intro h
    subst h
    simp
  · intro h
    have h1 : ¬ q < n := fun z => by have := int_lt.mp z; omega
    have h2 : ¬ (n : Rat) < q := fun z => by have := lt_int.mp z; omega
    grind
theorem sub_int (q : Rat) (n : Int) : q - n = Rat.divInt (q.num - n * q.den) q.den := by
  have := sub_dv q (n : Rat)
  simp at this
  exact this.symm
theorem sq_dv {t d w : Int} : Rat.divInt (t * t) (d * d * w) = Rat.divInt t d * Rat.divInt t d / (w : Rat) := by
  simp only [Rat.divInt_eq_div, Rat.intCast_mul, Rat.div_def, Rat.inv_mul_rev]
  grind
theorem sq_q {x : Rat} {w : Int} : Rat.divInt (x.num * x.num) (x.den * x.den * w) = x * x / (w : Rat) := by
  rw [sq_dv, Rat.num_divInt_den]
theorem sq_gap {q : Rat} {b w : Int} : Rat.divInt ((q.num - b * q.den) * (q.num - b * q.den)) (q.den * q.den * w) = (q - b) * (q - b) / (w : Rat) := by
  rw [sq_dv, ← sub_int]
/-- the strain at a size -/
def strD (b l : Int) (g : D) (w s : Int) (q : Rat) : D :=
  if q = (b : Rat) then fr 0 1
  else if (b : Rat) < q then (if w = 0 ∨ gOver g q = true then .non else frq ((q - b) * (q - b) / (w : Rat)))
  else if s = 0 ∨ q < (l : Rat) then .non else frq ((q - b) * (q - b) / (s : Rat))
theorem bd12 {n : Int} (h0 : 0 ≤ n) (h1 : n ≤ 1000000000000) : Bd 40 n := Bd.of 1000000000000 (by omega)
theorem bd3 {n : Int} (h0 : 0 ≤ n) (h1 : n ≤ 1000) : Bd 10 n := Bd.of 1000 (by omega)
theorem bd1 {k : Nat} (h : 0 < k := by decide) : Bd k 1 := Bd.of 1 (by decide) (by
  have : 2 ^ 1 ≤ 2 ^ k := Nat.pow_le_pow_right (by decide) h
  omega)
theorem gt_num {q : Rat} {b : Int} (hqb : ¬ q = (b : Rat)) : ((b : Rat) < q) ↔ ¬ (q - b).num < 0 := by
  have h := @int_lt 0 (q - b)
  rw [Int.zero_mul] at h
  rw [← h, show ((0 : Int) : Rat) = 0 from rfl]
  grind
theorem lt_dv {n x d : Int} (hd : 0 < d) : ((n : Rat) < Rat.divInt x d) ↔ n * d < x := by
  have h : (0 : Rat) < (d : Rat) := by exact Rat.intCast_lt_intCast.mpr hd
  rw [Rat.divInt_eq_div, Rat.lt_div_iff h, ← Rat.intCast_mul, Rat.intCast_lt_intCast]
theorem dv_lt {n x d : Int} (hd : 0 < d) : (Rat.divInt x d < (n : Rat)) ↔ x < n * d := by
  have h : (0 : Rat) < (d : Rat) := by exact Rat.intCast_lt_intCast.mpr hd
  rw [Rat.divInt_eq_div, Rat.div_lt_iff h, ← Rat.intCast_mul, Rat.intCast_lt_intCast]
theorem lin_dv (b s : Int) (p : Rat) : Rat.divInt (b * p.den + s * p.num) p.den = (b : Rat) + s * p := by
  have h : ((p.den : Int) : Rat) ≠ 0 := fun z => den_ne p (Rat.intCast_inj.mp z)
  have e : (p.num : Rat) = p * ((p.den : Int) : Rat) := by
    have q := Rat.num_divInt_den p
    rw [Rat.divInt_eq_div] at q
    have q2 := congrArg (· * ((p.den : Int) : Rat)) q
    simp only [Rat.div_mul_cancel h] at q2
    exact q2
  rw [Rat.divInt_eq_div, Rat.intCast_add, Rat.intCast_mul, Rat.intCast_mul, e]
  grind
def capG (g : D) (x : Rat) : Rat := match g with | .int n => if (n : Rat) < x then n else x | _ => x
/-- the size at a price -/
def sizQ (b l : Int) (g : D) (w s : Int) (p : Rat) : Rat :=
  if p < 0 then (if (b : Rat) + s * p < l then (l : Rat) else (b : Rat) + s * p) else capG g ((b : Rat) + w * p)
theorem lt_zero {p : Rat} : p < 0 ↔ p.num < 0 := by
  have h := @int_lt 0 p
  rw [Int.zero_mul] at h
  exact h
theorem Sz.lin {k : Nat} {b s : Int} {p : Rat} (hb : Bd 40 b) (hs : Bd 40 s) (hp : Sz k p) : Sz (k + 41) ((b : Rat) + s * p) := by
  rw [← lin_dv]
  exact Sz.divInt (den_ne p) (Bd.add (k := k + 40) ((hb.mul hp.d).mono (by omega)) ((hs.mul hp.n).mono (by omega))) hp.d (k + 41)

abbrev s_Part___init__ : Stmt := inClass (top 28) 0
theorem sc_Part___init__ : FnScope ["self", "base", "least", "greatest", "grow", "shrink"] ["self", "base", "least", "greatest", "grow", "shrink"] (defScope s_Part___init__) := ⟨rfl, rfl, rfl, by decide +kernel, rfl, by decide +kernel, by decide +kernel⟩
def sp_Part___init__ (C : Addr) : Sp := fun vs H Q _ => ∃ I M x dx b l g u w s, vs = [.ref x, .int b, .int l, u, .int w, .int s] ∧ W I H ((x, .ins C dx []) :: M) ∧ Is I u g ∧ PartOk b l g w s ∧ ∀ H', W I H' ((x, .ins C dx [("base", .int b), ("least", .int l), ("greatest", u), ("grow", .int w), ("shrink", .int s)]) :: M) → Q .non H'
theorem use_Part {C : Addr} {I H : Hp} {M : List (Addr × HO)} {b l w s : Int} {u : V} {g : D} {Q : VK} {E : XK} (ww : W I H M) (hu : Is I u g) (ok : PartOk b l g w s) (q : ∀ r J H', Same I J → W J H' M → Is J r (prt C b l g w s) → Q r H') : MakeQ C (sp_Part___init__ C) E Q [.int b, .int l, u, .int w, .int s] H :=
  s_makeW ww fun x dx H1 nx w1 => ⟨I, M, x, dx, b, l, g, u, w, s, rfl, w1, hu, ok, fun H2 w2 => ⟨rfl, by
    obtain ⟨J, s1, w3, h3⟩ := w2.doneO (.cons (.int b) (.cons (.int l) (.cons hu (.cons (.int w) (.cons (.int s) .nil)))))
    exact q _ J _ s1 w3 h3⟩⟩
theorem n_mkPart {C : Addr} {F : List (V × D)} {H : Hp} {M : List ME} {b l w s : Int} {u : V} {g : D} {Q : VK} {E : XK} (ww : Wf F H M) (hu : Kn F u g) (ok : PartOk b l g w s) (q : ∀ r H', Wf ((r, prt C b l g w s) :: F) H' M → Q r H') : MakeQ C (sp_Part___init__ C) E Q [.int b, .int l, u, .int w, .int s] H := by
  obtain ⟨I, Mc, ww, is, _, up⟩ := ww.old
  exact use_Part ww (is _ _ hu) ok fun r J H' s w' h => q r H' (up J H' r _ s w' h)

theorem ok_Part___init__ {f : Addr} {fd : FuncData} (F : FunD K "__init__" "Part.__init__" (defArgs s_Part___init__) (defBody s_Part___init__) (defScope s_Part___init__) [.int 0, .non, .int 1, .int 1] [] f fd) (B : Bn mg) (c_is_length : Cal P wd K mg base "is_length" 2 ["thing"] [] (sp_is_length K)) (c_is_weight : Cal P wd K mg base "is_weight" 2 ["thing"] [] (sp_is_weight K)) (o_Part : OwnC K C_Part) (n_Part : ∀ f ∈ (["base", "least", "greatest", "grow", "shrink"] : List Str), NoAttr K C_Part f)  : FnOk P wd K mg base CX0 3 f fd ["self", "base", "least", "greatest", "grow", "shrink"] (sp_Part___init__ C_Part) := by
  refine F.ok0 sc_Part___init__ (fun vs H Q E h => ?_) (fun cdv A outer s H vs Q E hr h => ?_)
  · obtain ⟨I, M, x, dx, b, l, g, u, w, s, rfl, ww, hu, ok, k⟩ := h
    all_goals rfl
  · obtain ⟨I, M, x, dx, b, l, g, u, w, s, rfl, ww, hu, ok, k⟩ := h
    refine ⟨_, (pss_cons (ps_if (pt_not (pt_val (pe_cal c_is_length (hr.mono (by decide)) (by rfl) (pa_cons (pv 1) pa_nil)))) pss_never pss_nil)
      (pss_cons (ps_if (pw_or (pt_not (pt_val (pe_cal c_is_length (hr.mono (by decide)) (by rfl) (pa_cons (pv 2) pa_nil)))) (pw_or1 (pt_cmpR op_gt (pv 2) (pv 1) (nomark _)))).pt pss_never pss_nil)
      (pss_cons (ps_if (pw_and (pt_cmp (pc_notN (pv 3))) (pw_and1 (pw_or (pt_not (pt_val (pe_cal c_is_length (hr.mono (by decide)) (by rfl) (pa_cons (pv 3) pa_nil)))) (pw_or1 (pt_cmpR op_lt (pv 3) (pv 1) (nomark _)))).pt)).pt pss_never pss_nil)
      (pss_cons (ps_if (pt_not (pt_val (pe_cal c_is_weight (hr.mono (by decide)) (by rfl) (pa_cons (pv 4) pa_nil)))) pss_never pss_nil)
      (pss_cons (ps_if (pt_not (pt_val (pe_cal c_is_weight (hr.mono (by decide)) (by rfl) (pa_cons (pv 5) pa_nil)))) pss_never pss_nil)
      (pss_cons (kps_fld (K := K) rfl (pv 0) (pv 1) rfl)
      (pss_cons (kps_fld (K := K) rfl (pv 0) (pv 2) rfl)
      (pss_cons (kps_fld (K := K) rfl (pv 0) (pv 3) rfl)
      (pss_cons (kps_fld (K := K) rfl (pv 0) (pv 4) rfl)
      (pss_one (kps_fld (K := K) rfl (pv 0) (pv 5) rfl))))))))))), ?_⟩
    try dsimp only [cxOf, Cx.nox, Cx.wish, Cx.blk]
    have l0 := ok.l0; have lb := ok.lb; have bm := ok.bm; have w0 := ok.w0; have w1 := ok.w1; have s0 := ok.s0; have s1 := ok.s1
    wtm_at "go"
    refine use_is_length ww (by omega) (by omega) ?_
    wtm_at "go"
    refine use_is_length ww (by omega) (by omega) ?_
    wtm_at "go"
    ktr_call "o1" 0
    with_reducible refine s_next ?_
    with_reducible refine s_mid (fun σ' H' => H' = H ∧ σ' = [some (.ref x), some (.int b), some (.int l), some u, some (.int w), some (.int s)]) ?_ (fun N fin => ?_)
    · rintro σ' H' ⟨rfl, rfl⟩
      wtm_at "go"
      refine use_is_weight ww (by omega) (by omega) ?_
      wtm_at "go"
      refine use_is_weight ww (by omega) (by omega) ?_
      wtm_at "go"
      refine s_sfW ww o_Part.cl n_Part (by decide) (by simp) fun H1 w1 => ?_
      rw [putF_new (by (try simp only [List.nil_append, List.cons_append, List.map_cons, List.map_nil]); decide)] at w1
      wtm_at "go"
      refine s_sfW w1 o_Part.cl n_Part (by decide) (by simp) fun H2 w2 => ?_
      rw [putF_new (by (try simp only [List.nil_append, List.cons_append, List.map_cons, List.map_nil]); decide)] at w2
      wtm_at "go"
      refine s_sfW w2 o_Part.cl n_Part (by decide) (by simp) fun H3 w3 => ?_
      rw [putF_new (by (try simp only [List.nil_append, List.cons_append, List.map_cons, List.map_nil]); decide)] at w3
      wtm_at "go"
      refine s_sfW w3 o_Part.cl n_Part (by decide) (by simp) fun H4 w4 => ?_
      rw [putF_new (by (try simp only [List.nil_append, List.cons_append, List.map_cons, List.map_nil]); decide)] at w4
      wtm_at "go"
      refine s_sfW w4 o_Part.cl n_Part (by decide) (by simp) fun H5 w5 => ?_
      rw [putF_new (by (try simp only [List.nil_append, List.cons_append, List.map_cons, List.map_nil]); decide)] at w5
      wtm_at "go"
      exact k _ w5
    · rcases ok.gr with rfl | ⟨n, rfl, g1, g2⟩
      · cases hu.non_eq
        wtm_at "go"
        exact fin _ _ ⟨rfl, rfl⟩
      · cases hu.int_eq
        wtm_at "go"
        refine use_is_length ww (by omega) (by omega) ?_
        wtm_at "goo"
        exact fin _ _ ⟨rfl, rfl⟩
abbrev s_Part_size_at : Stmt := inClass (top 28) 1
theorem sc_Part_size_at : FnScope ["self", "price", "top", "bottom", "size"] ["self", "price"] (defScope s_Part_size_at) := ⟨rfl, rfl, rfl, by decide +kernel, rfl, by decide +kernel, by decide +kernel⟩
def sp_Part_size_at (C : Addr) : Sp := fun vs H Q _ => ∃ I M u v b l g w s, ∃ p : Rat, vs = [u, v] ∧ W I H M ∧ Is I u (prt C b l g w s) ∧ Is I v (frq p) ∧ PartOk b l g w s ∧ Sz 7000 p ∧ ∀ r J H', Same I J → W J H' M → Is J r (frq (sizQ b l g w s p)) → Q r H'
theorem use_size_at {C : Addr} {I H : Hp} {M : List (Addr × HO)} {u v : V} {b l w s : Int} {g : D} {p : Rat} {Q : VK} {E : XK} (ww : W I H M) (hu : Is I u (prt C b l g w s)) (hv : Is I v (frq p)) (ok : PartOk b l g w s) (hp : Sz 7000 p) (f : ∀ r J H', Same I J → W J H' M → Is J r (frq (sizQ b l g w s p)) → Q r H') : sp_Part_size_at C (u :: ([v] ++ [])) H Q E := ⟨I, M, u, v, b, l, g, w, s, p, rfl, ww, hu, hv, ok, hp, f⟩

theorem ok_Part_size_at {f : Addr} {fd : FuncData} (F : Fun K "size_at" "Part.size_at" s_Part_size_at f fd) (B : Bn mg) (c_fraction : Cal P wd K mg base "fraction" 2 ["top", "bottom"] [] sp_fraction) (c_is_below : Cal P wd K mg base "is_below" 1 ["one", "other"] [] sp_is_below) (o_Part : OwnC K C_Part) (n_Part : ∀ f ∈ (["base", "least", "greatest", "grow", "shrink"] : List Str), NoAttr K C_Part f)  : FnOk P wd K mg base CX0 3 f fd ["self", "price"] (sp_Part_size_at C_Part) := by
  refine F.ok sc_Part_size_at (fun vs H Q E h => ?_) (fun cdv A outer s H vs Q E hr h => ?_)
  · obtain ⟨I, M, u, v, b, l, g, w, s, p, rfl, ww, hu, hv, ok, hp, k⟩ := h
    all_goals rfl
  · obtain ⟨I, M, u, v, b, l, g, w, s, p, rfl, ww, hu, hv, ok, hp, k⟩ := h
    refine ⟨_, (pss_cons (ps_asg (pv 1) (kpg_tup (K := K) (n := 2) rfl rfl (pgs_cons (pg_name (i := 2) sc_Part_size_at.nd rfl (Or.inl rfl)) (pgs_cons (pg_name (i := 3) sc_Part_size_at.nd rfl (Or.inl rfl)) pgs_nil))))
      (pss_cons (ps_if (pt_cmpR op_lt (pv 2) pe_int (nomark _)) (pss_cons (ps_set (i := 4) sc_Part_size_at.nd rfl (Or.inl rfl) (pe_cal c_fraction (hr.mono (by decide)) (by rfl) (pa_cons (pe_op (k_add (K := K) rfl) (pe_op uo_mul (kpe_fld (K := K) rfl (pv 0) rfl) (pv 3)) (pe_op uo_mul (kpe_fld (K := K) rfl (pv 0) rfl) (pv 2))) (pa_cons (pv 3) pa_nil))))
      (pss_cons (ps_if (pt_val (pe_cal c_is_below (hr.mono (by decide)) (by rfl) (pa_cons (pv 4) (pa_cons (pe_tup (pa_cons (kpe_fld (K := K) rfl (pv 0) rfl) (pa_cons pe_int pa_nil))) pa_nil)))) (pss_one (ps_ret (pe_tup (pa_cons (kpe_fld (K := K) rfl (pv 0) rfl) (pa_cons pe_int pa_nil))))) pss_nil)
      (pss_one (ps_ret (pv 4))))) pss_nil)
      (pss_cons (ps_set (i := 4) sc_Part_size_at.nd rfl (Or.inl rfl) (pe_cal c_fraction (hr.mono (by decide)) (by rfl) (pa_cons (pe_op (k_add (K := K) rfl) (pe_op uo_mul (kpe_fld (K := K) rfl (pv 0) rfl) (pv 3)) (pe_op uo_mul (kpe_fld (K := K) rfl (pv 0) rfl) (pv 2))) (pa_cons (pv 3) pa_nil))))
      (pss_cons (ps_if (pw_and (pt_cmp (pc_notN (kpe_fld (K := K) rfl (pv 0) rfl))) (pw_and1 (pt_val (pe_cal c_is_below (hr.mono (by decide)) (by rfl) (pa_cons (pe_tup (pa_cons (kpe_fld (K := K) rfl (pv 0) rfl) (pa_cons pe_int pa_nil))) (pa_cons (pv 4) pa_nil)))))).pt (pss_one (ps_ret (pe_tup (pa_cons (kpe_fld (K := K) rfl (pv 0) rfl) (pa_cons pe_int pa_nil))))) pss_nil)
      (pss_one (ps_ret (pv 4))))))), ?_⟩
    try dsimp only [cxOf, Cx.nox, Cx.wish, Cx.blk]
    have l0 := ok.l0; have lb := ok.lb; have bm := ok.bm; have w0 := ok.w0; have w1 := ok.w1; have s0 := ok.s0; have s1 := ok.s1
    have bB : Bd 40 b := bd12 (by omega) bm
    have bL : Bd 40 l := bd12 l0 (by omega)
    have bW : Bd 10 w := bd3 w0 w1
    have bS : Bd 10 s := bd3 s0 s1
    wtm_at "go"
    refine s_gtup2 ww hv fun z1 z2 hz1 hz2 => ?_
    cases hz1.int_eq
    cases hz2.int_eq
    wtm_at "go"
    wtm_at "fork"
    · rename_i hn
      have hp0 : p < 0 := lt_zero.mpr hn
      have sx : Sz 7041 ((b : Rat) + s * p) := Sz.lin bB (bS.mono (by decide)) hp
      wtm_at "go"
      refine s_mul (bB.cm hp.d) ?_
      wtm_at "go"
      refine s_mul (bS.cm hp.n) ?_
      wtm_at "go"
      refine use_fraction ww (den_ne p) (hp.d.mono (by decide)) fun r J1 H1 e1 ww1 h1 => ?_
      rw [lin_dv] at h1
      have hu1 := hu.mono e1
      wtm_at "go"
      refine s_newT ww1 (by ktf_call "isa") (by simp) fun q J2 H2 e2 _ ww2 h2 => ?_
      have hu2 := hu1.mono e2
      have e12 := e1.trans e2
      wtm_at "go"
      refine ⟨J2, M, _, _, _, _, _, _, rfl, ww2, h1.mono e2, h2, sx.n.mono (by decide), sx.d.mono (by decide), bL.mono (by decide), bd1, ?_⟩
      wtm_at "go"
      wtm_at "fork"
      · rename_i hl
        rw [Int.mul_one] at hl
        wtm_at "go"
        refine s_newT ww2 (by ktf_call "isa") (by simp) fun q J3 H3 e3 _ ww3 h3 => ?_
        refine k _ J3 H3 (e12.trans e3) ww3 ?_
        rw [sizQ, if_pos hp0, if_pos (int_lt.mpr hl)]
        exact h3
      · rename_i hl
        rw [Int.mul_one] at hl
        wtm_at "go"
        refine k _ J2 H2 e12 ww2 ?_
        rw [sizQ, if_pos hp0, if_neg (fun z => hl (int_lt.mp z))]
        exact h1.mono e2
    rename_i hn
    have hp0 : ¬ p < 0 := fun z => hn (lt_zero.mp z)
    have sx : Sz 7041 ((b : Rat) + w * p) := Sz.lin bB (bW.mono (by decide)) hp
    wtm_at "go"
    refine s_mul (bB.cm hp.d) ?_
    wtm_at "go"
    refine s_mul (bW.cm hp.n) ?_
    wtm_at "go"
    refine use_fraction ww (den_ne p) (hp.d.mono (by decide)) fun r J1 H1 e1 ww1 h1 => ?_
    rw [lin_dv] at h1
    have hu1 := hu.mono e1
    rcases ok.gr with rfl | ⟨n, rfl, g1, g2⟩
    · wtm_at "go"
      refine k _ J1 H1 e1 ww1 ?_
      rw [sizQ, if_neg hp0]
      exact h1
    wtm_at "go"
    refine s_newT ww1 (by ktf_call "isa") (by simp) fun q J2 H2 e2 _ ww2 h2 => ?_
    have hu2 := hu1.mono e2
    have e12 := e1.trans e2
    wtm_at "go"
    refine ⟨J2, M, _, _, _, _, _, _, rfl, ww2, h2, h1.mono e2, (bd12 (by omega) g2).mono (by decide), bd1, sx.n.mono (by decide), sx.d.mono (by decide), ?_⟩
    wtm_at "go"
    wtm_at "fork"
    · rename_i hl
      rw [Int.mul_one] at hl
      wtm_at "go"
      refine s_newT ww2 (by ktf_call "isa") (by simp) fun q J3 H3 e3 _ ww3 h3 => ?_
      refine k _ J3 H3 (e12.trans e3) ww3 ?_
      rw [sizQ, if_neg hp0, capG, if_pos (lt_int.mpr hl)]
      exact h3
    · rename_i hl
      rw [Int.mul_one] at hl
      wtm_at "go"
      refine k _ J2 H2 e12 ww2 ?_
      rw [sizQ, if_neg hp0, capG, if_neg (fun z => hl (lt_int.mp z))]
      exact h1.mono e2
abbrev s_edges_of : Stmt := top 30
theorem sc_edges_of : FnScope ["sizes", "total", "edges", "size"] ["sizes"] (defScope s_edges_of) := ⟨rfl, rfl, rfl, by decide +kernel, rfl, by decide +kernel, by decide +kernel⟩
def sp_edges_of : Sp := fun vs H Q _ => ∃ I M v, ∃ qs : List Rat, vs = [v] ∧ W I H M ∧ Is I v (.lst (qs.map frq)) ∧ EdgOk qs ∧ ∀ p J H', Same I J → I p = none → W J H' M → J p = some (.lst ((edg qs).map V.int)) → Q (.ref p) H'
theorem use_edges {I H : Hp} {M : List (Addr × HO)} {v : V} {qs : List Rat} {Q : VK} {E : XK} (w : W I H M) (hv : Is I v (.lst (qs.map frq))) (ok : EdgOk qs) (f : ∀ p J H', Same I J → I p = none → W J H' M → J p = some (.lst ((edg qs).map V.int)) → Q (.ref p) H') : sp_edges_of ([v] ++ []) H Q E := ⟨I, M, v, qs, rfl, w, hv, ok, f⟩
theorem n_edges {F : List (V × D)} {H : Hp} {M : List ME} {v : V} {qs : List Rat} {Q : VK} {E : XK} (w : Wf F H M) (hv : Kn F v (.lst (qs.map frq))) (ok : EdgOk qs) (q : ∀ p H', Wf F H' (.ml p ((edg qs).map D.int) :: M) → Q (.ref p) H') : sp_edges_of ([v] ++ []) H Q E := by
  obtain ⟨I, Mc, w, a, hF⟩ := w.ex
  exact use_edges w (hv.is hF) ok fun p J H' s hn w' hp => q p H' ⟨del J p, _, w'.unf hp, .cons (.ml (IsA.ints _)) (a.mono (same_del s hn)), fun f hf => (hF f hf).mono (same_del s hn)⟩

theorem ok_edges_of {f : Addr} {fd : FuncData} (F : Fun K "edges_of" "edges_of" s_edges_of f fd) (B : Bn mg) (c_plus : Cal P wd K mg base "plus" 3 ["one", "other"] [] sp_plus) (c_floor_of : Cal P wd K mg base "floor_of" 1 ["one"] [] sp_floor_of)  : FnOk P wd K mg base CX0 4 f fd ["sizes"] sp_edges_of := by
  refine F.ok sc_edges_of (fun vs H Q E h => ?_) (fun cdv A outer s H vs Q E hr h => ?_)
  · obtain ⟨I, M, v, qs, rfl, w, hv, ok, k⟩ := h
    all_goals rfl
  · obtain ⟨I, M, v, qs, rfl, w, hv, ok, k⟩ := h
    refine ⟨_, (pss_cons (ps_set (i := 1) sc_edges_of.nd rfl (Or.inl rfl) (pe_tup (pa_cons pe_int (pa_cons pe_int pa_nil))))
      (pss_cons (ps_set (i := 2) sc_edges_of.nd rfl (Or.inl rfl) (pe_lst (pa_cons pe_int pa_nil)))
      (pss_cons (ps_for PassesOwn.never rfl (kpi_list (K := K) rfl (pv 0)) (pg_name (i := 3) sc_edges_of.nd rfl (Or.inl rfl)) (pss_cons (ps_set (i := 1) sc_edges_of.nd rfl (Or.inl rfl) (pe_cal c_plus (hr.mono (by decide)) (by rfl) (pa_cons (pv 1) (pa_cons (pv 3) pa_nil))))
      (pss_one (ps_expr (pe_bm PySem.F.plainAttrs_list PySem.F.slot_list_append PySem.F.type_list_append mt_append (pv 2) (pa_cons (pe_cal c_floor_of (hr.mono (by decide)) (by rfl) (pa_cons (pv 1) pa_nil)) pa_nil))))))
      (pss_one (ps_ret (pv 2)))))), ?_⟩
    try dsimp only [cxOf, Cx.nox, Cx.wish, Cx.blk]
    wtm_at "go"
    refine s_newT w (by ktf_call "isa") (by simp) fun t0 J0 H0 s0 _ w0 h0 => ?_
    wtm_at "go"
    refine ⟨by decide, fun l nl => ?_⟩
    have w1 := w0.newM (o := .lst [.int 0]) nl
    have fl : I l = none := s0.free (w0.fresh nl)
    wtm_at "go"
    refine s_forL w1 (hv.mono s0) (fun i σ' H' => ∃ J tot x3, σ' = [some v, some tot, some (.ref l), x3] ∧ Same J0 J ∧ W J H' ((l, .lst (((List.range (i + 1)).map fun i => (rs (qs.take i)).floor).map V.int)) :: M) ∧ Is J tot (frq (rs (qs.take i))) ∧ i ≤ qs.length) ⟨J0, _, _, rfl, Same.refl _, w1, h0, Nat.zero_le _⟩ ?_ ?_ ?_
    · rintro i σ' H' ⟨J, tot, x3, rfl, s, w2, _⟩
      exact s.trans w2.imm
    · rintro i d x σ' H' hd hx ⟨J, tot, x3, rfl, s, w2, ht, hi⟩
      rw [List.getElem?_map] at hd
      cases hq : qs[i]? with
      | none => rw [hq] at hd; cases hd
      | some q =>
        rw [hq] at hd
        cases hd
        obtain ⟨o1, o2, o3, o4⟩ := ok.ok i q hq
        have hlt : i < qs.length := (List.getElem?_eq_some_iff.mp hq).1
        have hln := ok.ln
        wtm_at "go"
        refine use_plus w2 ht (hx.mono s) o1 o2 (by decide) (by decide) o3 fun r J2 H2 s2 w3 h3 => ?_
        rw [← rs_take hq] at h3
        wtm_at "go"
        refine ⟨J2, _, r, _, _, rfl, w3, h3, o4, den_pos' _, ?_⟩
        rw [← Rat.floor_def]
        wtm_at "go"
        refine s_appW0 w3 (by simp; omega) fun H3 w4 => ?_
        refine ⟨J2, r, _, rfl, s.trans s2, ?_, h3, hlt⟩
        rw [List.range_succ, List.map_append, List.map_append]
        exact w4
    · rintro σ' H' ⟨J, tot, x3, rfl, s, w2, ht, hi⟩
      rw [List.length_map] at w2
      wtm_at "go"
      exact k l (upd J l _) H' (s0.trans (s.trans w2.frzS0)) fl w2.frz0 upd_same
def whl (qs : List Rat) : List Int := (List.range qs.length).map fun i => (rs (qs.take (i + 1))).floor - (rs (qs.take i)).floor

abbrev s_wholes_of : Stmt := top 31
theorem sc_wholes_of : FnScope ["sizes", "edges", "k"] ["sizes"] (defScope s_wholes_of) := ⟨rfl, rfl, rfl, by decide +kernel, rfl, by decide +kernel, by decide +kernel⟩
def sp_wholes_of : Sp := fun vs H Q _ => ∃ I M v, ∃ qs : List Rat, vs = [v] ∧ W I H M ∧ Is I v (.lst (qs.map frq)) ∧ EdgOk qs ∧ ∀ p J H', Same I J → I p = none → W J H' M → Is J (.ref p) (.lst ((whl qs).map D.int)) → Q (.ref p) H'
theorem use_wholes {I H : Hp} {M : List (Addr × HO)} {v : V} {qs : List Rat} {Q : VK} {E : XK} (w : W I H M) (hv : Is I v (.lst (qs.map frq))) (ok : EdgOk qs) (f : ∀ p J H', Same I J → I p = none → W J H' M → Is J (.ref p) (.lst ((whl qs).map D.int)) → Q (.ref p) H') : sp_wholes_of ([v] ++ []) H Q E := ⟨I, M, v, qs, rfl, w, hv, ok, f⟩

theorem ok_wholes_of {f : Addr} {fd : FuncData} (F : Fun K "wholes_of" "wholes_of" s_wholes_of f fd) (B : Bn mg) (c_edges_of : Cal P wd K mg base "edges_of" 4 ["sizes"] [] sp_edges_of)  : FnOk P wd K mg base CX0 5 f fd ["sizes"] sp_wholes_of := by
  refine F.ok sc_wholes_of (fun vs H Q E h => ?_) (fun cdv A outer s H vs Q E hr h => ?_)
  · obtain ⟨I, M, v, qs, rfl, w, hv, ok, k⟩ := h
    all_goals rfl
  · obtain ⟨I, M, v, qs, rfl, w, hv, ok, k⟩ := h
    refine ⟨_, (pss_cons (ps_set (i := 1) sc_wholes_of.nd rfl (Or.inr rfl) (pe_cal c_edges_of (hr.mono (by decide)) (by rfl) (pa_cons (pv 0) pa_nil)))
      (pss_one (ps_ret (pe_lc (own := [("k", 2)]) (by rfl) sc_wholes_of.nd (pi_range1 (by rfl) B.range_ (pa_cons (pe_callB (k_len (K := K) rfl) (by rfl) B.len_ (by decide +kernel) (pa_cons (pv 0) pa_nil)) pa_nil)) (blkOk_by (own := [("k", 2)]) (N := ["sizes", "edges", "k"]) (sc := defScope s_wholes_of) (by decide +kernel)) (fun _ _ _ _ _ => (pg_name (i := 2) sc_wholes_of.nd rfl (Or.inl rfl))) (fun _ _ _ _ _ => pts_nil) (fun _ _ _ _ _ => (pe_op op_sub (pe_ix (k_ix (K := K) rfl) (pv 1) (pe_op (k_add (K := K) rfl) (pv 2) pe_int) (fun _ _ => rfl)) (pe_ix (k_ix (K := K) rfl) (pv 1) (pv 2) (fun _ _ => rfl)))))))), ?_⟩
    try dsimp only [cxOf, Cx.nox, Cx.wish, Cx.blk]
    have hln := ok.ln
    wtm_at "go"
    refine use_edges w hv ok fun e J1 H1 s1 fe w1 he => ?_
    have h1 : Is J1 (.ref e) (.lst ((edg qs).map D.int)) := .lst he (IsA.ints _)
    have hv1 := hv.mono s1
    wtm_at "go"
    refine s_lcRng (lo := 0) (by omega) (by simp; omega) ?_
    rw [List.length_map]
    refine lc_pure walk_range w1 (fun _ _ => trivial) (fun i => .int ((rs (qs.take (i + 1))).floor - (rs (qs.take i)).floor)) (by omega) (fun _ => rfl) ?_ ?_
    · rintro i x Dl acc J' H0 H' C hi s w' ⟨rfl, rfl⟩ fin
      have hi' : i < qs.length := by omega
      wtm_at "go"
      have e1 : atI ((edg qs).map D.int) (0 + (i : Int) + 1) = some (.int (rs (qs.take (i + 1))).floor) := by
        have := atI_nat (xs := (edg qs).map D.int) (j := i + 1) (v := D.int (rs (qs.take (i + 1))).floor) (by rw [List.getElem?_map, edg_at (by omega)]; rfl)
        rw [show (0 + (i : Int) + 1) = ((i + 1 : Nat) : Int) by omega]
        exact this
      have e2 : atI ((edg qs).map D.int) (0 + (i : Int)) = some (.int (rs (qs.take i)).floor) := atI0 (by rw [List.getElem?_map, edg_at (by omega)]; rfl)
      refine s_ixL w' (h1.mono s) e1 ?_
      wtm_at "inv"
      wtm_at "go"
      refine s_ixL w' (h1.mono s) e2 ?_
      wtm_at "inv"
      wtm_at "go"
      exact fin _ J' _ (Same.refl _) w' (.int _)
    · intro p J' H' s np w' hp
      have e : (List.range (qs.length : Int).toNat).map (fun i => D.int ((rs (qs.take (i + 1))).floor - (rs (qs.take i)).floor)) = (whl qs).map D.int := by
        unfold whl
        rw [List.map_map]
        rfl
      rw [e] at hp
      exact k p J' H' (s1.trans s) (s1.free np) w' hp
/-! ### parts that share a room: prices -/
structure Row where
  b : Int
  l : Int
  g : Option Int
  w : Int
  s : Int
abbrev prtR (C : Addr) (r : Row) : D := prt C r.b r.l (oD r.g) r.w r.s
abbrev rowR' (r : Row) : D := rowD r.b r.l (oD r.g) r.w r.s
def ROk (r : Row) : Prop := PartOk r.b r.l (oD r.g) r.w r.s
def sizR (r : Row) (p : Rat) : Rat := sizQ r.b r.l (oD r.g) r.w r.s p
theorem row_of {b l w s : Int} {g : D} (ok : PartOk b l g w s) : ∃ r : Row, ROk r ∧ rowD b l g w s = rowR' r ∧ r.b = b ∧ r.l = l ∧ r.w = w ∧ r.s = s ∧ oD r.g = g := by
  rcases ok.gr with rfl | ⟨n, rfl, _, _⟩
  · exact ⟨⟨b, l, none, w, s⟩, ok, rfl, rfl, rfl, rfl, rfl, rfl⟩
  · exact ⟨⟨b, l, some n, w, s⟩, ok, rfl, rfl, rfl, rfl, rfl, rfl⟩
/-- a way: a weight and an end -/
abbrev Way := Int × Option Int
abbrev wyD (x : Way) : D := .tup [.int x.1, oD x.2]
structure WyOk (x : Way) : Prop where
  w0 : 0 ≤ x.1
  w1 : x.1 ≤ 1000
  e0 : ∀ e, x.2 = some e → 0 ≤ e ∧ e ≤ 1000000000000
/-- what a way gives at a price -/
def gvQ (p : Rat) (x : Way) : Rat := if 0 < x.1 then (match x.2 with | none => (x.1 : Rat) * p | some e => if (e : Rat) < (x.1 : Rat) * p then (e : Rat) else (x.1 : Rat) * p) else 0
def edQ (x : Way) : Rat := if 0 < x.1 then ((x.2.getD 0 : Int) : Rat) else 0
/-- what price_for tells -/
def PriceR (ws : List Way) (A : Rat) : Option Rat → Prop
  | some p => 0 < p ∧ rs (ws.map (gvQ p)) = A ∧ ∃ x ∈ ws, 0 < x.1 ∧ ∀ e, x.2 = some e → (x.1 : Rat) * p ≤ e
  | none => (∀ x ∈ ws, 0 < x.1 → x.2 ≠ none) ∧ rs (ws.map edQ) < A
def stayB (p : Rat) (x : Way) : Bool := match x.2 with | none => true | some e => decide (x.1 * p.num ≤ e * p.den)
theorem stay_iff {p : Rat} {w e : Int} : w * p.num ≤ e * p.den ↔ (w : Rat) * p ≤ e := by
  have h := @int_lt e ((w : Rat) * p)
  have h2 : ¬ ((e : Rat) < (w : Rat) * p) ↔ (w : Rat) * p ≤ e := by grind
  rw [← h2]
  have hd0 : (0 : Int) < (p.den : Int) := Int.natCast_pos.mpr p.den_pos
  have hd : (0 : Rat) < ((p.den : Int) : Rat) := by exact Rat.intCast_lt_intCast.mpr hd0
  have e1 : (p.num : Rat) = p * ((p.den : Int) : Rat) := by
    have q := Rat.num_divInt_den p
    rw [Rat.divInt_eq_div] at q
    have q2 := congrArg (· * ((p.den : Int) : Rat)) q
    have hne : ((p.den : Int) : Rat) ≠ 0 := by grind
    simp only [Rat.div_mul_cancel hne] at q2
    exact q2
  constructor
  · intro h1 h3
    have h4 : ((w * p.num : Int) : Rat) ≤ ((e * p.den : Int) : Rat) := Rat.intCast_le_intCast.mpr h1
    rw [Rat.intCast_mul, Rat.intCast_mul, e1] at h4
    have h5 := Rat.mul_lt_mul_of_pos_right h3 hd
    grind
  · intro h1
    apply Rat.intCast_le_intCast.mp
    rw [Rat.intCast_mul, Rat.intCast_mul, e1]
    have h5 : (w : Rat) * p ≤ e := by grind
    have h6 := Rat.mul_le_mul_of_nonneg_right h5 (Rat.le_of_lt hd)
    grind
def wyS (xs : List Way) : Int := (xs.map (·.1)).sum
def edS (xs : List Way) : Int := (xs.map fun x => x.2.getD 0).sum
theorem wyS_cons (x : Way) (xs : List Way) : wyS (x :: xs) = x.1 + wyS xs := rfl
theorem edS_cons (x : Way) (xs : List Way) : edS (x :: xs) = x.2.getD 0 + edS xs := rfl
theorem wyS_app (xs ys : List Way) : wyS (xs ++ ys) = wyS xs + wyS ys := by
  induction xs with
  | nil => simp [wyS]
  | cons x xs ih => rw [List.cons_append, wyS_cons, wyS_cons, ih]; omega
theorem edS_app (xs ys : List Way) : edS (xs ++ ys) = edS xs + edS ys := by
  induction xs with
  | nil => simp [edS]
  | cons x xs ih => rw [List.cons_append, edS_cons, edS_cons, ih]; omega
theorem wyS_pos {xs : List Way} (h : ∀ x ∈ xs, 0 < x.1) (hn : xs ≠ []) : 0 < wyS xs := by
  induction xs with
  | nil => exact absurd rfl hn
  | cons x xs ih =>
    have h1 := h x List.mem_cons_self
    rw [wyS_cons]
    by_cases e : xs = []
    · subst e; simp [wyS]; exact h1
    · have := ih (fun y hy => h y (List.mem_cons_of_mem _ hy)) e
      omega
theorem wyS_le {xs : List Way} (h : ∀ x ∈ xs, x.1 ≤ 1000) : wyS xs ≤ 1000 * xs.length := by
  induction xs with
  | nil => simp [wyS]
  | cons x xs ih =>
    have h1 := h x List.mem_cons_self
    have := ih fun y hy => h y (List.mem_cons_of_mem _ hy)
    rw [wyS_cons, List.length_cons]
    omega
theorem wyS_nn {xs : List Way} (h : ∀ x ∈ xs, 0 < x.1) : 0 ≤ wyS xs := by
  by_cases e : xs = []
  · subst e; simp [wyS]
  · exact Int.le_of_lt (wyS_pos h e)
theorem edS_nn {xs : List Way} (h : ∀ x ∈ xs, WyOk x) : 0 ≤ edS xs := by
  induction xs with
  | nil => simp [edS]
  | cons x xs ih =>
    have h1 := (h x List.mem_cons_self).e0
    have := ih fun y hy => h y (List.mem_cons_of_mem _ hy)
    rw [edS_cons]
    cases e : x.2 with
    | none => simp; omega
    | some z => have := h1 z e; simp; omega
theorem filter_perm {α : Type} (P : α → Bool) : ∀ (l : List α), List.Perm (l.filter P ++ l.filter (fun x => !P x)) l
  | [] => .nil
  | x :: l => by
    cases h : P x with
    | true =>
      rw [List.filter_cons_of_pos h, List.filter_cons_of_neg (by simp [h])]
      exact (filter_perm P l).cons x
    | false =>
      rw [List.filter_cons_of_neg (by simp [h]), List.filter_cons_of_pos (by simp [h])]
      exact (List.perm_middle).trans ((filter_perm P l).cons x)
theorem wyS_perm {xs ys : List Way} (h : List.Perm xs ys) : wyS xs = wyS ys := by
  induction h with
  | nil => rfl
  | cons x _ ih => rw [wyS_cons, wyS_cons, ih]
  | swap x y l => rw [wyS_cons, wyS_cons, wyS_cons, wyS_cons]; omega
  | trans _ _ h1 h2 => exact h1.trans h2
theorem rs_perm {α : Type} {f : α → Rat} {xs ys : List α} (h : List.Perm xs ys) : rs (xs.map f) = rs (ys.map f) := by
  induction h with
  | nil => rfl
  | cons x _ ih => rw [List.map_cons, List.map_cons, rs_cons, rs_cons, ih]
  | swap x y l => rw [List.map_cons, List.map_cons, List.map_cons, List.map_cons, rs_cons, rs_cons, rs_cons, rs_cons]; grind
  | trans _ _ h1 h2 => exact h1.trans h2
/-- the free ways, and those at their ends -/
structure PfI (ws : List Way) (A : Rat) (fs : List Way) (L : Rat) : Prop where
  ex : ∃ gone : List Way, List.Perm (fs ++ gone) (ws.filter fun x => decide (0 < x.1)) ∧ (∀ g ∈ gone, ∃ e, g.2 = some e ∧ (e : Rat) * wyS fs < (g.1 : Rat) * L) ∧ L = A - edS gone
  pos : 0 < L
theorem PfI.start {ws : List Way} {A : Rat} (h : 0 < A) : PfI ws A (ws.filter fun x => decide (0 < x.1)) A :=
  ⟨⟨[], by rw [List.append_nil], fun _ h => (nomatch h), by show A = A - ((0 : Int) : Rat); grind⟩, h⟩
theorem PfI.mem {ws fs : List Way} {A L : Rat} (h : PfI ws A fs L) {x : Way} (hx : x ∈ fs) : x ∈ ws ∧ 0 < x.1 := by
  obtain ⟨gone, hp, _⟩ := h.ex
  have := hp.mem_iff.mp (List.mem_append_left gone hx)
  simpa using List.mem_filter.mp this
/-- ends below what the ways would give -/
theorem gone_sum {p : Rat} {gs : List Way} (h : ∀ g ∈ gs, ∃ e, g.2 = some e ∧ (e : Rat) < (g.1 : Rat) * p) : (edS gs : Rat) ≤ p * wyS gs ∧ (gs ≠ [] → (edS gs : Rat) < p * wyS gs) := by
  induction gs with
  | nil => simp [edS, wyS]
  | cons g gs ih =>
    obtain ⟨e, he, h1⟩ := h g List.mem_cons_self
    have ⟨i1, _⟩ := ih fun y hy => h y (List.mem_cons_of_mem _ hy)
    rw [edS_cons, wyS_cons, he, Option.getD_some, Rat.intCast_add, Rat.intCast_add]
    constructor
    · grind
    · intro _; grind
theorem rat_pos_mul {a b : Rat} (ha : 0 < a) (hb : 0 < b) : 0 < a * b := Rat.mul_pos ha hb
theorem pf_lin1 {x y s L : Rat} (h : x + y = L) (h1 : s ≤ y) : x ≤ L - s := by grind
theorem pf_lin2 {x y s L : Rat} (h : x + y = L) (h1 : s < y) : x < L - s := by grind
theorem pf_lin3 {x y z : Rat} (h : x ≤ y) (h1 : y < z) : x < z := by grind
theorem pf_lin4 {x y : Rat} (h : 0 ≤ x) (h1 : x < y) : 0 < y := by grind
theorem pf_lin5 {A x y : Rat} : A - x - y = A - (y + x) := by grind
theorem pf_lin6 {A L g : Rat} (h : L = A - g) : L + g = A := by grind
theorem pf_lin7 {A L g : Rat} (h : L = A - g) (h1 : 0 < L) : g < A := by grind
/-- a turn of the while -/
theorem PfI.turn {ws fs : List Way} {A L p : Rat} (h : PfI ws A fs L) (hn : fs ≠ []) (hp : p = L / (wyS fs : Rat)) :
    0 < p ∧ L - edS (fs.filter fun x => !stayB p x) ≥ 0 ∧ ((fs.filter fun x => !stayB p x) ≠ [] → PfI ws A (fs.filter (stayB p)) (L - edS (fs.filter fun x => !stayB p x))) := by
  have hpos : ∀ x ∈ fs, 0 < x.1 := fun x hx => (h.mem hx).2
  have hW : (0 : Rat) < (wyS fs : Rat) := Rat.intCast_lt_intCast.mpr (wyS_pos hpos hn)
  have hWn : (wyS fs : Rat) ≠ 0 := by grind
  have hL := h.pos
  have epW : p * (wyS fs : Rat) = L := by rw [hp, Rat.div_mul_cancel hWn]
  have p0 : 0 < p := by
    rw [hp, Rat.div_def]
    exact Rat.mul_pos hL (Rat.inv_pos.mpr hW)
  have hg : ∀ g ∈ (fs.filter fun x => !stayB p x), ∃ e, g.2 = some e ∧ (e : Rat) < (g.1 : Rat) * p := by
    intro g hg
    obtain ⟨_, h2⟩ := List.mem_filter.mp hg
    unfold stayB at h2
    cases e : g.2 with
    | none => rw [e] at h2; simp at h2
    | some z =>
      rw [e] at h2
      refine ⟨z, rfl, ?_⟩
      have h3 : ¬ (g.1 * p.num ≤ z * p.den) := by simpa using h2
      rw [stay_iff] at h3
      grind
  have ⟨g1, g2⟩ := gone_sum hg
  have hper := filter_perm (stayB p) fs
  have ew : wyS (fs.filter (stayB p)) + wyS (fs.filter fun x => !stayB p x) = wyS fs := by
    rw [← wyS_app]
    exact wyS_perm hper
  have ewr : (wyS (fs.filter (stayB p)) : Rat) + (wyS (fs.filter fun x => !stayB p x) : Rat) = (wyS fs : Rat) := by rw [← Rat.intCast_add, ew]
  have hW' : (0 : Rat) ≤ (wyS (fs.filter (stayB p)) : Rat) := Rat.intCast_le_intCast.mpr (wyS_nn fun x hx => hpos x (List.mem_filter.mp hx).1)
  have hpW' : 0 ≤ p * (wyS (fs.filter (stayB p)) : Rat) := Rat.mul_nonneg (Rat.le_of_lt p0) hW'
  have em : p * (wyS (fs.filter (stayB p)) : Rat) + p * (wyS (fs.filter fun x => !stayB p x) : Rat) = L := by rw [← Rat.mul_add, ewr, epW]
  have key : p * (wyS (fs.filter (stayB p)) : Rat) ≤ L - (edS (fs.filter fun x => !stayB p x) : Rat) := pf_lin1 em g1
  refine ⟨p0, Rat.le_trans hpW' key, fun hne => ?_⟩
  have g3 := g2 hne
  have key2 : p * (wyS (fs.filter (stayB p)) : Rat) < L - (edS (fs.filter fun x => !stayB p x) : Rat) := pf_lin2 em g3
  obtain ⟨gone, hp1, hp2, hp3⟩ := h.ex
  refine ⟨⟨(fs.filter fun x => !stayB p x) ++ gone, ?_, fun g hgm => ?_, ?_⟩, pf_lin4 hpW' key2⟩
  · rw [← List.append_assoc]
    exact (hper.append_right gone).trans hp1
  · have fin : ∀ e : Int, (e : Rat) < (g.1 : Rat) * p → 0 < g.1 → (e : Rat) * (wyS (fs.filter (stayB p)) : Rat) < (g.1 : Rat) * (L - (edS (fs.filter fun x => !stayB p x) : Rat)) := by
      intro e he hg0
      have hg0' : (0 : Rat) < (g.1 : Rat) := Rat.intCast_lt_intCast.mpr hg0
      have s1 : (e : Rat) * (wyS (fs.filter (stayB p)) : Rat) ≤ ((g.1 : Rat) * p) * (wyS (fs.filter (stayB p)) : Rat) := Rat.mul_le_mul_of_nonneg_right (Rat.le_of_lt he) hW'
      have s2 : (g.1 : Rat) * (p * (wyS (fs.filter (stayB p)) : Rat)) < (g.1 : Rat) * (L - (edS (fs.filter fun x => !stayB p x) : Rat)) := Rat.mul_lt_mul_of_pos_left key2 hg0'
      rw [Rat.mul_assoc] at s1
      exact pf_lin3 s1 s2
    rcases List.mem_append.mp hgm with hg' | hg'
    · obtain ⟨e, he, h1⟩ := hg g hg'
      exact ⟨e, he, fin e h1 (hpos g (List.mem_filter.mp hg').1)⟩
    · obtain ⟨e, he, h1⟩ := hp2 g hg'
      refine ⟨e, he, fin e ?_ ?_⟩
      · have h2 : (e : Rat) * (wyS fs : Rat) < ((g.1 : Rat) * p) * (wyS fs : Rat) := by rw [Rat.mul_assoc, epW]; exact h1
        exact (Rat.mul_lt_mul_right hW).mp h2
      · have := hp1.mem_iff.mp (List.mem_append_right fs hg')
        simpa using (List.mem_filter.mp this).2
  · rw [edS_app, hp3, Rat.intCast_add]
    exact pf_lin5
theorem gv_free {p : Rat} {fs : List Way} (h : ∀ x ∈ fs, 0 < x.1 ∧ stayB p x = true) : rs (fs.map (gvQ p)) = p * (wyS fs : Rat) := by
  induction fs with
  | nil => simp [rs_nil, wyS]
  | cons x fs ih =>
    obtain ⟨h1, h2⟩ := h x List.mem_cons_self
    rw [List.map_cons, rs_cons, ih fun y hy => h y (List.mem_cons_of_mem _ hy), wyS_cons, Rat.intCast_add, gvQ, if_pos h1]
    cases e : x.2 with
    | none => grind
    | some z =>
      unfold stayB at h2
      rw [e] at h2
      have h3 : x.1 * p.num ≤ z * p.den := by simpa using h2
      rw [stay_iff] at h3
      dsimp only
      rw [if_neg (by grind)]
      grind
theorem gv_gone {p : Rat} {gs : List Way} (h : ∀ x ∈ gs, 0 < x.1 ∧ ∃ e, x.2 = some e ∧ (e : Rat) < (x.1 : Rat) * p) : rs (gs.map (gvQ p)) = (edS gs : Rat) := by
  induction gs with
  | nil => simp [rs_nil, edS]
  | cons x gs ih =>
    obtain ⟨h1, e, he, h2⟩ := h x List.mem_cons_self
    rw [List.map_cons, rs_cons, ih fun y hy => h y (List.mem_cons_of_mem _ hy), edS_cons, Rat.intCast_add, gvQ, if_pos h1, he]
    dsimp only
    rw [if_pos h2, Option.getD_some]
theorem ed_gone {gs : List Way} (h : ∀ x ∈ gs, 0 < x.1) : rs (gs.map edQ) = (edS gs : Rat) := by
  induction gs with
  | nil => simp [rs_nil, edS]
  | cons x gs ih =>
    have h1 := h x List.mem_cons_self
    rw [List.map_cons, rs_cons, ih fun y hy => h y (List.mem_cons_of_mem _ hy), edS_cons, Rat.intCast_add, edQ, if_pos h1]
theorem rs_filter {f : Way → Rat} (hf : ∀ x : Way, ¬ 0 < x.1 → f x = 0) (ws : List Way) : rs ((ws.filter fun x => decide (0 < x.1)).map f) = rs (ws.map f) := by
  induction ws with
  | nil => rfl
  | cons x ws ih =>
    by_cases h : 0 < x.1
    · rw [List.filter_cons_of_pos (by simpa using h), List.map_cons, List.map_cons, rs_cons, rs_cons, ih]
    · rw [List.filter_cons_of_neg (by simpa using h), List.map_cons, rs_cons, ih, hf x h]
      grind
/-- all stay: this is the price -/
theorem PfI.done {ws fs : List Way} {A L p : Rat} (h : PfI ws A fs L) (hn : fs ≠ []) (hp : p = L / (wyS fs : Rat)) (hs : (fs.filter (stayB p)).length = fs.length) : PriceR ws A (some p) := by
  have hpos : ∀ x ∈ fs, 0 < x.1 := fun x hx => (h.mem hx).2
  have hW : (0 : Rat) < (wyS fs : Rat) := Rat.intCast_lt_intCast.mpr (wyS_pos hpos hn)
  have hWn : (wyS fs : Rat) ≠ 0 := by grind
  have epW : p * (wyS fs : Rat) = L := by rw [hp, Rat.div_mul_cancel hWn]
  have hall : ∀ x ∈ fs, stayB p x = true := by
    have := List.length_filter_eq_length_iff.mp hs
    exact this
  obtain ⟨gone, hp1, hp2, hp3⟩ := h.ex
  have p0 := (h.turn hn hp).1
  have hgone : ∀ x ∈ gone, 0 < x.1 ∧ ∃ e, x.2 = some e ∧ (e : Rat) < (x.1 : Rat) * p := fun g hg => by
    obtain ⟨e, he, h1⟩ := hp2 g hg
    refine ⟨?_, e, he, ?_⟩
    · have := hp1.mem_iff.mp (List.mem_append_right fs hg)
      simpa using (List.mem_filter.mp this).2
    · have h2 : (e : Rat) * (wyS fs : Rat) < ((g.1 : Rat) * p) * (wyS fs : Rat) := by rw [Rat.mul_assoc, epW]; exact h1
      exact (Rat.mul_lt_mul_right hW).mp h2
  refine ⟨p0, ?_, ?_⟩
  · rw [← rs_filter (f := gvQ p) (fun x hx => by rw [gvQ, if_neg hx]) ws, ← rs_perm hp1, List.map_append, rs_app, gv_free fun x hx => ⟨hpos x hx, hall x hx⟩, gv_gone hgone, epW]
    exact pf_lin6 hp3
  · cases fs with
    | nil => exact absurd rfl hn
    | cons x fs =>
      have hx := h.mem (x := x) List.mem_cons_self
      refine ⟨x, hx.1, hx.2, fun e he => ?_⟩
      have h2 := hall x List.mem_cons_self
      unfold stayB at h2
      rw [he] at h2
      exact stay_iff.mp (by simpa using h2)
/-- none is left -/
theorem PfI.none {ws : List Way} {A L : Rat} (h : PfI ws A [] L) : PriceR ws A none := by
  obtain ⟨gone, hp1, hp2, hp3⟩ := h.ex
  rw [List.nil_append] at hp1
  have hL := h.pos
  refine ⟨fun x hx h0 => ?_, ?_⟩
  · have : x ∈ gone := hp1.mem_iff.mpr (List.mem_filter.mpr ⟨hx, by simpa using h0⟩)
    obtain ⟨e, he, _⟩ := hp2 x this
    rw [he]
    simp
  · rw [← rs_filter (f := edQ) (fun x hx => by rw [edQ, if_neg hx]) ws, ← rs_perm hp1, ed_gone fun x hx => by simpa using (List.mem_filter.mp (hp1.mem_iff.mp hx)).2]
    exact pf_lin7 hp3 hL
/-- an amount less a whole number, not below nought: no longer than it was -/
theorem sub_int_sz {k : Nat} {A : Rat} {n : Int} (hA : Sz k A) (h0 : 0 ≤ n) (h1 : 0 ≤ A - (n : Rat)) : Sz k (A - (n : Rat)) := by
  have e := sub_int A n
  have hd : A.den ≠ 0 := A.den_nz
  have hc : Int.gcd (A.num - n * A.den) A.den = 1 := by
    have h := A.reduced
    have h2 : Int.gcd (A.num - n * A.den) (A.den : Int) = Int.gcd A.num (A.den : Int) := by
      simpa [Int.mul_comm] using Int.gcd_sub_mul_right_left (A.den : Int) A.num n
    rw [h2]
    exact h
  have e2 : A - (n : Rat) = ⟨A.num - n * A.den, A.den, hd, hc⟩ := by
    rw [e, ← Rat.mk_eq_divInt (nz := hd) (c := hc)]
  rw [e2] at h1 ⊢
  refine ⟨?_, hA.d⟩
  show Bd k (A.num - n * A.den)
  have h3 : 0 ≤ A.num - n * A.den := Rat.num_nonneg.mpr h1
  have h4 : 0 ≤ n * (A.den : Int) := Int.mul_nonneg h0 (by omega)
  exact hA.n.le (by omega)
theorem frac_div {L : Rat} {W : Int} (hW : W ≠ 0) : Rat.divInt L.num (L.den * W) = L / (W : Rat) := by
  rw [Rat.divInt_eq_div, Rat.intCast_mul, Rat.div_def, Rat.inv_mul_rev]
  have e := Rat.num_divInt_den L
  rw [Rat.divInt_eq_div, Rat.div_def] at e
  rw [Rat.div_def]
  conv => rhs; rw [← e]
  grind
theorem edS_take_le {fs : List Way} {P : Way → Bool} (ok : ∀ x ∈ fs, WyOk x) (i : Nat) : 0 ≤ edS ((fs.take i).filter P) ∧ edS ((fs.take i).filter P) ≤ edS (fs.filter P) := by
  have h : fs.filter P = (fs.take i).filter P ++ (fs.drop i).filter P := by rw [← List.filter_append, List.take_append_drop]
  have h1 : 0 ≤ edS ((fs.drop i).filter P) := edS_nn fun x hx => ok x (List.mem_of_mem_drop (List.mem_filter.mp hx).1)
  have h2 : 0 ≤ edS ((fs.take i).filter P) := edS_nn fun x hx => ok x (List.mem_of_mem_take (List.mem_filter.mp hx).1)
  rw [h, edS_app]
  omega

abbrev s_look_at_parts : Stmt := top 34
theorem sc_look_at_parts : FnScope ["parts", "k", "part"] ["parts"] (defScope s_look_at_parts) := ⟨rfl, rfl, rfl, by decide +kernel, rfl, by decide +kernel, by decide +kernel⟩
def sp_look_at_parts (C : Addr) : Sp := fun vs H Q _ => ∃ F M v, ∃ rs : List Row, vs = [v] ∧ Wf F H M ∧ Rk F M v (.lst (rs.map (prtR C))) ∧ rs.length ≤ 60 ∧ ∀ H', Wf F H' M → Q .non H'
theorem n_lookparts {C : Addr} {F : List (V × D)} {H : Hp} {M : List ME} {v : V} {rs : List Row} {Q : VK} {E : XK} (w : Wf F H M) (hv : Rk F M v (.lst (rs.map (prtR C)))) (hl : rs.length ≤ 60) (q : ∀ H', Wf F H' M → Q .non H') : sp_look_at_parts C ([v] ++ []) H Q E := ⟨F, M, v, rs, rfl, w, hv, hl, q⟩

theorem ok_look_at_parts {f : Addr} {fd : FuncData} (F : Fun K "look_at_parts" "look_at_parts" s_look_at_parts f fd) (B : Bn mg) (o_Part : OwnC K C_Part) (n_Part : ∀ f ∈ (["base", "least", "greatest", "grow", "shrink"] : List Str), NoAttr K C_Part f) (g_MOST : ∃ t, mg "MOST" = some (.int 60 t)) (g_Part : mg "Part" = some (.ref C_Part))  : FnOk P wd K mg base CX0 1 f fd ["parts"] (sp_look_at_parts C_Part) := by
  refine F.ok sc_look_at_parts (fun vs H Q E h => ?_) (fun cdv A outer s H vs Q E hr h => ?_)
  · obtain ⟨F, M, v, rs, rfl, w, hv, hl, k⟩ := h
    all_goals rfl
  · obtain ⟨F, M, v, rs, rfl, w, hv, hl, k⟩ := h
    refine ⟨_, (pss_cons (ps_if (pt_not (pt_val (pe_callB (k_isi (K := K) rfl) (by rfl) B.isinstance_ (by decide +kernel) (pa_cons (pv 0) (pa_cons (pe_bltn (v := .ty "list") (by rfl) B.list_ (by decide +kernel) rfl) pa_nil))))) pss_never pss_nil)
      (pss_cons (ps_if (pt_cmpR op_gt (pe_callB (k_len (K := K) rfl) (by rfl) B.len_ (by decide +kernel) (pa_cons (pv 0) pa_nil)) (pe_globI (by rfl) g_MOST) (nomark _)) pss_never pss_nil)
      (pss_one (ps_for PassesOwn.never rfl (pi_enum (by rfl) B.enumerate_ (pa_cons (pv 0) pa_nil)) (kpg_tup (K := K) (n := 2) rfl rfl (pgs_cons (pg_name (i := 1) sc_look_at_parts.nd rfl (Or.inl rfl)) (pgs_cons (pg_name (i := 2) sc_look_at_parts.nd rfl (Or.inl rfl)) pgs_nil))) (pss_one (ps_if (pt_not (pt_val (pe_callB (k_isi (K := K) rfl) (by rfl) B.isinstance_ (by decide +kernel) (pa_cons (pv 2) (pa_cons (pe_glob (v := .ref C_Part) (by rfl) g_Part rfl) pa_nil))))) pss_never pss_nil)))))), ?_⟩
    try dsimp only [cxOf, Cx.nox, Cx.wish, Cx.blk]
    wtm_at "n"
    rw [List.length_map]
    refine s_iteDn (by omega) ?_
    wtm_at "n"
    refine n_enum w (fun i σ' F' M' => ∃ x1 x2, σ' = [some v, x1, x2] ∧ F = F' ∧ M = M') (fun i σ F' M' h => by obtain ⟨_, _, _, rfl, rfl⟩ := h; exact hv) ⟨_, _, rfl, rfl, rfl⟩ ?_ ?_
    · rintro i d x σ' H' F' M' hd ⟨x1, x2, rfl, rfl, rfl⟩ w
      obtain ⟨r, hr', rfl⟩ := map_get hd
      wtm_at "n"
      refine n_isiOC o_Part (by assumption) (.mem (by ktf_call "mem")) kit_self ?_
      wtm_at "n"
      exact ⟨_, _, ⟨_, _, rfl, rfl, rfl⟩, by wtm_at "wf"⟩
    · rintro σ' H' F' M' ⟨x1, x2, rfl, rfl, rfl⟩ w
      wtm_at "n"
      exact k _ w
abbrev s_price_for : Stmt := top 35
theorem sc_price_for : FnScope ["ways", "amount", "way", "free", "left", "weight", "price", "stay"] ["ways", "amount"] (defScope s_price_for) := ⟨rfl, rfl, rfl, by decide +kernel, rfl, by decide +kernel, by decide +kernel⟩
def sp_price_for : Sp := fun vs H Q _ => ∃ F M v u, ∃ (k : Nat) (ws : List Way) (A : Rat), vs = [v, u] ∧ Wf F H M ∧ Rk F M v (.lst (ws.map wyD)) ∧ Kn F u (frq A) ∧ (∀ x ∈ ws, WyOk x) ∧ ws.length ≤ 120 ∧ 0 < A ∧ Sz k A ∧ k ≤ 3000 ∧ (∀ p r H', PriceR ws A (some p) → Sz (k + 17) p → Wf ((r, frq p) :: F) H' M → Q r H') ∧ (∀ H', PriceR ws A none → Wf F H' M → Q .non H')
theorem n_pricefor {F : List (V × D)} {H : Hp} {M : List ME} {v u : V} {k : Nat} {ws : List Way} {A : Rat} {Q : VK} {E : XK} (w : Wf F H M) (hv : Rk F M v (.lst (ws.map wyD))) (hu : Kn F u (frq A)) (ok : ∀ x ∈ ws, WyOk x) (hl : ws.length ≤ 120) (hA : 0 < A) (sA : Sz k A) (hk : k ≤ 3000)
  (q : ∀ p r H', PriceR ws A (some p) → Sz (k + 17) p → Wf ((r, frq p) :: F) H' M → Q r H') (q' : ∀ H', PriceR ws A none → Wf F H' M → Q .non H') : sp_price_for ([v, u] ++ []) H Q E := ⟨F, M, v, u, k, ws, A, rfl, w, hv, hu, ok, hl, hA, sA, hk, q, q'⟩
theorem n_minus {F : List (V × D)} {H : Hp} {M : List ME} {u v : V} {p q : Rat} {Q : VK} {E : XK} {j k : Nat} (w : Wf F H M) (hu : Kn F u (frq p)) (hv : Kn F v (frq q)) (hp : Sz j p) (hq : Sz k q) (h1 : j ≤ 100000) (h2 : k ≤ 100000) (hB : Bd 8000 (p.den * q.den : Int)) (f : ∀ r H', Wf ((r, frq (p - q)) :: F) H' M → Q r H') : sp_minus ([u, v] ++ []) H Q E := by
  obtain ⟨I, Mc, w, is, _, up⟩ := w.old
  exact use_minus w (is _ _ hu) (is _ _ hv) hp hq h1 h2 hB fun r J H' s w' h => f r H' (up J H' r _ s w' h)

theorem ok_price_for {f : Addr} {fd : FuncData} (F : Fun K "price_for" "price_for" s_price_for f fd) (B : Bn mg) (c_fraction : Cal P wd K mg base "fraction" 2 ["top", "bottom"] [] sp_fraction) (c_minus : Cal P wd K mg base "minus" 3 ["one", "other"] [] sp_minus)  : FnOk P wd K mg base CX0 4 f fd ["ways", "amount"] sp_price_for := by
  refine F.ok sc_price_for (fun vs H Q E h => ?_) (fun cdv A outer s H vs Q E hr h => ?_)
  · obtain ⟨F, M, v, u, k, ws, A, rfl, w, hv, hu, ok, hl, hA, sA, hk, q1, q2⟩ := h
    all_goals rfl
  · obtain ⟨F, M, v, u, k, ws, A, rfl, w, hv, hu, ok, hl, hA, sA, hk, q1, q2⟩ := h
    refine ⟨_, (pss_cons (ps_setLc (i := 3) (own := [("way", 2)]) (by rfl) sc_price_for.nd rfl rfl (sw_true rfl rfl rfl (by decide +kernel)) (kpi_list (K := K) rfl (pv 0)) (blkOk_by (own := [("way", 2)]) (N := ["ways", "amount", "way", "free", "left", "weight", "price", "stay"]) (sc := defScope s_price_for) (by decide +kernel)) (fun _ _ _ _ _ => (pg_name (i := 2) sc_price_for.nd rfl (Or.inl rfl))) (fun _ _ _ _ _ => (pts_one (pt_cmpR op_gt (pe_ix (k_ix (K := K) rfl) (pv 2) pe_int (fun _ _ => rfl)) pe_int (nomark _)))) (fun _ _ _ _ _ => (pv 2)))
      (pss_cons (ps_set (i := 4) sc_price_for.nd rfl (Or.inl rfl) (pv 1))
      (pss_cons (ps_while PassesOwn.never (pt_cmpR op_gt (pe_callB (k_len (K := K) rfl) (by rfl) B.len_ (by decide +kernel) (pa_cons (pv 3) pa_nil)) pe_int (nomark _)) (pss_cons (ps_set (i := 5) sc_price_for.nd rfl (Or.inl rfl) (pe_callB (k_sum (K := K) rfl rfl) (by rfl) B.sum_ (by decide +kernel) (pa_cons (pe_lc (own := [("way", 2)]) (by rfl) sc_price_for.nd (kpi_list (K := K) rfl (pv 3)) (blkOk_by (own := [("way", 2)]) (N := ["ways", "amount", "way", "free", "left", "weight", "price", "stay"]) (sc := defScope s_price_for) (by decide +kernel)) (fun _ _ _ _ _ => (pg_name (i := 2) sc_price_for.nd rfl (Or.inl rfl))) (fun _ _ _ _ _ => pts_nil) (fun _ _ _ _ _ => (pe_ix (k_ix (K := K) rfl) (pv 2) pe_int (fun _ _ => rfl)))) pa_nil)))
      (pss_cons (ps_set (i := 6) sc_price_for.nd rfl (Or.inl rfl) (pe_cal c_fraction (hr.mono (by decide)) (by rfl) (pa_cons (pe_ix (k_ix (K := K) rfl) (pv 4) pe_int (fun _ _ => rfl)) (pa_cons (pe_op uo_mul (pe_ix (k_ix (K := K) rfl) (pv 4) pe_int (fun _ _ => rfl)) (pv 5)) pa_nil))))
      (pss_cons (ps_set (i := 7) sc_price_for.nd rfl (Or.inl rfl) (pe_lst pa_nil))
      (pss_cons (ps_for PassesOwn.never rfl (kpi_list (K := K) rfl (pv 3)) (pg_name (i := 2) sc_price_for.nd rfl (Or.inl rfl)) (pss_one (ps_if (pw_or (pt_cmp (pc_isN (pe_ix (k_ix (K := K) rfl) (pv 2) pe_int (fun _ _ => rfl)))) (pw_or1 (pt_cmpR op_le (pe_op uo_mul (pe_ix (k_ix (K := K) rfl) (pv 2) pe_int (fun _ _ => rfl)) (pe_ix (k_ix (K := K) rfl) (pv 6) pe_int (fun _ _ => rfl))) (pe_op uo_mul (pe_ix (k_ix (K := K) rfl) (pv 2) pe_int (fun _ _ => rfl)) (pe_ix (k_ix (K := K) rfl) (pv 6) pe_int (fun _ _ => rfl))) (nomark _)))).pt (pss_one (ps_expr (pe_bm PySem.F.plainAttrs_list PySem.F.slot_list_append PySem.F.type_list_append mt_append (pv 7) (pa_cons (pv 2) pa_nil)))) (pss_one (ps_set (i := 4) sc_price_for.nd rfl (Or.inl rfl) (pe_cal c_minus (hr.mono (by decide)) (by rfl) (pa_cons (pv 4) (pa_cons (pe_tup (pa_cons (pe_ix (k_ix (K := K) rfl) (pv 2) pe_int (fun _ _ => rfl)) (pa_cons pe_int pa_nil))) pa_nil))))))))
      (pss_cons (ps_if (pt_cmpR (k_eq (K := K) rfl hr.units) (pe_callB (k_len (K := K) rfl) (by rfl) B.len_ (by decide +kernel) (pa_cons (pv 7) pa_nil)) (pe_callB (k_len (K := K) rfl) (by rfl) B.len_ (by decide +kernel) (pa_cons (pv 3) pa_nil)) (nomark _)) (pss_one (ps_ret (pv 6))) pss_nil)
      (pss_one (ps_set (i := 3) sc_price_for.nd rfl (Or.inl rfl) (pv 7)))))))))
      (pss_one (ps_ret pe_non))))), ?_⟩
    try dsimp only [cxOf, Cx.nox, Cx.wish, Cx.blk]
    wtm_at "n"
    refine n_lcG w hv (fun i acc => acc = ((ws.take i).filter fun x => decide (0 < x.1)).map wyD) rfl (by rw [List.length_map]; omega) ?_ ?_
    · intro i d y Dp acc H0 Ap Sk hd hR w kA kS
      obtain ⟨x, hx, rfl⟩ := map_get hd
      subst hR
      wtm_at "n"
      refine ⟨rfl, ?_⟩
      wtm_at "n"
      wtm_at "fork"
      · rename_i h3
        wtm_at "n"
        refine kA _ _ _ (by wtm_at "wf") ?_
        rw [take_snoc hx, List.filter_append, List.map_append, List.filter_cons_of_pos (by simpa using h3)]
        rfl
      · rename_i h3
        wtm_at "n"
        refine kS _ (by wtm_at "wf") ?_
        rw [take_snoc hx, List.filter_append, List.map_append, List.filter_cons_of_neg (by simpa using h3)]
        simp
    intro pf es H1 hR w
    rw [List.length_map, List.take_length] at hR
    subst hR
    wtm_at "n"
    have w := w.add (v := u) (d := frq A) hu
    refine n_whileG w (fun m σ' F' M' => ∃ (fs : List Way) (pf : Addr) (lf : V) (n : Int) (x2 x5 x6 x7 : Option V), σ' = [some v, some u, x2, some (.ref pf), some lf, x5, x6, x7] ∧ F' = (lf, frq (A - (n : Rat))) :: F ∧ M' = .ml pf (fs.map wyD) :: M ∧ PfI ws A fs (A - (n : Rat)) ∧ 0 ≤ n ∧ fs.length = m ∧ m ≤ 120) (ws.filter fun x => decide (0 < x.1)).length ⟨_, pf, u, 0, _, _, _, _, rfl, by rw [show A - ((0 : Int) : Rat) = A by grind], rfl, by rw [show A - ((0 : Int) : Rat) = A by grind]; exact PfI.start hA, Int.le_refl _, rfl, Nat.le_trans (List.length_filter_le _ _) hl⟩ ?_
    clear w
    rintro m σ' H' F' M' ⟨fs, pf, lf, n, x2, x5, x6, x7, rfl, rfl, rfl, hI, hn, hm, hm2⟩ w
    wtm_at "n"
    rw [List.length_map]
    wtm_at "fork"
    rotate_left
    · rename_i hz
      have e : fs = [] := List.eq_nil_of_length_eq_zero (by omega)
      subst e
      wtm_at "n"
      exact q2 _ hI.none (by wtm_at "wf")
    rename_i hz
    have hne : fs ≠ [] := fun e => by rw [e] at hz; simp at hz
    have hW : 0 < wyS fs := wyS_pos (fun x hx => (hI.mem hx).2) hne
    have hW2 : wyS fs ≤ 120000 := Int.le_trans (wyS_le fun x hx => (ok x (hI.mem hx).1).w1) (by omega)
    have sL : Sz k (A - (n : Rat)) := sub_int_sz sA hn (Rat.le_of_lt hI.pos)
    have bW : Bd 17 (wyS fs) := Bd.of 120000 (by omega)
    refine n_wG ?_
    wtm_at "n"
    refine n_lcMapI (g := wyD) (f := fun x : Way => x.1) w (.ml List.mem_cons_self) (by omega) (fun v => rfl) ?_ ?_
    · intro x y D acc H0 C _ w kc
      wtm_at "n"
      exact kc _ (by wtm_at "wf")
    intro pw H2 w
    wtm_at "n"
    refine n_sum (ns := fs.map (·.1)) w (.ml List.mem_cons_self) ?_
    wtm_at "n"
    refine s_mul (sL.d.cm bW (by omega)) ?_
    wtm_at "n"
    refine n_fraction w (by
      have : (0 : Int) < ((A - (n : Rat)).den : Int) := Int.natCast_pos.mpr (A - (n : Rat)).den_pos
      have := Int.mul_pos this hW
      exact fun e => by
        change ((A - (n : Rat)).den : Int) * wyS fs = 0 at e
        omega) ((sL.d.mul bW).mono (by omega)) fun pr H3 w => ?_
    change Wf ((pr, frq (Rat.divInt (A - (n : Rat)).num ((A - (n : Rat)).den * wyS fs))) :: (lf, frq (A - (n : Rat))) :: F) H3 _ at w
    rw [frac_div (by omega)] at w
    have sP : Sz (k + 17) ((A - (n : Rat)) / (wyS fs : Rat)) := by
      rw [← frac_div (by omega)]
      exact Sz.divInt (by
        have : (0 : Int) < ((A - (n : Rat)).den : Int) := Int.natCast_pos.mpr (A - (n : Rat)).den_pos
        have := Int.mul_pos this hW
        omega) sL.n (sL.d.mul bW) (k + 17)
    generalize hp : (A - (n : Rat)) / (wyS fs : Rat) = p at w sP
    have hT := hI.turn hne hp.symm
    wtm_at "n"
    rename_i ps H4 w
    have okf : ∀ x ∈ fs, WyOk x := fun x hx => ok x (hI.mem hx).1
    have w : Wf ((lf, frq (A - ((n + edS ((fs.take 0).filter fun x => !stayB p x) : Int) : Rat))) :: (pr, frq p) :: F) H4 (.ml ps (((fs.take 0).filter (stayB p)).map wyD) :: .ml pf (fs.map wyD) :: M) := by
      rw [show n + edS ((fs.take 0).filter fun x => !stayB p x) = n by simp [edS]]
      simp only [List.take_zero, List.filter_nil, List.map_nil]
      exact w.sub (.cons (.mem (by simp)) (.cons (.mem (by simp)) (KS.refl.drop.drop))) (by ktf_call "sl")
    have pos : ∀ i, 0 ≤ n + edS ((fs.take i).filter fun x => !stayB p x) ∧ 0 ≤ A - ((n + edS ((fs.take i).filter fun x => !stayB p x) : Int) : Rat) := fun i => by
      obtain ⟨z1, z2⟩ := edS_take_le (P := fun x => !stayB p x) okf i
      refine ⟨by omega, ?_⟩
      have z3 : ((edS ((fs.take i).filter fun x => !stayB p x) : Int) : Rat) ≤ ((edS (fs.filter fun x => !stayB p x) : Int) : Rat) := Rat.intCast_le_intCast.mpr z2
      have z4 := hT.2.1
      rw [Rat.intCast_add]
      grind
    refine n_forL w (fun i σ' F' M' => ∃ (lf' : V) (x2 : Option V), σ' = [some v, some u, x2, some (.ref pf), some lf', some (.int (fs.map (·.1)).sum), some pr, some (.ref ps)] ∧ F' = (lf', frq (A - ((n + edS ((fs.take i).filter fun x => !stayB p x) : Int) : Rat))) :: (pr, frq p) :: F ∧ M' = .ml ps (((fs.take i).filter (stayB p)).map wyD) :: .ml pf (fs.map wyD) :: M) (fun i σ F' M' h => by obtain ⟨_, _, _, rfl, rfl⟩ := h; exact .ml (by ktf_call "mem")) ⟨_, _, rfl, rfl, rfl⟩ ?_ ?_
    · clear w
      rintro i d y σ' H' F' M' hd ⟨lf', x2', rfl, rfl, rfl⟩ w
      obtain ⟨x, hx, rfl⟩ := map_get hd
      have hox := okf x (List.mem_of_getElem? hx)
      obtain ⟨wx, ex⟩ := x
      have bw : Bd 10 wx := Bd.of 1000 (by have := hox.w0; have := hox.w1; dsimp only at *; omega)
      have hlen := List.length_filter_le (stayB p) (fs.take i)
      have hlen2 := List.length_take_le' i fs
      have hle3 : (((fs.take i).filter (stayB p)).map wyD).length ≤ 100000 := by rw [List.length_map]; omega
      cases ex with
      | none =>
        wtm_at "n"
        rename_i H5 w
        refine ⟨_, _, ⟨lf', _, rfl, rfl, rfl⟩, ?_⟩
        rw [take_snoc hx, List.filter_append, List.filter_append, List.filter_cons_of_pos (p := stayB p) (a := (wx, none)) (l := []) rfl, List.filter_cons_of_neg (p := fun x => !stayB p x) (a := (wx, none)) (l := []) (by simp [stayB]), List.map_append]
        rw [show ((fs.take i).filter (fun x => !stayB p x)) ++ List.filter (fun x => !stayB p x) [] = (fs.take i).filter (fun x => !stayB p x) by simp]
        simp only [List.filter_nil, List.map_cons, List.map_nil]
        wtm_at "wf"
      | some e =>
        obtain ⟨e0, e1⟩ := hox.e0 e rfl
        have be : Bd 40 e := bd12 e0 e1
        wtm_at "n"
        refine s_mul (bw.cm sP.n (by omega)) ?_
        wtm_at "n"
        refine s_mul (be.cm sP.d (by omega)) ?_
        wtm_at "n"
        wtm_at "fork"
        · rename_i hle
          wtm_at "n"
          rename_i H5 w
          refine ⟨_, _, ⟨lf', _, rfl, rfl, rfl⟩, ?_⟩
          rw [take_snoc hx, List.filter_append, List.filter_append, List.filter_cons_of_pos (p := stayB p) (a := (wx, some e)) (l := []) (by simpa [stayB] using hle), List.filter_cons_of_neg (p := fun x => !stayB p x) (a := (wx, some e)) (l := []) (by simpa [stayB] using hle), List.map_append]
          rw [show ((fs.take i).filter (fun x => !stayB p x)) ++ List.filter (fun x => !stayB p x) [] = (fs.take i).filter (fun x => !stayB p x) by simp]
          simp only [List.filter_nil, List.map_cons, List.map_nil]
          wtm_at "wf"
        · rename_i hle
          wtm_at "n"
          rename_i pt Ht w
          obtain ⟨p1, p2⟩ := pos i
          have sz := sub_int_sz sA p1 p2
          refine n_minus (q := (e : Rat)) w (.mem (by ktf_call "mem")) (.mem List.mem_cons_self) sz (Sz.int be) (by omega) (by decide) (by
            rw [show (((e : Rat).den : Nat) : Int) = 1 from rfl, Int.mul_one]
            exact sz.d.mono (by omega)) fun lf2 H5 w => ?_
          wtm_at "n"
          refine ⟨_, _, ⟨lf2, _, rfl, rfl, rfl⟩, ?_⟩
          rw [take_snoc hx, List.filter_append, List.filter_append, List.filter_cons_of_neg (p := stayB p) (a := (wx, some e)) (l := []) (by simpa [stayB] using hle), List.filter_cons_of_pos (p := fun x => !stayB p x) (a := (wx, some e)) (l := []) (by simpa [stayB] using hle), edS_app]
          rw [show ((fs.take i).filter (stayB p)) ++ List.filter (stayB p) [] = (fs.take i).filter (stayB p) by simp]
          rw [show A - ((n + (edS ((fs.take i).filter fun x => !stayB p x) + edS ((wx, some e) :: List.filter (fun x => !stayB p x) [])) : Int) : Rat) = A - ((n + edS ((fs.take i).filter fun x => !stayB p x) : Int) : Rat) - (e : Rat) by
            rw [show edS ((wx, some e) :: List.filter (fun x => !stayB p x) []) = e by simp [edS], ← Int.add_assoc, Rat.intCast_add (n + _) e]
            grind]
          exact w.sub (.cons (.mem (by simp)) (.cons (.mem (by simp)) (KS.refl.drop.drop.drop.drop.drop))) (by ktf_call "sl")
    clear w
    rintro σ' H' F' M' ⟨lf', x2', rfl, rfl, rfl⟩ w
    rw [List.length_map, List.take_length] at w
    wtm_at "n"
    rw [List.length_map, List.length_map]
    wtm_at "fork"
    · rename_i heq
      wtm_at "n"
      exact q1 p _ _ (hI.done hne hp.symm (by omega)) sP (by wtm_at "wf")
    · rename_i hnq
      wtm_at "n"
      have hf1 := List.length_filter_le (stayB p) fs
      have hg : (fs.filter fun x => !stayB p x) ≠ [] := fun e => hnq (by
        have := (filter_perm (stayB p) fs).length_eq
        rw [e, List.append_nil] at this
        omega)
      refine ⟨(fs.filter (stayB p)).length, by omega, _, _, ⟨fs.filter (stayB p), ps, lf', n + edS (fs.filter fun x => !stayB p x), _, _, _, _, rfl, rfl, rfl, ?_, ?_, rfl, by omega⟩, by wtm_at "wf"⟩
      · have := hT.2.2 hg
        rw [show A - ((n + edS (fs.filter fun x => !stayB p x) : Int) : Rat) = A - (n : Rat) - ((edS (fs.filter fun x => !stayB p x) : Int) : Rat) by rw [Rat.intCast_add]; grind]
        exact this
      · have := (pos fs.length).1
        rw [List.take_length] at this
        exact this
/-! ### sizes and prices of a room -/
def upW (r : Row) : Way := (r.w, r.g.map (· - r.b))
def dnW (r : Row) : Way := (r.s, some (r.b - r.l))
def bsum (rows : List Row) : Int := (rows.map (·.b)).sum
/-- the size at any price, of the last ones -/
def endI (up : Bool) (r : Row) : Int := if up then (if 0 < r.w then r.g.getD 0 else r.b) else (if 0 < r.s then r.l else r.b)
def ShR (rows : List Row) (R : Rat) : Option Rat → Prop
  | some p => rs (rows.map (sizR · p)) = R ∧ (p = 0 ∨ (0 < p ∧ ∃ r ∈ rows, 0 < r.w ∧ ∀ g, r.g = some g → (r.b : Rat) + (r.w : Rat) * p ≤ (g : Rat)) ∨ (p < 0 ∧ ∃ r ∈ rows, 0 < r.s ∧ (r.l : Rat) ≤ (r.b : Rat) + (r.s : Rat) * p))
  | none => ((bsum rows : Rat) < R ∧ (∀ r ∈ rows, 0 < r.w → r.g ≠ none) ∧ rs (rows.map fun r => (endI true r : Rat)) < R) ∨ (R < (bsum rows : Rat) ∧ R < rs (rows.map fun r => (endI false r : Rat)))
def shUp (rows : List Row) (R : Rat) : Bool := decide ((bsum rows : Rat) < R)
def shL (rows : List Row) (R : Rat) : Option Rat → List Rat
  | some p => rows.map (sizR · p)
  | none => rows.map fun r => (endI (shUp rows R) r : Rat)
def shD : Option Rat → D
  | some p => frq p
  | none => .non
theorem bsum_cons (r : Row) (rows : List Row) : bsum (r :: rows) = r.b + bsum rows := rfl
theorem ROk.g0 {r : Row} {g : Int} (h : ROk r) (e : r.g = some g) : r.b ≤ g ∧ g ≤ 1000000000000 := by
  rcases h.gr with h1 | ⟨n, h1, h2, h3⟩
  · rw [e] at h1; cases h1
  · rw [e] at h1
    cases h1
    exact ⟨h2, h3⟩
theorem upW_ok {r : Row} (h : ROk r) : WyOk (upW r) := ⟨h.w0, h.w1, fun e he => by
  have hb := h.lb
  have hl := h.l0
  unfold upW at he
  cases hg : r.g with
  | none => rw [hg] at he; cases he
  | some g =>
    rw [hg] at he
    obtain ⟨h1, h2⟩ := h.g0 hg
    have : g - r.b = e := by simpa using he
    omega⟩
theorem dnW_ok {r : Row} (h : ROk r) : WyOk (dnW r) := ⟨h.s0, h.s1, fun e he => by
  have hb := h.lb
  have hl := h.l0
  have hm := h.bm
  have : r.b - r.l = e := by simpa [dnW] using he
  omega⟩
theorem siz_up {r : Row} (h : ROk r) {p : Rat} (hp : 0 < p) : sizR r p = (r.b : Rat) + gvQ p (upW r) := by
  unfold sizR sizQ gvQ upW
  rw [if_neg (by grind)]
  have w0 := h.w0
  by_cases hw : 0 < r.w
  · rw [if_pos hw]
    cases hg : r.g with
    | none => rfl
    | some g =>
      obtain ⟨h1, h2⟩ := h.g0 hg
      show capG (.int g) _ = _
      unfold capG
      dsimp only [Option.map_some]
      rw [Rat.intCast_sub]
      by_cases hc : (g : Rat) < (r.b : Rat) + (r.w : Rat) * p
      · rw [if_pos hc, if_pos (by grind)]; grind
      · rw [if_neg hc, if_neg (by grind)]
  · rw [if_neg hw]
    have e : r.w = 0 := by omega
    rw [e]
    cases hg : r.g with
    | none =>
      show capG .non _ = _
      unfold capG
      simp
    | some g =>
      obtain ⟨h1, h2⟩ := h.g0 hg
      show capG (.int g) _ = _
      unfold capG
      have h3 : (r.b : Rat) ≤ (g : Rat) := Rat.intCast_le_intCast.mpr h1
      simp
      intro hc
      grind
theorem siz_dn {r : Row} (h : ROk r) {p : Rat} (hp : p < 0) : sizR r p = (r.b : Rat) - gvQ (-p) (dnW r) := by
  unfold sizR sizQ gvQ dnW
  rw [if_pos hp]
  have s0 := h.s0
  have lb : (r.l : Rat) ≤ (r.b : Rat) := Rat.intCast_le_intCast.mpr h.lb
  dsimp only
  by_cases hw : 0 < r.s
  · rw [if_pos hw, Rat.intCast_sub]
    by_cases hc : (r.b : Rat) + (r.s : Rat) * p < (r.l : Rat)
    · rw [if_pos hc, if_pos (by grind)]; grind
    · rw [if_neg hc, if_neg (by grind)]; grind
  · rw [if_neg hw]
    have e : r.s = 0 := by omega
    rw [e]
    split <;> grind
theorem siz_zero {r : Row} (h : ROk r) : sizR r 0 = (r.b : Rat) := by
  unfold sizR sizQ
  rw [if_neg (by decide)]
  cases hg : r.g with
  | none =>
    show capG .non _ = _
    unfold capG
    dsimp only
    grind
  | some g =>
    obtain ⟨h1, h2⟩ := h.g0 hg
    show capG (.int g) _ = _
    unfold capG
    have h3 : (r.b : Rat) ≤ (g : Rat) := Rat.intCast_le_intCast.mpr h1
    dsimp only
    split <;> grind
theorem rs_add {α : Type} {f g h : α → Rat} {xs : List α} (e : ∀ x ∈ xs, f x = g x + h x) : rs (xs.map f) = rs (xs.map g) + rs (xs.map h) := by
  induction xs with
  | nil => simp only [List.map_nil, rs_nil]; grind
  | cons x xs ih =>
    rw [List.map_cons, List.map_cons, List.map_cons, rs_cons, rs_cons, rs_cons, ih fun y hy => e y (List.mem_cons_of_mem _ hy), e x List.mem_cons_self]
    grind
theorem rs_sub {α : Type} {f g h : α → Rat} {xs : List α} (e : ∀ x ∈ xs, f x = g x - h x) : rs (xs.map f) = rs (xs.map g) - rs (xs.map h) := by
  induction xs with
  | nil => simp only [List.map_nil, rs_nil]; grind
  | cons x xs ih =>
    rw [List.map_cons, List.map_cons, List.map_cons, rs_cons, rs_cons, rs_cons, ih fun y hy => e y (List.mem_cons_of_mem _ hy), e x List.mem_cons_self]
    grind
theorem rs_congr {α : Type} {f g : α → Rat} {xs : List α} (e : ∀ x ∈ xs, f x = g x) : rs (xs.map f) = rs (xs.map g) := by rw [List.map_congr_left e]
theorem rs_int {α : Type} {f : α → Int} (xs : List α) : rs (xs.map fun x => ((f x : Int) : Rat)) = (((xs.map f).sum : Int) : Rat) := by
  induction xs with
  | nil => rfl
  | cons x xs ih => rw [List.map_cons, List.map_cons, rs_cons, ih, List.sum_cons, Rat.intCast_add]
theorem rs_b (rows : List Row) : rs (rows.map fun r => (r.b : Rat)) = (bsum rows : Rat) := rs_int rows
/-- from price_for, more room than the bases -/
theorem shr_up {rows : List Row} (ok : ∀ r ∈ rows, ROk r) {R : Rat} (hR : (bsum rows : Rat) < R) {o : Option Rat} (h : PriceR (rows.map upW) (R - (bsum rows : Rat)) o) : ShR rows R o := by
  cases o with
  | some p =>
    obtain ⟨h0, h1, x, hx, hx0, hx1⟩ := h
    refine ⟨?_, .inr (.inl ⟨h0, ?_⟩)⟩
    · rw [rs_add (fun r hr => siz_up (ok r hr) h0), rs_b]
      rw [List.map_map] at h1
      change rs (rows.map fun r => gvQ p (upW r)) = _ at h1
      rw [h1]
      grind
    · obtain ⟨r, hr, rfl⟩ := List.mem_map.mp hx
      refine ⟨r, hr, hx0, fun g hg => ?_⟩
      have := hx1 (g - r.b) (by simp [upW, hg])
      rw [Rat.intCast_sub] at this
      change (r.w : Rat) * p ≤ _ at this
      grind
  | none =>
    obtain ⟨h1, h2⟩ := h
    have hall : ∀ r ∈ rows, 0 < r.w → r.g ≠ none := fun r hr hw e => by
      have := h1 (upW r) (List.mem_map_of_mem hr) hw
      simp [upW, e] at this
    refine .inl ⟨hR, hall, ?_⟩
    rw [rs_add (g := fun r => (r.b : Rat)) (h := fun r => edQ (upW r)) (fun r hr => ?_), rs_b]
    · rw [List.map_map] at h2
      change rs (rows.map fun r => edQ (upW r)) < _ at h2
      grind
    · unfold endI edQ upW
      rw [if_pos rfl]
      by_cases hw : 0 < r.w
      · rw [if_pos hw, if_pos hw]
        cases e : r.g with
        | none => exact absurd e (hall r hr hw)
        | some g =>
          simp only [Option.map_some, Option.getD_some]
          rw [Rat.intCast_sub]
          grind
      · rw [if_neg hw, if_neg hw]
        grind
theorem shr_dn {rows : List Row} (ok : ∀ r ∈ rows, ROk r) {R : Rat} (hR : R < (bsum rows : Rat)) {o : Option Rat} (h : PriceR (rows.map dnW) ((bsum rows : Rat) - R) o) : ShR rows R (o.map fun p => -p) := by
  cases o with
  | some p =>
    obtain ⟨h0, h1, x, hx, hx0, hx1⟩ := h
    have hn : -p < 0 := by grind
    refine ⟨?_, .inr (.inr ⟨hn, ?_⟩)⟩
    · rw [rs_sub (fun r hr => siz_dn (ok r hr) hn), rs_b]
      rw [List.map_map] at h1
      change rs (rows.map fun r => gvQ p (dnW r)) = _ at h1
      rw [show (- -p) = p by grind, h1]
      grind
    · obtain ⟨r, hr, rfl⟩ := List.mem_map.mp hx
      refine ⟨r, hr, hx0, ?_⟩
      have := hx1 (r.b - r.l) rfl
      rw [Rat.intCast_sub] at this
      change (r.s : Rat) * p ≤ _ at this
      grind
  | none =>
    obtain ⟨h1, h2⟩ := h
    refine .inr ⟨hR, ?_⟩
    rw [rs_sub (g := fun r => (r.b : Rat)) (h := fun r => edQ (dnW r)) (fun r hr => ?_), rs_b]
    · rw [List.map_map] at h2
      change rs (rows.map fun r => edQ (dnW r)) < _ at h2
      grind
    · unfold endI edQ dnW
      rw [if_neg (by simp)]
      by_cases hw : 0 < r.s
      · rw [if_pos hw, if_pos hw]
        simp only [Option.getD_some]
        rw [Rat.intCast_sub]
        grind
      · rw [if_neg hw, if_neg hw]
        grind
theorem shr_zero {rows : List Row} (ok : ∀ r ∈ rows, ROk r) {R : Rat} (hR : R = (bsum rows : Rat)) : ShR rows R (some 0) := by
  refine ⟨?_, .inl rfl⟩
  rw [rs_congr (fun r hr => siz_zero (ok r hr)), rs_b, hR]
/-! sums over one bottom -/
theorem dv_add {s t N : Int} : Rat.divInt s N + Rat.divInt t N = Rat.divInt (s + t) N := by
  rw [Rat.divInt_eq_div, Rat.divInt_eq_div, Rat.divInt_eq_div, Rat.intCast_add, Rat.div_def, Rat.div_def, Rat.div_def, Rat.add_mul]
theorem rs_dv {N : Int} {B : Nat} {qs : List Rat} (h : ∀ q ∈ qs, ∃ t : Int, q = Rat.divInt t N ∧ t.natAbs ≤ B) : ∃ T : Int, rs qs = Rat.divInt T N ∧ T.natAbs ≤ qs.length * B := by
  induction qs with
  | nil => exact ⟨0, by rw [Rat.zero_divInt]; rfl, by simp⟩
  | cons q qs ih =>
    obtain ⟨t, rfl, ht⟩ := h q List.mem_cons_self
    obtain ⟨T, e, hT⟩ := ih fun y hy => h y (List.mem_cons_of_mem _ hy)
    refine ⟨t + T, by rw [rs_cons, e, dv_add], ?_⟩
    rw [List.length_cons, Nat.succ_mul]
    omega
theorem dv_int {n N : Int} (hN : N ≠ 0) : (n : Rat) = Rat.divInt (n * N) N := by
  have h : ((N : Int) : Rat) ≠ 0 := fun z => hN (Rat.intCast_inj.mp z)
  rw [Rat.divInt_eq_div, Rat.intCast_mul, Rat.mul_div_cancel h]
/-- partial sums of sizes over one bottom -/
theorem EdgOk.ofN {j k : Nat} {N : Int} {qs : List Rat} (hN : N ≠ 0) (bN : Bd j N) (h : ∀ q ∈ qs, ∃ t : Int, q = Rat.divInt t N ∧ Bd k t) (hl : qs.length ≤ 1000) (hj : j ≤ 3900) (hk : k ≤ 5000) : EdgOk qs where
  ln := by omega
  ok := fun i q hq => by
    have hB : ∀ m, ∃ T : Int, rs (qs.take m) = Rat.divInt T N ∧ Bd (k + 10) T := fun m => by
      obtain ⟨T, e, hT⟩ := rs_dv (B := 2 ^ k) (qs := qs.take m) (N := N) fun q hq => by
        obtain ⟨t, e, ht⟩ := h q (List.mem_of_mem_take hq)
        exact ⟨t, e, Nat.le_of_lt ht⟩
      refine ⟨T, e, Nat.lt_of_le_of_lt hT ?_⟩
      have h1 := List.length_take_le' m qs
      have h2 : (qs.take m).length * 2 ^ k ≤ 1000 * 2 ^ k := Nat.mul_le_mul_right _ (by omega)
      have h3 : 2 ^ (k + 10) = 2 ^ k * 1024 := by rw [Nat.pow_add]
      have h4 : 0 < 2 ^ k := Nat.pow_pos (by decide)
      omega
    obtain ⟨T1, e1, b1⟩ := hB i
    obtain ⟨T2, e2, b2⟩ := hB (i + 1)
    obtain ⟨t, e3, b3⟩ := h q (List.mem_of_getElem? hq)
    rw [e1, e2, e3]
    exact ⟨Sz.divInt hN b1 bN 100000, Sz.divInt hN b3 bN 100000, (((bN.le (den_le hN)).mul (bN.le (den_le hN)))).mono (by omega), (bN.le (den_le hN)).mono (by omega)⟩
theorem rs_szN {j k : Nat} {N : Int} {qs : List Rat} (hN : N ≠ 0) (bN : Bd j N) (h : ∀ q ∈ qs, ∃ t : Int, q = Rat.divInt t N ∧ Bd k t) (hl : qs.length ≤ 1000) : Sz2 (k + 10) j (rs qs) := by
  obtain ⟨T, e, hT⟩ := rs_dv (B := 2 ^ k) (qs := qs) (N := N) fun q hq => by
    obtain ⟨t, e, ht⟩ := h q hq
    exact ⟨t, e, Nat.le_of_lt ht⟩
  rw [e]
  refine ⟨Bd.le (show Bd (k + 10) T from Nat.lt_of_le_of_lt hT ?_) (num_le hN), bN.le (den_le hN)⟩
  have h2 : qs.length * 2 ^ k ≤ 1000 * 2 ^ k := Nat.mul_le_mul_right _ (by omega)
  have h3 : 2 ^ (k + 10) = 2 ^ k * 1024 := by rw [Nat.pow_add]
  have h4 : 0 < 2 ^ k := Nat.pow_pos (by decide)
  omega
/-- a size over the price's bottom -/
theorem siz_dv {r : Row} (h : ROk r) {k : Nat} {p : Rat} (hp : Sz k p) : ∃ t : Int, sizR r p = Rat.divInt t p.den ∧ Bd (k + 41) t := by
  have l0 := h.l0; have lb := h.lb; have bm := h.bm
  have bB : Bd 40 r.b := bd12 (by omega) bm
  have bL : Bd 40 r.l := bd12 l0 (by omega)
  have bW : Bd 40 r.w := (bd3 h.w0 h.w1).mono (by decide)
  have bS : Bd 40 r.s := (bd3 h.s0 h.s1).mono (by decide)
  have hd := den_ne p
  have lin : ∀ s : Int, Bd 40 s → Bd (k + 41) (r.b * p.den + s * p.num) := fun s bs => (Bd.add (k := k + 40) ((bB.mul hp.d).mono (by omega)) ((bs.mul hp.n).mono (by omega)))
  unfold sizR sizQ
  split
  · split
    · exact ⟨r.l * p.den, dv_int hd, (bL.mul hp.d).mono (by omega)⟩
    · exact ⟨_, (lin_dv r.b r.s p).symm, lin _ bS⟩
  · cases hg : r.g with
    | none => exact ⟨_, (lin_dv r.b r.w p).symm, lin _ bW⟩
    | some g =>
      obtain ⟨h1, h2⟩ := h.g0 hg
      show ∃ t : Int, capG (.int g) _ = _ ∧ _
      unfold capG
      dsimp only
      split
      · exact ⟨g * p.den, dv_int hd, ((bd12 (by omega) h2).mul hp.d).mono (by omega)⟩
      · exact ⟨_, (lin_dv r.b r.w p).symm, lin _ bW⟩
theorem end_bd {r : Row} (h : ROk r) {up : Bool} (hg : up = true → 0 < r.w → r.g ≠ none) : 0 ≤ endI up r ∧ endI up r ≤ 1000000000000 := by
  have l0 := h.l0; have lb := h.lb; have bm := h.bm
  unfold endI
  cases up with
  | true =>
    rw [if_pos rfl]
    split
    · rename_i hw
      cases e : r.g with
      | none => exact absurd e (hg rfl hw)
      | some g => have := h.g0 e; simp; omega
    · omega
  | false =>
    rw [if_neg (by simp)]
    split <;> omega
/-- what share tells, its sums within bounds -/
theorem shL_dv {rows : List Row} (ok : ∀ r ∈ rows, ROk r) {R : Rat} {o : Option Rat} (h : ShR rows R o) {k : Nat} (hp : ∀ p, o = some p → Sz k p) (hk : 1 ≤ k) : ∃ N : Int, N ≠ 0 ∧ Bd k N ∧ ∀ q ∈ shL rows R o, ∃ t : Int, q = Rat.divInt t N ∧ Bd (k + 41) t := by
  cases o with
  | some p =>
    refine ⟨p.den, den_ne p, (hp p rfl).d, fun q hq => ?_⟩
    obtain ⟨r, hr, rfl⟩ := List.mem_map.mp hq
    exact siz_dv (ok r hr) (hp p rfl)
  | none =>
    refine ⟨1, by decide, bd1 (by omega), fun q hq => ?_⟩
    obtain ⟨r, hr, rfl⟩ := List.mem_map.mp hq
    have hg : shUp rows R = true → 0 < r.w → r.g ≠ none := fun hu hw => by
      rcases h with ⟨_, h2, _⟩ | ⟨h2, _⟩
      · exact h2 r hr hw
      · unfold shUp at hu
        have := of_decide_eq_true hu
        grind
    obtain ⟨h1, h2⟩ := end_bd (ok r hr) hg
    exact ⟨endI (shUp rows R) r * 1, dv_int (by decide), by rw [Int.mul_one]; exact (bd12 h1 h2).mono (by omega)⟩
theorem bsum_bd {rows : List Row} (ok : ∀ r ∈ rows, ROk r) (hl : rows.length ≤ 120) : 0 ≤ bsum rows ∧ bsum rows ≤ 120000000000000 := by
  have h : 0 ≤ bsum rows ∧ bsum rows ≤ 1000000000000 * rows.length := by
    clear hl
    induction rows with
    | nil => simp [bsum]
    | cons r rows ih =>
      have h1 := ok r List.mem_cons_self
      have l0 := h1.l0; have lb := h1.lb; have bm := h1.bm
      have := ih fun x hx => ok x (List.mem_cons_of_mem _ hx)
      rw [bsum_cons, List.length_cons]
      omega
  omega
theorem frq_neg (p : Rat) : frq (-p) = fr (-p.num) p.den := rfl

abbrev s_price_of : Stmt := top 36
theorem sc_price_of : FnScope ["parts", "room", "part", "more", "price", "ways"] ["parts", "room"] (defScope s_price_of) := ⟨rfl, rfl, rfl, by decide +kernel, rfl, by decide +kernel, by decide +kernel⟩
def sp_price_of (C : Addr) : Sp := fun vs H Q _ => ∃ F M v u, ∃ (k : Nat) (rows : List Row) (R : Rat), vs = [v, u] ∧ Wf F H M ∧ Rk F M v (.lst (rows.map (prtR C))) ∧ Kn F u (frq R) ∧ (∀ r ∈ rows, ROk r) ∧ rows.length ≤ 120 ∧ Sz k R ∧ 70 ≤ k ∧ k ≤ 1400 ∧ (∀ p r H', ShR rows R (some p) → Sz (2 * k) p → Wf ((r, frq p) :: F) H' M → Q r H') ∧ (∀ H', ShR rows R none → Wf F H' M → Q .non H')
theorem n_priceof {C : Addr} {F : List (V × D)} {H : Hp} {M : List ME} {v u : V} {k : Nat} {rows : List Row} {R : Rat} {Q : VK} {E : XK} (w : Wf F H M) (hv : Rk F M v (.lst (rows.map (prtR C)))) (hu : Kn F u (frq R)) (ok : ∀ r ∈ rows, ROk r) (hl : rows.length ≤ 120) (sR : Sz k R) (k0 : 70 ≤ k) (k1 : k ≤ 1400)
  (q : ∀ p r H', ShR rows R (some p) → Sz (2 * k) p → Wf ((r, frq p) :: F) H' M → Q r H') (q' : ∀ H', ShR rows R none → Wf F H' M → Q .non H') : sp_price_of C ([v, u] ++ []) H Q E := ⟨F, M, v, u, k, rows, R, rfl, w, hv, hu, ok, hl, sR, k0, k1, q, q'⟩

theorem ok_price_of {f : Addr} {fd : FuncData} (F : Fun K "price_of" "price_of" s_price_of f fd) (B : Bn mg) (c_minus : Cal P wd K mg base "minus" 3 ["one", "other"] [] sp_minus) (c_price_for : Cal P wd K mg base "price_for" 4 ["ways", "amount"] [] sp_price_for) (o_Part : OwnC K C_Part) (n_Part : ∀ f ∈ (["base", "least", "greatest", "grow", "shrink"] : List Str), NoAttr K C_Part f)  : FnOk P wd K mg base CX0 5 f fd ["parts", "room"] (sp_price_of C_Part) := by
  refine F.ok sc_price_of (fun vs H Q E h => ?_) (fun cdv A outer s H vs Q E hr h => ?_)
  · obtain ⟨F, M, v, u, k, rows, R, rfl, w, hv, hu, ok, hl, sR, k0, k1, q1, q2⟩ := h
    all_goals rfl
  · obtain ⟨F, M, v, u, k, rows, R, rfl, w, hv, hu, ok, hl, sR, k0, k1, q1, q2⟩ := h
    refine ⟨_, (pss_cons (ps_set (i := 3) sc_price_of.nd rfl (Or.inl rfl) (pe_cal c_minus (hr.mono (by decide)) (by rfl) (pa_cons (pv 1) (pa_cons (pe_tup (pa_cons (pe_callB (k_sum (K := K) rfl rfl) (by rfl) B.sum_ (by decide +kernel) (pa_cons (pe_lc (own := [("part", 2)]) (by rfl) sc_price_of.nd (kpi_list (K := K) rfl (pv 0)) (blkOk_by (own := [("part", 2)]) (N := ["parts", "room", "part", "more", "price", "ways"]) (sc := defScope s_price_of) (by decide +kernel)) (fun _ _ _ _ _ => (pg_name (i := 2) sc_price_of.nd rfl (Or.inl rfl))) (fun _ _ _ _ _ => pts_nil) (fun _ _ _ _ _ => (kpe_fld (K := K) rfl (pv 2) rfl))) pa_nil)) (pa_cons pe_int pa_nil))) pa_nil))))
      (pss_cons (ps_if (pt_cmpR (k_eq (K := K) rfl hr.units) (pe_ix (k_ix (K := K) rfl) (pv 3) pe_int (fun _ _ => rfl)) pe_int (nomark _)) (pss_one (ps_ret (pe_tup (pa_cons pe_int (pa_cons pe_int pa_nil))))) pss_nil)
      (pss_cons (ps_if (pt_cmpR op_lt (pe_ix (k_ix (K := K) rfl) (pv 3) pe_int (fun _ _ => rfl)) pe_int (nomark _)) (pss_cons (ps_set (i := 4) sc_price_of.nd rfl (Or.inl rfl) (pe_cal c_price_for (hr.mono (by decide)) (by rfl) (pa_cons (pe_lc (own := [("part", 2)]) (by rfl) sc_price_of.nd (kpi_list (K := K) rfl (pv 0)) (blkOk_by (own := [("part", 2)]) (N := ["parts", "room", "part", "more", "price", "ways"]) (sc := defScope s_price_of) (by decide +kernel)) (fun _ _ _ _ _ => (pg_name (i := 2) sc_price_of.nd rfl (Or.inl rfl))) (fun _ _ _ _ _ => pts_nil) (fun _ _ _ _ _ => (pe_tup (pa_cons (kpe_fld (K := K) rfl (pv 2) rfl) (pa_cons (pe_op op_sub (kpe_fld (K := K) rfl (pv 2) rfl) (kpe_fld (K := K) rfl (pv 2) rfl)) pa_nil))))) (pa_cons (pe_tup (pa_cons (pe_un un_neg (pe_ix (k_ix (K := K) rfl) (pv 3) pe_int (fun _ _ => rfl))) (pa_cons (pe_ix (k_ix (K := K) rfl) (pv 3) pe_int (fun _ _ => rfl)) pa_nil))) pa_nil))))
      (pss_cons (ps_if (pt_cmp (pc_isN (pv 4))) (pss_one (ps_ret pe_non)) pss_nil)
      (pss_one (ps_ret (pe_tup (pa_cons (pe_un un_neg (pe_ix (k_ix (K := K) rfl) (pv 4) pe_int (fun _ _ => rfl))) (pa_cons (pe_ix (k_ix (K := K) rfl) (pv 4) pe_int (fun _ _ => rfl)) pa_nil))))))) pss_nil)
      (pss_cons (ps_set (i := 5) sc_price_of.nd rfl (Or.inl rfl) (pe_lst pa_nil))
      (pss_cons (ps_for PassesOwn.never rfl (kpi_list (K := K) rfl (pv 0)) (pg_name (i := 2) sc_price_of.nd rfl (Or.inl rfl)) (pss_one (ps_if (pt_cmp (pc_isN (kpe_fld (K := K) rfl (pv 2) rfl))) (pss_one (ps_expr (pe_bm PySem.F.plainAttrs_list PySem.F.slot_list_append PySem.F.type_list_append mt_append (pv 5) (pa_cons (pe_tup (pa_cons (kpe_fld (K := K) rfl (pv 2) rfl) (pa_cons pe_non pa_nil))) pa_nil)))) (pss_one (ps_expr (pe_bm PySem.F.plainAttrs_list PySem.F.slot_list_append PySem.F.type_list_append mt_append (pv 5) (pa_cons (pe_tup (pa_cons (kpe_fld (K := K) rfl (pv 2) rfl) (pa_cons (pe_op op_sub (kpe_fld (K := K) rfl (pv 2) rfl) (kpe_fld (K := K) rfl (pv 2) rfl)) pa_nil))) pa_nil)))))))
      (pss_one (ps_ret (pe_cal c_price_for (hr.mono (by decide)) (by rfl) (pa_cons (pv 5) (pa_cons (pv 3) pa_nil)))))))))), ?_⟩
    try dsimp only [cxOf, Cx.nox, Cx.wish, Cx.blk]
    wtm_at "n"
    refine n_lcMapI (g := prtR C_Part) (f := fun x : Row => x.b) w hv (by omega) (fun v => rfl) ?_ ?_
    · intro x y D acc H0 C _ w kc
      wtm_at "n"
      exact kc _ (by wtm_at "wf")
    intro pw H2 w
    wtm_at "n"
    refine n_sum (ns := rows.map (·.b)) w (.ml List.mem_cons_self) ?_
    obtain ⟨b0, b1⟩ := bsum_bd ok hl
    have bB : Bd 47 (bsum rows) := Bd.of 120000000000000 (by omega)
    wtm_at "n"
    rename_i pt Ht w
    refine n_minus (q := ((bsum rows : Int) : Rat)) w hu.more (.mem List.mem_cons_self) sR (Sz.int bB) (by omega) (by decide) (by
        rw [show ((((bsum rows : Int) : Rat).den : Nat) : Int) = 1 from rfl, Int.mul_one]
        exact sR.d.mono (by omega)) fun mo H3 w => ?_
    have sM : Sz (k + 48) (R - ((bsum rows : Int) : Rat)) := (sR.sub (Sz.int bB)).mono (by omega)
    have w : Wf ((mo, frq (R - ((bsum rows : Int) : Rat))) :: F) H3 M := by wtm_at "wf"
    have key1 : (R - ((bsum rows : Int) : Rat)).num = 0 ↔ R = ((bsum rows : Int) : Rat) := by
      rw [Rat.num_eq_zero]
      grind
    have key2 : (R - ((bsum rows : Int) : Rat)).num < 0 ↔ R < ((bsum rows : Int) : Rat) := by
      rw [← lt_zero]
      grind
    generalize hm : R - ((bsum rows : Int) : Rat) = m at w sM key1 key2
    wtm_at "n"
    wtm_at "fork"
    · rename_i h0
      wtm_at "n"
      exact q1 0 _ _ (shr_zero ok (key1.mp h0)) ⟨Bd.of 0 (by decide) (Nat.pow_pos (by decide)), bd1 (by omega)⟩ (by wtm_at "wf1")
    rename_i h0
    wtm_at "n"
    wtm_at "fork"
    · rename_i h1
      have hlt := key2.mp h1
      wtm_at "n"
      refine n_lcMap (g := prtR C_Part) (f := fun x : Row => wyD (dnW x)) w (by ktf_call "rk") (by omega) (fun v => rfl) ?_ ?_
      · intro x y D acc H0 C _ w kc
        wtm_at "n"
        exact kc _ _ (by wtm_at "wf1")
      intro pw H4 w
      wtm_at "n"
      rename_i pn Hn w
      refine n_pricefor (k := k + 48) (ws := rows.map dnW) (A := -m) w (by rw [List.map_map]; exact .ml List.mem_cons_self) (.mem List.mem_cons_self) (fun x hx => by
        obtain ⟨r, hr, rfl⟩ := List.mem_map.mp hx
        exact dnW_ok (ok r hr)) (by rw [List.length_map]; exact hl) (by grind) sM.neg (by omega) (fun p pr H5 hP sP w => ?_) (fun H5 hP w => ?_)
      · obtain ⟨prp, rfl⟩ := Wf.tup0 w
        wtm_at "n"
        rename_i w
        refine q1 (-p) _ _ ?_ (sP.neg.mono (by omega)) (by wtm_at "wf1")
        refine shr_dn (o := some p) ok hlt ?_
        rw [show ((bsum rows : Int) : Rat) - R = -m by grind]
        exact hP
      · wtm_at "n"
        refine q2 _ ?_ (by wtm_at "wf")
        refine shr_dn (o := none) ok hlt ?_
        rw [show ((bsum rows : Int) : Rat) - R = -m by grind]
        exact hP
    rename_i h1
    have hgt : ((bsum rows : Int) : Rat) < R := by
      have n0 : ¬ R = ((bsum rows : Int) : Rat) := fun e => h0 (key1.mpr e)
      have n1 : ¬ R < ((bsum rows : Int) : Rat) := fun e => h1 (key2.mpr e)
      grind
    wtm_at "n"
    rename_i pw H4 w
    refine n_forL w (fun i σ' F' M' => ∃ x2, σ' = [some v, some u, x2, some mo, none, some (.ref pw)] ∧ F' = (mo, frq m) :: F ∧ M' = .ml pw ((rows.take i).map fun x => wyD (upW x)) :: M) (fun i σ F' M' h => by obtain ⟨_, _, rfl, rfl⟩ := h; ktf_call "rk") ⟨_, rfl, rfl, rfl⟩ ?_ ?_
    · clear w
      rintro i d y σ' H' F' M' hd ⟨x2, rfl, rfl, rfl⟩ w
      obtain ⟨x, hx, rfl⟩ := map_get hd
      have hle3 : ((rows.take i).map fun x => wyD (upW x)).length ≤ 100000 := by
        have := List.length_take_le' i rows
        rw [List.length_map]; omega
      cases hg : x.g with
      | none =>
        have w : Wf ((y, prt C_Part x.b x.l .non x.w x.s) :: (mo, frq m) :: F) H' (.ml pw ((rows.take i).map fun x => wyD (upW x)) :: M) := by
          have := w
          rw [prtR, hg] at this
          exact this
        wtm_at "n"
        rename_i w
        refine ⟨_, _, ⟨_, rfl, rfl, rfl⟩, ?_⟩
        rw [take_snoc hx, List.map_append]
        simp only [List.map_cons, List.map_nil]
        rw [show upW x = (x.w, none) by rw [upW, hg]; rfl]
        wtm_at "wfd"
      | some g =>
        have w : Wf ((y, prt C_Part x.b x.l (.int g) x.w x.s) :: (mo, frq m) :: F) H' (.ml pw ((rows.take i).map fun x => wyD (upW x)) :: M) := by
          have := w
          rw [prtR, hg] at this
          exact this
        wtm_at "n"
        rename_i w
        refine ⟨_, _, ⟨_, rfl, rfl, rfl⟩, ?_⟩
        rw [take_snoc hx, List.map_append]
        simp only [List.map_cons, List.map_nil]
        rw [show upW x = (x.w, some (g - x.b)) by rw [upW, hg]; rfl]
        wtm_at "wfd"
    clear w
    rintro σ' H' F' M' ⟨x2, rfl, rfl, rfl⟩ w
    rw [List.length_map, List.take_length] at w
    wtm_at "n"
    refine n_pricefor (k := k + 48) (ws := rows.map upW) (A := m) w (by rw [List.map_map]; exact .ml List.mem_cons_self) (.mem List.mem_cons_self) (fun x hx => by
        obtain ⟨r, hr, rfl⟩ := List.mem_map.mp hx
        exact upW_ok (ok r hr)) (by rw [List.length_map]; exact hl) (by grind) sM (by omega) (fun p pr H5 hP sP w => ?_) (fun H5 hP w => ?_)
    · wtm_at "n"
      refine q1 p _ _ ?_ (sP.mono (by omega)) (by wtm_at "wf")
      refine shr_up (o := some p) ok hgt ?_
      rw [hm]
      exact hP
    · wtm_at "n"
      refine q2 _ ?_ (by wtm_at "wf")
      refine shr_up (o := none) ok hgt ?_
      rw [hm]
      exact hP
abbrev s_end_of : Stmt := top 37
theorem sc_end_of : FnScope ["part", "up"] ["part", "up"] (defScope s_end_of) := ⟨rfl, rfl, rfl, by decide +kernel, rfl, by decide +kernel, by decide +kernel⟩
def sp_end_of (C : Addr) : Sp := fun vs H Q _ => ∃ F M v up, ∃ x : Row, vs = [v, .bl up] ∧ Wf F H M ∧ Kn F v (prtR C x) ∧ ROk x ∧ (up = true → 0 < x.w → x.g ≠ none) ∧ ∀ r H', Wf ((r, frq (endI up x : Rat)) :: F) H' M → Q r H'
theorem n_endof {C : Addr} {F : List (V × D)} {H : Hp} {M : List ME} {v : V} {up : Bool} {x : Row} {Q : VK} {E : XK} (w : Wf F H M) (hv : Kn F v (prtR C x)) (ok : ROk x) (hg : up = true → 0 < x.w → x.g ≠ none) (q : ∀ r H', Wf ((r, frq (endI up x : Rat)) :: F) H' M → Q r H') : sp_end_of C ([v, .bl up] ++ []) H Q E := ⟨F, M, v, up, x, rfl, w, hv, ok, hg, q⟩

theorem ok_end_of {f : Addr} {fd : FuncData} (F : Fun K "end_of" "end_of" s_end_of f fd) (B : Bn mg) (o_Part : OwnC K C_Part) (n_Part : ∀ f ∈ (["base", "least", "greatest", "grow", "shrink"] : List Str), NoAttr K C_Part f)  : FnOk P wd K mg base CX0 1 f fd ["part", "up"] (sp_end_of C_Part) := by
  refine F.ok sc_end_of (fun vs H Q E h => ?_) (fun cdv A outer s H vs Q E hr h => ?_)
  · obtain ⟨F, M, v, up, x, rfl, w, hv, ok, hg, k⟩ := h
    all_goals rfl
  · obtain ⟨F, M, v, up, x, rfl, w, hv, ok, hg, k⟩ := h
    refine ⟨_, (pss_cons (ps_if (pw_and (pt_val (pv 1)) (pw_and1 (pt_cmpR op_gt (kpe_fld (K := K) rfl (pv 0) rfl) pe_int (nomark _)))).pt (pss_one (ps_ret (pe_tup (pa_cons (kpe_fld (K := K) rfl (pv 0) rfl) (pa_cons pe_int pa_nil))))) pss_nil)
      (pss_cons (ps_if (pw_and (pt_not (pt_val (pv 1))) (pw_and1 (pt_cmpR op_gt (kpe_fld (K := K) rfl (pv 0) rfl) pe_int (nomark _)))).pt (pss_one (ps_ret (pe_tup (pa_cons (kpe_fld (K := K) rfl (pv 0) rfl) (pa_cons pe_int pa_nil))))) pss_nil)
      (pss_one (ps_ret (pe_tup (pa_cons (kpe_fld (K := K) rfl (pv 0) rfl) (pa_cons pe_int pa_nil))))))), ?_⟩
    try dsimp only [cxOf, Cx.nox, Cx.wish, Cx.blk]
    have hv' : Rk F M v (prtR C_Part x) := Rk.of hv (by rintro (⟨_, e⟩ | ⟨_, e⟩) <;> cases e)
    cases up with
    | true =>
      wtm_at "n"
      wtm_at "fork"
      · rename_i hw
        cases e : x.g with
        | none => exact absurd e (hg rfl hw)
        | some g =>
          have e2 : endI true x = g := by rw [endI, if_pos rfl, if_pos hw, e]; rfl
          rw [e2] at k
          have hv2 : Rk F M v (prt C_Part x.b x.l (.int g) x.w x.s) := by
            have := hv'
            rw [prtR, e] at this
            exact this
          clear hv'
          wtm_at "n"
          exact k _ _ (by wtm_at "wf1")
      · rename_i hw
        have e2 : endI true x = x.b := by rw [endI, if_pos rfl, if_neg hw]
        rw [e2] at k
        wtm_at "n"
        exact k _ _ (by wtm_at "wf1")
    | false =>
      wtm_at "n"
      wtm_at "fork"
      · rename_i hw
        have e2 : endI false x = x.l := by rw [endI, if_neg (by simp), if_pos hw]
        rw [e2] at k
        wtm_at "n"
        exact k _ _ (by wtm_at "wf1")
      · rename_i hw
        have e2 : endI false x = x.b := by rw [endI, if_neg (by simp), if_neg hw]
        rw [e2] at k
        wtm_at "n"
        exact k _ _ (by wtm_at "wf1")
abbrev s_share_of : Stmt := top 38
theorem sc_share_of : FnScope ["parts", "room", "price", "up", "sizes", "part"] ["parts", "room"] (defScope s_share_of) := ⟨rfl, rfl, rfl, by decide +kernel, rfl, by decide +kernel, by decide +kernel⟩
def sp_share_of (C : Addr) : Sp := fun vs H Q _ => ∃ F M v u, ∃ (k : Nat) (rows : List Row) (R : Rat), vs = [v, u] ∧ Wf F H M ∧ Rk F M v (.lst (rows.map (prtR C))) ∧ Kn F u (frq R) ∧ (∀ r ∈ rows, ROk r) ∧ rows.length ≤ 120 ∧ Sz k R ∧ 70 ≤ k ∧ k ≤ 1400 ∧ ∀ o t ps H', ShR rows R o → (∀ p, o = some p → Sz (2 * k) p) → Wf ((t, .tup [.ref ps, shD o, frq (R - rs (shL rows R o))]) :: F) H' (.ml ps ((shL rows R o).map frq) :: M) → Q t H'
theorem n_shareof {C : Addr} {F : List (V × D)} {H : Hp} {M : List ME} {v u : V} {k : Nat} {rows : List Row} {R : Rat} {Q : VK} {E : XK} (w : Wf F H M) (hv : Rk F M v (.lst (rows.map (prtR C)))) (hu : Kn F u (frq R)) (ok : ∀ r ∈ rows, ROk r) (hl : rows.length ≤ 120) (sR : Sz k R) (k0 : 70 ≤ k) (k1 : k ≤ 1400)
  (q : ∀ o t ps H', ShR rows R o → (∀ p, o = some p → Sz (2 * k) p) → Wf ((t, .tup [.ref ps, shD o, frq (R - rs (shL rows R o))]) :: F) H' (.ml ps ((shL rows R o).map frq) :: M) → Q t H') : sp_share_of C ([v, u] ++ []) H Q E := ⟨F, M, v, u, k, rows, R, rfl, w, hv, hu, ok, hl, sR, k0, k1, q⟩
theorem n_together {F : List (V × D)} {H : Hp} {M : List ME} {v : V} {qs : List Rat} {Q : VK} {E : XK} (w : Wf F H M) (hv : Rk F M v (.lst (qs.map frq))) (ok : EdgOk qs) (f : ∀ r H', Wf ((r, frq (rs qs)) :: F) H' M → Q r H') : sp_together ([v] ++ []) H Q E := by
  obtain ⟨I, Mc, w, is, _, _, up⟩ := w.oldR hv
  exact use_together w is ok fun r J H' s w' h => f r H' (up J H' r _ _ s w' h)
theorem n_sizeat {C : Addr} {F : List (V × D)} {H : Hp} {M : List ME} {u v : V} {x : Row} {p : Rat} {Q : VK} {E : XK} (ww : Wf F H M) (hu : Kn F u (prtR C x)) (hv : Kn F v (frq p)) (ok : ROk x) (hp : Sz 7000 p) (q : ∀ r H', Wf ((r, frq (sizR x p)) :: F) H' M → Q r H') : sp_Part_size_at C (u :: ([v] ++ [])) H Q E := by
  obtain ⟨I, Mc, ww, is, _, up⟩ := ww.old
  exact use_size_at ww (is _ _ hu) (is _ _ hv) ok hp fun r J H' s w' h => q r H' (up J H' r _ s w' h)

theorem ok_share_of {f : Addr} {fd : FuncData} (F : Fun K "share_of" "share_of" s_share_of f fd) (B : Bn mg) (c_price_of : Cal P wd K mg base "price_of" 5 ["parts", "room"] [] (sp_price_of C_Part)) (c_end_of : Cal P wd K mg base "end_of" 1 ["part", "up"] [] (sp_end_of C_Part)) (c_minus : Cal P wd K mg base "minus" 3 ["one", "other"] [] sp_minus) (c_together : Cal P wd K mg base "together" 4 ["fractions"] [] sp_together) (t_Part_size_at : Met P wd K mg base "size_at" C_Part 3 ["self", "price"] [] (sp_Part_size_at C_Part)) (o_Part : OwnC K C_Part) (n_Part : ∀ f ∈ (["base", "least", "greatest", "grow", "shrink"] : List Str), NoAttr K C_Part f)  : FnOk P wd K mg base CX0 6 f fd ["parts", "room"] (sp_share_of C_Part) := by
  refine F.ok sc_share_of (fun vs H Q E h => ?_) (fun cdv A outer s H vs Q E hr h => ?_)
  · obtain ⟨F, M, v, u, k, rows, R, rfl, w, hv, hu, ok, hl, sR, k0, k1, q1⟩ := h
    all_goals rfl
  · obtain ⟨F, M, v, u, k, rows, R, rfl, w, hv, hu, ok, hl, sR, k0, k1, q1⟩ := h
    refine ⟨_, (pss_cons (ps_set (i := 2) sc_share_of.nd rfl (Or.inr rfl) (pe_cal c_price_of (hr.mono (by decide)) (by rfl) (pa_cons (pv 0) (pa_cons (pv 1) pa_nil))))
      (pss_cons (ps_if (pt_cmp (pc_isN (pv 2))) (pss_cons (ps_set (i := 3) sc_share_of.nd rfl (Or.inr rfl) (pe_cmpR op_lt (pe_op uo_mul (pe_callB (k_sum (K := K) rfl rfl) (by rfl) B.sum_ (by decide +kernel) (pa_cons (pe_lc (own := [("part", 5)]) (by rfl) sc_share_of.nd (kpi_list (K := K) rfl (pv 0)) (blkOk_by (own := [("part", 5)]) (N := ["parts", "room", "price", "up", "sizes", "part"]) (sc := defScope s_share_of) (by decide +kernel)) (fun _ _ _ _ _ => (pg_name (i := 5) sc_share_of.nd rfl (Or.inl rfl))) (fun _ _ _ _ _ => pts_nil) (fun _ _ _ _ _ => (kpe_fld (K := K) rfl (pv 5) rfl))) pa_nil)) (pe_ix (k_ix (K := K) rfl) (pv 1) pe_int (fun _ _ => rfl))) (pe_ix (k_ix (K := K) rfl) (pv 1) pe_int (fun _ _ => rfl)) (nomark _)))
      (pss_one (ps_setLc (i := 4) (own := [("part", 5)]) (by rfl) sc_share_of.nd rfl rfl (sw_true rfl rfl rfl (by decide +kernel)) (kpi_list (K := K) rfl (pv 0)) (blkOk_by (own := [("part", 5)]) (N := ["parts", "room", "price", "up", "sizes", "part"]) (sc := defScope s_share_of) (by decide +kernel)) (fun _ _ _ _ _ => (pg_name (i := 5) sc_share_of.nd rfl (Or.inl rfl))) (fun _ _ _ _ _ => pts_nil) (fun _ _ _ _ _ => (pe_cal c_end_of (hr.mono (by decide)) (by rfl) (pa_cons (pv 5) (pa_cons (pv 3) pa_nil))))))) (pss_one (ps_setLc (i := 4) (own := [("part", 5)]) (by rfl) sc_share_of.nd rfl rfl (sw_true rfl rfl rfl (by decide +kernel)) (kpi_list (K := K) rfl (pv 0)) (blkOk_by (own := [("part", 5)]) (N := ["parts", "room", "price", "up", "sizes", "part"]) (sc := defScope s_share_of) (by decide +kernel)) (fun _ _ _ _ _ => (pg_name (i := 5) sc_share_of.nd rfl (Or.inl rfl))) (fun _ _ _ _ _ => pts_nil) (fun _ _ _ _ _ => (pe_met (pv 5) t_Part_size_at (hr.mono (by decide)) (pa_cons (pv 2) pa_nil))))))
      (pss_one (ps_ret (pe_tup (pa_cons (pv 4) (pa_cons (pv 2) (pa_cons (pe_cal c_minus (hr.mono (by decide)) (by rfl) (pa_cons (pv 1) (pa_cons (pe_cal c_together (hr.mono (by decide)) (by rfl) (pa_cons (pv 4) pa_nil)) pa_nil))) pa_nil)))))))), ?_⟩
    try dsimp only [cxOf, Cx.nox, Cx.wish, Cx.blk]
    wtm_at "n"
    refine n_priceof w hv hu ok hl sR k0 k1 (fun p pr H1 hS sP w => ?_) (fun H1 hS w => ?_)
    · obtain ⟨prp, rfl⟩ := Wf.tup0 w
      wtm_at "n"
      refine n_lcMap (g := prtR C_Part) (f := fun x : Row => frq (sizR x p)) w (by ktf_call "rk") (by omega) (fun v => rfl) ?_ ?_
      · intro x y D acc H0 C hx w kc
        wtm_at "n"
        refine n_sizeat w (.mem (by ktf_call "mem")) (.mem (by ktf_call "mem")) (ok x hx) (sP.mono (by omega)) fun r H2 w => ?_
        wtm_at "n"
        exact kc _ _ (by wtm_at "wf")
      intro ps H2 w
      obtain ⟨N, hN, bN, hq⟩ := shL_dv ok hS (k := 2 * k) (fun q e => by cases e; exact sP) (by omega)
      have hlen : (shL rows R (some p)).length ≤ 1000 := by simp [shL]; omega
      have sS := rs_szN hN bN hq hlen
      have w : Wf ((.ref prp, frq p) :: F) H2 (.ml ps ((shL rows R (some p)).map frq) :: M) := by
        rw [shL, List.map_map]
        exact w
      wtm_at "n"
      refine n_together w (.ml List.mem_cons_self) (EdgOk.ofN hN bN hq hlen (by omega) (by omega)) fun tg H3 w => ?_
      wtm_at "n"
      refine n_minus w (hu.more.more) (.mem List.mem_cons_self) sR (sS.sz (m := 2 * k + 60) (by omega) (by omega)) (by omega) (by omega) ((sR.d.mul sS.d).mono (by omega)) fun lf H4 w => ?_
      wtm_at "n"
      refine n_newT w (ds := [.ref ps, frq p, frq (R - rs (shL rows R (some p)))]) (.cons (.ref _) (.cons (.mem (by simp)) (.cons (.mem (by simp)) .nil))) (by simp) fun t H5 w => ?_
      exact q1 (some p) _ ps _ hS (fun q e => by cases e; exact sP) (by wtm_at "wf1")
    · wtm_at "n"
      refine n_lcMapI (g := prtR C_Part) (f := fun x : Row => x.b) w (by ktf_call "rk") (by omega) (fun v => rfl) ?_ ?_
      · intro x y D acc H0 C _ w kc
        wtm_at "n"
        exact kc _ (by wtm_at "wf")
      intro pw H2 w
      wtm_at "n"
      refine n_sum (ns := rows.map (·.b)) w (.ml List.mem_cons_self) ?_
      have hu' : Rk F M u (frq R) := hu.rkT
      obtain ⟨b0, b1⟩ := bsum_bd ok hl
      have bB : Bd 47 (rows.map (·.b)).sum := Bd.of 120000000000000 (by have : (rows.map (·.b)).sum = bsum rows := rfl; omega)
      wtm_at "n"
      refine s_mul (bB.cm sR.d (by omega)) ?_
      wtm_at "n"
      have eu : decide ((rows.map (·.b)).sum * (R.den : Int) < R.num) = shUp rows R := by
        unfold shUp
        rw [decide_eq_decide, lt_int]
        rfl
      rw [eu]
      have hgu : ∀ x ∈ rows, shUp rows R = true → 0 < x.w → x.g ≠ none := fun r hr hu hw => by
        rcases hS with ⟨_, h2, _⟩ | ⟨h2, _⟩
        · exact h2 r hr hw
        · unfold shUp at hu
          have := of_decide_eq_true hu
          grind
      refine n_lcMap (g := prtR C_Part) (f := fun x : Row => frq (endI (shUp rows R) x : Rat)) w (by ktf_call "rk") (by omega) (fun v => rfl) ?_ ?_
      · intro x y D acc H0 C hx w kc
        wtm_at "n"
        refine n_endof w (.mem (by ktf_call "mem")) (ok x hx) (hgu x hx) fun r H2 w => ?_
        wtm_at "n"
        exact kc _ _ (by wtm_at "wf")
      intro ps H3 w
      obtain ⟨N, hN, bN, hq⟩ := shL_dv ok hS (k := 2 * k) (fun q e => by cases e) (by omega)
      have hlen : (shL rows R none).length ≤ 1000 := by simp [shL]; omega
      have sS := rs_szN hN bN hq hlen
      have w : Wf F H3 (.ml ps ((shL rows R none).map frq) :: M) := by
        rw [shL, List.map_map]
        exact w.sub KS.refl (by
          refine List.Sublist.cons_cons _ ?_
          exact List.Sublist.cons _ (.refl _))
      wtm_at "n"
      refine n_together w (.ml List.mem_cons_self) (EdgOk.ofN hN bN hq hlen (by omega) (by omega)) fun tg H3 w => ?_
      wtm_at "n"
      refine n_minus w (hu.more) (.mem List.mem_cons_self) sR (sS.sz (m := 2 * k + 60) (by omega) (by omega)) (by omega) (by omega) ((sR.d.mul sS.d).mono (by omega)) fun lf H4 w => ?_
      wtm_at "n"
      refine n_newT w (ds := [.ref ps, .non, frq (R - rs (shL rows R none))]) (.cons (.ref _) (.cons .non (.cons (.mem (by simp)) .nil))) (by simp) fun t H5 w => ?_
      exact q1 none _ ps _ hS (fun q e => by cases e) (by wtm_at "wf1")
abbrev s_share : Stmt := top 39
theorem sc_share : FnScope ["parts", "room"] ["parts", "room"] (defScope s_share) := ⟨rfl, rfl, rfl, by decide +kernel, rfl, by decide +kernel, by decide +kernel⟩
def sp_share (C : Addr) : Sp := fun vs H Q _ => ∃ F M v u, ∃ (k : Nat) (rows : List Row) (R : Rat), vs = [v, u] ∧ Wf F H M ∧ Rk F M v (.lst (rows.map (prtR C))) ∧ Kn F u (frq R) ∧ (∀ r ∈ rows, ROk r) ∧ rows.length ≤ 60 ∧ Sz k R ∧ 70 ≤ k ∧ k ≤ 1400 ∧ 0 ≤ R ∧ ∀ o t ps H', ShR rows R o → (∀ p, o = some p → Sz (2 * k) p) → Wf ((t, .tup [.ref ps, shD o, frq (R - rs (shL rows R o))]) :: F) H' (.ml ps ((shL rows R o).map frq) :: M) → Q t H'
theorem n_share {C : Addr} {F : List (V × D)} {H : Hp} {M : List ME} {v u : V} {k : Nat} {rows : List Row} {R : Rat} {Q : VK} {E : XK} (w : Wf F H M) (hv : Rk F M v (.lst (rows.map (prtR C)))) (hu : Kn F u (frq R)) (ok : ∀ r ∈ rows, ROk r) (hl : rows.length ≤ 60) (sR : Sz k R) (k0 : 70 ≤ k) (k1 : k ≤ 1400) (hR : 0 ≤ R)
  (q : ∀ o t ps H', ShR rows R o → (∀ p, o = some p → Sz (2 * k) p) → Wf ((t, .tup [.ref ps, shD o, frq (R - rs (shL rows R o))]) :: F) H' (.ml ps ((shL rows R o).map frq) :: M) → Q t H') : sp_share C ([v, u] ++ []) H Q E := ⟨F, M, v, u, k, rows, R, rfl, w, hv, hu, ok, hl, sR, k0, k1, hR, q⟩
theorem n_isfrq {F : List (V × D)} {H : Hp} {M : List ME} {v : V} {p : Rat} {Q : VK} {E : XK} (w : Wf F H M) (h : Kn F v (frq p)) (q : Q (.bl true) H) : sp_is_fraction ([v] ++ []) H Q E := by
  refine use_isfr (I := H) (M := []) W.self (w.rd (M := M) h.rkT) (Ask.two ⟨_, rfl⟩ ⟨_, rfl⟩) ?_
  rw [show (frq p).isfr = true from decide_eq_true ⟨by have := den_pos' p; omega, gcd_q p⟩]
  exact q

theorem ok_share {f : Addr} {fd : FuncData} (F : Fun K "share" "share" s_share f fd) (B : Bn mg) (c_look_at_parts : Cal P wd K mg base "look_at_parts" 1 ["parts"] [] (sp_look_at_parts C_Part)) (c_is_fraction : Cal P wd K mg base "is_fraction" 2 ["thing"] [] sp_is_fraction) (c_share_of : Cal P wd K mg base "share_of" 6 ["parts", "room"] [] (sp_share_of C_Part)) (o_Part : OwnC K C_Part) (n_Part : ∀ f ∈ (["base", "least", "greatest", "grow", "shrink"] : List Str), NoAttr K C_Part f)  : FnOk P wd K mg base CX0 7 f fd ["parts", "room"] (sp_share C_Part) := by
  refine F.ok sc_share (fun vs H Q E h => ?_) (fun cdv A outer s H vs Q E hr h => ?_)
  · obtain ⟨F, M, v, u, k, rows, R, rfl, w, hv, hu, ok, hl, sR, k0, k1, hR, q1⟩ := h
    all_goals rfl
  · obtain ⟨F, M, v, u, k, rows, R, rfl, w, hv, hu, ok, hl, sR, k0, k1, hR, q1⟩ := h
    refine ⟨_, (pss_cons (ps_expr (pe_cal c_look_at_parts (hr.mono (by decide)) (by rfl) (pa_cons (pv 0) pa_nil)))
      (pss_cons (ps_if (pw_or (pt_not (pt_val (pe_cal c_is_fraction (hr.mono (by decide)) (by rfl) (pa_cons (pv 1) pa_nil)))) (pw_or1 (pt_cmpR op_lt (pe_ix (k_ix (K := K) rfl) (pv 1) pe_int (fun _ _ => rfl)) pe_int (nomark _)))).pt pss_never pss_nil)
      (pss_one (ps_ret (pe_cal c_share_of (hr.mono (by decide)) (by rfl) (pa_cons (pv 0) (pa_cons (pv 1) pa_nil))))))), ?_⟩
    try dsimp only [cxOf, Cx.nox, Cx.wish, Cx.blk]
    wtm_at "n"
    refine n_lookparts w hv hl fun H1 w => ?_
    wtm_at "n"
    refine n_isfrq w hu ?_
    have hu' : Rk F M u (frq R) := hu.rkT
    have hn : ¬ R.num < 0 := fun z => by
      have := lt_zero.mpr z
      grind
    wtm_at "n"
    refine s_iteDn hn ?_
    wtm_at "n"
    exact n_shareof w hv hu ok (by omega) sR k0 k1 q1
abbrev s_whole_share : Stmt := top 40
theorem sc_whole_share : FnScope ["parts", "room"] ["parts", "room"] (defScope s_whole_share) := ⟨rfl, rfl, rfl, by decide +kernel, rfl, by decide +kernel, by decide +kernel⟩
def sp_whole_share (C : Addr) : Sp := fun vs H Q _ => ∃ F M v, ∃ (m : Int) (rows : List Row), vs = [v, .int m] ∧ Wf F H M ∧ Rk F M v (.lst (rows.map (prtR C))) ∧ (∀ r ∈ rows, ROk r) ∧ rows.length ≤ 60 ∧ 0 ≤ m ∧ m ≤ 1000000000000 ∧ ∀ o p H', ShR rows (m : Rat) o → Wf F H' (.ml p ((whl (shL rows (m : Rat) o)).map D.int) :: M) → Q (.ref p) H'
theorem n_wshare {C : Addr} {F : List (V × D)} {H : Hp} {M : List ME} {v : V} {m : Int} {rows : List Row} {Q : VK} {E : XK} (w : Wf F H M) (hv : Rk F M v (.lst (rows.map (prtR C)))) (ok : ∀ r ∈ rows, ROk r) (hl : rows.length ≤ 60) (m0 : 0 ≤ m) (m1 : m ≤ 1000000000000) (q : ∀ o p H', ShR rows (m : Rat) o → Wf F H' (.ml p ((whl (shL rows (m : Rat) o)).map D.int) :: M) → Q (.ref p) H') : sp_whole_share C ([v, .int m] ++ []) H Q E := ⟨F, M, v, m, rows, rfl, w, hv, ok, hl, m0, m1, q⟩
theorem n_wholesQ {F : List (V × D)} {H : Hp} {M : List ME} {v : V} {qs : List Rat} {Q : VK} {E : XK} (w : Wf F H M) (hv : Kn F v (.lst (qs.map frq))) (ok : EdgOk qs) (q : ∀ p H', Wf F H' (.ml p ((whl qs).map D.int) :: M) → Q (.ref p) H') : sp_wholes_of ([v] ++ []) H Q E := by
  obtain ⟨I, Mc, w, a, hF⟩ := w.ex
  refine use_wholes w (hv.is hF) ok fun p J H' s hn w' hp => q p H' ?_
  obtain ⟨p', vs, e, hp', hv'⟩ := hp.lst_ex
  cases e
  rw [hv'.ints_eq] at hp'
  exact ⟨del J p, _, w'.unf hp', .cons (.ml (IsA.ints _)) (a.mono (same_del s hn)), fun f hf => (hF f hf).mono (same_del s hn)⟩

theorem ok_whole_share {f : Addr} {fd : FuncData} (F : Fun K "whole_share" "whole_share" s_whole_share f fd) (B : Bn mg) (c_look_at_parts : Cal P wd K mg base "look_at_parts" 1 ["parts"] [] (sp_look_at_parts C_Part)) (c_is_length : Cal P wd K mg base "is_length" 2 ["thing"] [] (sp_is_length K)) (c_wholes_of : Cal P wd K mg base "wholes_of" 5 ["sizes"] [] sp_wholes_of) (c_share_of : Cal P wd K mg base "share_of" 6 ["parts", "room"] [] (sp_share_of C_Part)) (o_Part : OwnC K C_Part) (n_Part : ∀ f ∈ (["base", "least", "greatest", "grow", "shrink"] : List Str), NoAttr K C_Part f)  : FnOk P wd K mg base CX0 7 f fd ["parts", "room"] (sp_whole_share C_Part) := by
  refine F.ok sc_whole_share (fun vs H Q E h => ?_) (fun cdv A outer s H vs Q E hr h => ?_)
  · obtain ⟨F, M, v, m, rows, rfl, w, hv, ok, hl, m0, m1, k⟩ := h
    all_goals rfl
  · obtain ⟨F, M, v, m, rows, rfl, w, hv, ok, hl, m0, m1, k⟩ := h
    refine ⟨_, (pss_cons (ps_expr (pe_cal c_look_at_parts (hr.mono (by decide)) (by rfl) (pa_cons (pv 0) pa_nil)))
      (pss_cons (ps_if (pt_not (pt_val (pe_cal c_is_length (hr.mono (by decide)) (by rfl) (pa_cons (pv 1) pa_nil)))) pss_never pss_nil)
      (pss_one (ps_ret (pe_cal c_wholes_of (hr.mono (by decide)) (by rfl) (pa_cons (pe_ix (k_ix (K := K) rfl) (pe_cal c_share_of (hr.mono (by decide)) (by rfl) (pa_cons (pv 0) (pa_cons (pe_tup (pa_cons (pv 1) (pa_cons pe_int pa_nil))) pa_nil))) pe_int (fun _ _ => rfl)) pa_nil)))))), ?_⟩
    try dsimp only [cxOf, Cx.nox, Cx.wish, Cx.blk]
    wtm_at "n"
    refine n_lookparts w hv hl fun H1 w => ?_
    wtm_at "n"
    refine use_is_length (I := H1) (M := []) Fs.W.self m0 m1 ?_
    wtm_at "n"
    rename_i pt H2 w
    have sR : Sz 70 ((m : Int) : Rat) := (Sz.int (k := 40) (bd12 m0 m1)).mono (by decide)
    refine n_shareof (k := 70) (rows := rows) (R := (m : Rat)) w (by ktf_call "rk") (.mem List.mem_cons_self) ok (by omega) sR (by decide) (by decide) fun o t ps H3 hS sp w => ?_
    obtain ⟨N, hN, bN, hq⟩ := shL_dv ok hS (k := 140) sp (by decide)
    have hlen : (shL rows (m : Rat) o).length ≤ 1000 := by cases o <;> simp [shL] <;> omega
    wtm_at "n"
    have w := w.frzL .here
    refine n_wholesQ w (.mem List.mem_cons_self) (EdgOk.ofN hN bN hq hlen (by decide) (by decide)) fun p H4 w => ?_
    exact k o p _ hS (by wtm_at "wf")
/-! ### boxes -/
/-- the least, the base, the greatest breadth -/
structure T3 where
  l : Int
  b : Int
  g : Option Int
abbrev t3D (t : T3) : D := .tup [.int t.l, .int t.b, oD t.g]
def T3.nil : T3 := ⟨0, 0, none⟩
/-- what a box in a row can have -/
def T3.eff (t : T3) (w s : Int) : T3 := ⟨if s = 0 then t.b else t.l, t.b, if w = 0 then some t.b else t.g⟩
def T3.add (t u : T3) : T3 := ⟨t.l + u.l, t.b + u.b, match t.g, u.g with | some x, some y => some (x + y) | _, _ => none⟩
def T3.mx (t u : T3) : T3 := ⟨max t.l u.l, max t.b u.b, match t.g, u.g with | some x, some y => some (max x y) | _, _ => none⟩
def T3.sh (t : T3) (n : Int) : T3 := ⟨t.l + n, t.b + n, t.g.map (· + n)⟩
def rowT (gap : Int) (ts : List T3) : T3 := if ts = [] then T3.nil else ts.foldl T3.add ⟨gap * (ts.length - 1 : Int), gap * (ts.length - 1 : Int), some (gap * (ts.length - 1 : Int))⟩
def colT : List T3 → T3
  | [] => T3.nil
  | t :: ts => ts.foldl T3.mx t
inductive Bx where
  | leaf (key : Str) (b l : Int) (g : Option Int) (w s : Int)
  | box (w s : Int)
  | pad (k : Bx) (by_ w s : Int)
  | line (c : Bool) (ks : List Bx) (gap w s : Int)
def Bx.w : Bx → Int
  | .leaf _ _ _ _ w _ => w
  | .box w _ => w
  | .pad _ _ w _ => w
  | .line _ _ _ w _ => w
def Bx.s : Bx → Int
  | .leaf _ _ _ _ _ s => s
  | .box _ s => s
  | .pad _ _ _ s => s
  | .line _ _ _ _ s => s
def Bx.kids : Bx → List Bx
  | .pad k _ _ _ => [k]
  | .line _ ks _ _ _ => ks
  | _ => []
mutual
def Bx.dp : Bx → Nat
  | .leaf .. => 1
  | .box .. => 1
  | .pad k _ _ _ => k.dp + 1
  | .line _ ks _ _ _ => Bx.dps ks + 1
def Bx.dps : List Bx → Nat
  | [] => 0
  | k :: ks => max k.dp (Bx.dps ks)
end
mutual
def Bx.mn : Bx → Nat
  | .leaf .. => 1
  | .box .. => 1
  | .pad k _ _ _ => k.mn + 1
  | .line _ ks _ _ _ => Bx.mns ks + 1
def Bx.mns : List Bx → Nat
  | [] => 0
  | k :: ks => k.mn + Bx.mns ks
end
mutual
def Bx.acr : Bx → T3
  | .leaf _ b l g _ _ => ⟨l, b, g⟩
  | .box .. => T3.nil
  | .pad k n _ _ => k.acr.sh (2 * n)
  | .line c ks gap _ _ => if c then colT (Bx.acrs ks) else rowT gap (Bx.effs ks)
def Bx.acrs : List Bx → List T3
  | [] => []
  | k :: ks => k.acr :: Bx.acrs ks
def Bx.effs : List Bx → List T3
  | [] => []
  | k :: ks => k.acr.eff k.w k.s :: Bx.effs ks
end
def Bx.eff (k : Bx) : T3 := k.acr.eff k.w k.s
mutual
/-- a box as the law's data -/
def spD : Bx → D
  | .leaf k b l g w s => .tup [.str "leaf", .lst [], .tup [.str k, .int b, .int l, oD g, .int w, .int s]]
  | .box w s => .tup [.str "box", .lst [], .tup [.int w, .int s]]
  | .pad k n w s => .tup [.str "pad", .lst [spD k], .tup [.int n, .int w, .int s]]
  | .line c ks n w s => .tup [.str (if c then "column" else "row"), .lst (spDs ks), .tup [.int n, .int w, .int s]]
def spDs : List Bx → List D
  | [] => []
  | k :: ks => spD k :: spDs ks
end
mutual
/-- a box as an object -/
def bxD (CB CL CR CC CP : Addr) : Bx → D
  | .leaf k b l g w s => .obj CL [("key", .str k), ("base", .int b), ("least", .int l), ("greatest", oD g), ("grow", .int w), ("shrink", .int s), ("deep", .int 1), ("many", .int 1)]
  | .box w s => .obj CB [("grow", .int w), ("shrink", .int s), ("deep", .int 1), ("many", .int 1)]
  | .pad k n w s => .obj CP [("box", bxD CB CL CR CC CP k), ("by", .int n), ("grow", .int w), ("shrink", .int s), ("deep", .int (k.dp + 1)), ("many", .int (k.mn + 1))]
  | .line c ks n w s => .obj (if c then CC else CR) [("boxes", .lst (bxDs CB CL CR CC CP ks)), ("gap", .int n), ("grow", .int w), ("shrink", .int s), ("deep", .int (Bx.dps ks + 1)), ("many", .int (Bx.mns ks + 1)), ("three", t3D (if c then colT (Bx.acrs ks) else rowT n (Bx.effs ks)))]
def bxDs (CB CL CR CC CP : Addr) : List Bx → List D
  | [] => []
  | k :: ks => bxD CB CL CR CC CP k :: bxDs CB CL CR CC CP ks
end
theorem acrs_map : ∀ ks : List Bx, Bx.acrs ks = ks.map Bx.acr
  | [] => by rw [Bx.acrs]; rfl
  | k :: ks => by rw [Bx.acrs, acrs_map ks]; rfl
theorem effs_map : ∀ ks : List Bx, Bx.effs ks = ks.map Bx.eff
  | [] => by rw [Bx.effs]; rfl
  | k :: ks => by rw [Bx.effs, effs_map ks]; rfl
theorem spDs_map : ∀ ks : List Bx, spDs ks = ks.map spD
  | [] => by rw [spDs]; rfl
  | k :: ks => by rw [spDs, spDs_map ks]; rfl
theorem bxDs_map {CB CL CR CC CP : Addr} : ∀ ks : List Bx, bxDs CB CL CR CC CP ks = ks.map (bxD CB CL CR CC CP)
  | [] => by rw [bxDs]; rfl
  | k :: ks => by rw [bxDs, bxDs_map ks]; rfl
theorem dps_le {ks : List Bx} {k : Bx} (h : k ∈ ks) : k.dp ≤ Bx.dps ks := by
  induction ks with
  | nil => cases h
  | cons x xs ih =>
    rw [Bx.dps]
    rcases List.mem_cons.mp h with rfl | h
    · omega
    · have := ih h; omega
theorem mns_le {ks : List Bx} {k : Bx} (h : k ∈ ks) : k.mn ≤ Bx.mns ks := by
  induction ks with
  | nil => cases h
  | cons x xs ih =>
    rw [Bx.mns]
    rcases List.mem_cons.mp h with rfl | h
    · omega
    · have := ih h; omega
theorem dp_pos (b : Bx) : 1 ≤ b.dp := by cases b <;> rw [Bx.dp] <;> omega
theorem mn_pos (b : Bx) : 1 ≤ b.mn := by cases b <;> rw [Bx.mn] <;> omega
theorem kid_dp {b k : Bx} (h : k ∈ b.kids) : k.dp + 1 ≤ b.dp := by
  cases b with
  | pad q n w s =>
    rw [show k = q from List.mem_singleton.mp h, Bx.dp]
    omega
  | line c ks n w s =>
    rw [Bx.dp]
    have := dps_le (show k ∈ ks from h)
    omega
  | _ => cases h
theorem kid_mn {b k : Bx} (h : k ∈ b.kids) : k.mn ≤ b.mn := by
  cases b with
  | pad q n w s =>
    rw [show k = q from List.mem_singleton.mp h, Bx.mn]
    omega
  | line c ks n w s =>
    rw [Bx.mn]
    have := mns_le (show k ∈ ks from h)
    omega
  | _ => cases h
theorem dps_app (xs ys : List Bx) : Bx.dps (xs ++ ys) = max (Bx.dps xs) (Bx.dps ys) := by
  induction xs with
  | nil => rw [List.nil_append, Bx.dps]; omega
  | cons x xs ih => rw [List.cons_append, Bx.dps, Bx.dps, ih]; omega
theorem mns_app (xs ys : List Bx) : Bx.mns (xs ++ ys) = Bx.mns xs + Bx.mns ys := by
  induction xs with
  | nil => rw [List.nil_append, Bx.mns]; omega
  | cons x xs ih => rw [List.cons_append, Bx.mns, Bx.mns, ih]; omega
theorem dps_one (x : Bx) : Bx.dps [x] = x.dp := by rw [Bx.dps, Bx.dps]; omega
theorem mns_one (x : Bx) : Bx.mns [x] = x.mn := by rw [Bx.mns, Bx.mns]; omega
/-- weights -/
def Wt (n : Int) : Prop := 0 ≤ n ∧ n ≤ 1000
def Sm (n : Int) : Prop := 0 ≤ n ∧ n ≤ 1000000
inductive BxOk : Bx → Prop
  | leaf {k : Str} {b l : Int} {g : Option Int} {w s : Int} (hk : isnm (.str k) = true) (hb : Sm b) (hl : 0 ≤ l) (hlb : l ≤ b) (hg : ∀ n, g = some n → b ≤ n ∧ n ≤ 1000000) (hw : Wt w) (hs : Wt s) : BxOk (.leaf k b l g w s)
  | box {w s : Int} (hw : Wt w) (hs : Wt s) : BxOk (.box w s)
  | pad {k : Bx} {n w s : Int} (hk : BxOk k) (hn : Sm n) (hw : Wt w) (hs : Wt s) : BxOk (.pad k n w s)
  | line {c : Bool} {ks : List Bx} {n w s : Int} (hk : ∀ k ∈ ks, BxOk k) (hl : ks.length ≤ 8) (hn : Sm n) (hw : Wt w) (hs : Wt s) : BxOk (.line c ks n w s)
theorem BxOk.w {b : Bx} (h : BxOk b) : Wt b.w := by cases h <;> assumption
theorem BxOk.s {b : Bx} (h : BxOk b) : Wt b.s := by cases h <;> assumption
theorem BxOk.kid {b k : Bx} (h : BxOk b) (hk : k ∈ b.kids) : BxOk k := by
  cases h with
  | pad h _ _ _ => rw [show k = _ from List.mem_singleton.mp hk]; exact h
  | line h _ _ _ _ => exact h k hk
  | _ => cases hk
theorem BxOk.k8 {b : Bx} (h : BxOk b) : b.kids.length ≤ 8 := by
  cases h with
  | pad h _ _ _ => exact (by decide : 1 ≤ 8)
  | line _ h _ _ _ => exact h
  | _ => exact Nat.zero_le _

abbrev s_look_weights : Stmt := top 45
theorem sc_look_weights : FnScope ["grow", "shrink", "at"] ["grow", "shrink", "at"] (defScope s_look_weights) := ⟨rfl, rfl, rfl, by decide +kernel, rfl, by decide +kernel, by decide +kernel⟩
def sp_look_weights : Sp := fun vs H Q _ => ∃ w s at_ : Int, vs = [.int w, .int s, .int at_] ∧ Wt w ∧ Wt s ∧ Q .non H
theorem n_lookw {w s at_ : Int} {H : Hp} {Q : VK} {E : XK} (hw : Wt w) (hs : Wt s) (q : Q .non H) : sp_look_weights ([.int w, .int s, .int at_] ++ []) H Q E := ⟨w, s, at_, rfl, hw, hs, q⟩

theorem ok_look_weights {f : Addr} {fd : FuncData} (F : Fun K "look_weights" "look_weights" s_look_weights f fd) (B : Bn mg) (c_is_weight : Cal P wd K mg base "is_weight" 2 ["thing"] [] (sp_is_weight K))  : FnOk P wd K mg base CX0 3 f fd ["grow", "shrink", "at"] sp_look_weights := by
  refine F.ok sc_look_weights (fun vs H Q E h => ?_) (fun cdv A outer s H vs Q E hr h => ?_)
  · obtain ⟨w, s, at_, rfl, ⟨w0, w1⟩, ⟨s0, s1⟩, k⟩ := h
    all_goals rfl
  · obtain ⟨w, s, at_, rfl, ⟨w0, w1⟩, ⟨s0, s1⟩, k⟩ := h
    refine ⟨_, (pss_cons (ps_if (pt_not (pt_val (pe_cal c_is_weight (hr.mono (by decide)) (by rfl) (pa_cons (pv 0) pa_nil)))) pss_never pss_nil)
      (pss_one (ps_if (pt_not (pt_val (pe_cal c_is_weight (hr.mono (by decide)) (by rfl) (pa_cons (pv 1) pa_nil)))) pss_never pss_nil))), ?_⟩
    try dsimp only [cxOf, Cx.nox, Cx.wish, Cx.blk]
    wtm_at "n"
    refine use_is_weight (I := H) (M := []) Fs.W.self w0 w1 ?_
    wtm_at "n"
    refine use_is_weight (I := H) (M := []) Fs.W.self s0 s1 ?_
    wtm_at "n"
    exact k
abbrev s_Box___init__ : Stmt := inClass (top 46) 0
theorem sc_Box___init__ : FnScope ["self", "grow", "shrink"] ["self", "grow", "shrink"] (defScope s_Box___init__) := ⟨rfl, rfl, rfl, by decide +kernel, rfl, by decide +kernel, by decide +kernel⟩
def sp_Box___init__ (C : Addr) : Sp := fun vs H Q _ => ∃ F M x, ∃ w s : Int, vs = [.ref x, .int w, .int s] ∧ Wf F H (.mi x C [] :: M) ∧ Wt w ∧ Wt s ∧ ∀ H', Wf ((.ref x, .obj C [("grow", .int w), ("shrink", .int s), ("deep", .int 1), ("many", .int 1)]) :: F) H' M → Q .non H'
theorem n_mkBox {CB CL CR CC CP : Addr} {F : List (V × D)} {H : Hp} {M : List ME} {w s : Int} {Q : VK} {E : XK} (ww : Wf F H M) (hw : Wt w) (hs : Wt s) (q : ∀ p H', Wf ((.ref p, bxD CB CL CR CC CP (.box w s)) :: F) H' M → Q (.ref p) H') : MakeQ CB (sp_Box___init__ CB) E Q [.int w, .int s] H :=
  n_make ww fun x H' w' => ⟨F, M, x, w, s, rfl, w', hw, hs, fun H2 w2 => ⟨rfl, q x H2 (by rw [bxD]; exact w2)⟩⟩

theorem ok_Box___init__ {f : Addr} {fd : FuncData} (F : FunD K "__init__" "Box.__init__" (defArgs s_Box___init__) (defBody s_Box___init__) (defScope s_Box___init__) [.int 1, .int 1] [] f fd) (B : Bn mg) (c_look_weights : Cal P wd K mg base "look_weights" 3 ["grow", "shrink", "at"] [] sp_look_weights) (o_Box : OwnC K C_Box) (n_Box : ∀ f ∈ (["grow", "shrink", "deep", "many"] : List Str), NoAttr K C_Box f)  : FnOk P wd K mg base CX0 4 f fd ["self", "grow", "shrink"] (sp_Box___init__ C_Box) := by
  refine F.ok0 sc_Box___init__ (fun vs H Q E h => ?_) (fun cdv A outer s H vs Q E hr h => ?_)
  · obtain ⟨F, M, x, w, s, rfl, ww, hw, hs, k⟩ := h
    all_goals rfl
  · obtain ⟨F, M, x, w, s, rfl, ww, hw, hs, k⟩ := h
    refine ⟨_, (pss_cons (ps_expr (pe_cal c_look_weights (hr.mono (by decide)) (by rfl) (pa_cons (pv 1) (pa_cons (pv 2) (pa_cons pe_int pa_nil)))))
      (pss_cons (kps_fld (K := K) rfl (pv 0) (pv 1) rfl)
      (pss_cons (kps_fld (K := K) rfl (pv 0) (pv 2) rfl)
      (pss_cons (kps_fld (K := K) rfl (pv 0) pe_int rfl)
      (pss_one (kps_fld (K := K) rfl (pv 0) pe_int rfl)))))), ?_⟩
    try dsimp only [cxOf, Cx.nox, Cx.wish, Cx.blk]
    wtm_at "n"
    refine n_lookw hw hs ?_
    wtm_at "n"
    rename_i w
    rw [putD_new (by (try simp only [List.nil_append, List.cons_append, List.map_cons, List.map_nil]); decide)] at w
    wtm_at "n"
    rename_i w
    rw [putD_new (by (try simp only [List.nil_append, List.cons_append, List.map_cons, List.map_nil]); decide)] at w
    wtm_at "n"
    rename_i w
    rw [putD_new (by (try simp only [List.nil_append, List.cons_append, List.map_cons, List.map_nil]); decide)] at w
    wtm_at "n"
    rename_i w
    rw [putD_new (by (try simp only [List.nil_append, List.cons_append, List.map_cons, List.map_nil]); decide)] at w
    wtm_at "n"
    have w := w.frzI .here
    exact k _ (by wtm_at "wf")
abbrev s_Box_across : Stmt := inClass (top 46) 1
theorem sc_Box_across : FnScope ["self"] ["self"] (defScope s_Box_across) := ⟨rfl, rfl, rfl, by decide +kernel, rfl, by decide +kernel, by decide +kernel⟩
def sp_Box_across : Sp := fun vs H Q _ => ∃ F M v, vs = [v] ∧ Wf F H M ∧ ∀ r H', Wf ((r, t3D T3.nil) :: F) H' M → Q r H'

theorem ok_Box_across {f : Addr} {fd : FuncData} (F : Fun K "across" "Box.across" s_Box_across f fd) (B : Bn mg)  : FnOk P wd K mg base CX0 1 f fd ["self"] sp_Box_across := by
  refine F.ok sc_Box_across (fun vs H Q E h => ?_) (fun cdv A outer s H vs Q E hr h => ?_)
  · obtain ⟨F, M, v, rfl, w, k⟩ := h
    all_goals rfl
  · obtain ⟨F, M, v, rfl, w, k⟩ := h
    refine ⟨_, (pss_one (ps_ret (pe_tup (pa_cons pe_int (pa_cons pe_int (pa_cons pe_non pa_nil)))))), ?_⟩
    try dsimp only [cxOf, Cx.nox, Cx.wish, Cx.blk]
    wtm_at "n"
    rename_i w
    exact k _ _ w
abbrev s_Box_wides_for : Stmt := inClass (top 46) 3
theorem sc_Box_wides_for : FnScope ["self", "wide"] ["self", "wide"] (defScope s_Box_wides_for) := ⟨rfl, rfl, rfl, by decide +kernel, rfl, by decide +kernel, by decide +kernel⟩
def sp_Box_wides_for : Sp := fun vs H Q _ => ∃ F M v u, vs = [v, u] ∧ Wf F H M ∧ ∀ p H', Wf F H' (.ml p [] :: M) → Q (.ref p) H'

theorem ok_Box_wides_for {f : Addr} {fd : FuncData} (F : Fun K "wides_for" "Box.wides_for" s_Box_wides_for f fd) (B : Bn mg)  : FnOk P wd K mg base CX0 1 f fd ["self", "wide"] sp_Box_wides_for := by
  refine F.ok sc_Box_wides_for (fun vs H Q E h => ?_) (fun cdv A outer s H vs Q E hr h => ?_)
  · obtain ⟨F, M, v, u, rfl, w, k⟩ := h
    all_goals rfl
  · obtain ⟨F, M, v, u, rfl, w, k⟩ := h
    refine ⟨_, (pss_one (ps_ret (pe_lst pa_nil))), ?_⟩
    try dsimp only [cxOf, Cx.nox, Cx.wish, Cx.blk]
    wtm_at "n"
    rename_i w
    exact k _ _ w
abbrev s_look_boxes : Stmt := top 47
theorem sc_look_boxes : FnScope ["boxes", "at", "box"] ["boxes"] (defScope s_look_boxes) := ⟨rfl, rfl, rfl, by decide +kernel, rfl, by decide +kernel, by decide +kernel⟩
def sp_look_boxes (CB CL CR CC CP : Addr) : Sp := fun vs H Q _ => ∃ F M v, ∃ ks : List Bx, vs = [v] ∧ Wf F H M ∧ Rk F M v (.lst (ks.map (bxD CB CL CR CC CP))) ∧ ks.length ≤ 8 ∧ ∀ H', Wf F H' M → Q .non H'
theorem n_lookboxes {CB CL CR CC CP : Addr} {F : List (V × D)} {H : Hp} {M : List ME} {v : V} {ks : List Bx} {Q : VK} {E : XK} (w : Wf F H M) (hv : Rk F M v (.lst (ks.map (bxD CB CL CR CC CP)))) (hl : ks.length ≤ 8) (q : ∀ H', Wf F H' M → Q .non H') : sp_look_boxes CB CL CR CC CP ([v] ++ []) H Q E := ⟨F, M, v, ks, rfl, w, hv, hl, q⟩
theorem n_isiBx {K : PySem.W.Frag} {CB CL CR CC CP : Addr} {F : List (V × D)} {H : Hp} {M : List ME} {v : V} {b : Bx} {Q : VK} (o1 : OwnC K CB) (o2 : OwnC K CL) (o3 : OwnC K CR) (o4 : OwnC K CC) (o5 : OwnC K CP) (i1 : PySem.W.kitOne K (.ref CB) (.ref CB) = some true) (i2 : PySem.W.kitOne K (.ref CL) (.ref CB) = some true) (i3 : PySem.W.kitOne K (.ref CR) (.ref CB) = some true) (i4 : PySem.W.kitOne K (.ref CC) (.ref CB) = some true) (i5 : PySem.W.kitOne K (.ref CP) (.ref CB) = some true) (w : Wf F H M) (h : Rk F M v (bxD CB CL CR CC CP b)) (q : Q (.bl true) H) : rIsiU K [v, .ref CB] H Q := by
  cases b with
  | leaf => rw [bxD] at h; exact n_isiOC o2 w h i2 q
  | box => rw [bxD] at h; exact n_isiOC o1 w h i1 q
  | pad => rw [bxD] at h; exact n_isiOC o5 w h i5 q
  | line c => rw [bxD] at h; cases c; exact n_isiOC o3 w h i3 q; exact n_isiOC o4 w h i4 q

theorem ok_look_boxes {f : Addr} {fd : FuncData} (F : Fun K "look_boxes" "look_boxes" s_look_boxes f fd) (B : Bn mg) (o_Box : OwnC K C_Box) (n_Box : ∀ f ∈ (["grow", "shrink", "deep", "many"] : List Str), NoAttr K C_Box f) (o_Leaf : OwnC K C_Leaf) (n_Leaf : ∀ f ∈ (["key", "base", "least", "greatest", "grow", "shrink", "deep", "many"] : List Str), NoAttr K C_Leaf f) (o_Row : OwnC K C_Row) (n_Row : ∀ f ∈ (["boxes", "gap", "grow", "shrink", "deep", "many", "three"] : List Str), NoAttr K C_Row f) (o_Column : OwnC K C_Column) (n_Column : ∀ f ∈ (["boxes", "gap", "grow", "shrink", "deep", "many", "three"] : List Str), NoAttr K C_Column f) (o_Pad : OwnC K C_Pad) (n_Pad : ∀ f ∈ (["box", "by", "grow", "shrink", "deep", "many"] : List Str), NoAttr K C_Pad f) (g_MOST_WITHIN : ∃ t, mg "MOST_WITHIN" = some (.int 8 t)) (g_Box : mg "Box" = some (.ref C_Box)) (ia_Box_Box : PySem.W.kitOne K (.ref C_Box) (.ref C_Box) = some true) (ia_Leaf_Box : PySem.W.kitOne K (.ref C_Leaf) (.ref C_Box) = some true) (ia_Row_Box : PySem.W.kitOne K (.ref C_Row) (.ref C_Box) = some true) (ia_Column_Box : PySem.W.kitOne K (.ref C_Column) (.ref C_Box) = some true) (ia_Pad_Box : PySem.W.kitOne K (.ref C_Pad) (.ref C_Box) = some true)  : FnOk P wd K mg base CX0 1 f fd ["boxes"] (sp_look_boxes C_Box C_Leaf C_Row C_Column C_Pad) := by
  refine F.ok sc_look_boxes (fun vs H Q E h => ?_) (fun cdv A outer s H vs Q E hr h => ?_)
  · obtain ⟨F, M, v, ks, rfl, w, hv, hl, k⟩ := h
    all_goals rfl
  · obtain ⟨F, M, v, ks, rfl, w, hv, hl, k⟩ := h
    refine ⟨_, (pss_cons (ps_if (pt_not (pt_val (pe_callB (k_isi (K := K) rfl) (by rfl) B.isinstance_ (by decide +kernel) (pa_cons (pv 0) (pa_cons (pe_bltn (v := .ty "list") (by rfl) B.list_ (by decide +kernel) rfl) pa_nil))))) pss_never pss_nil)
      (pss_cons (ps_if (pt_cmpR op_gt (pe_callB (k_len (K := K) rfl) (by rfl) B.len_ (by decide +kernel) (pa_cons (pv 0) pa_nil)) (pe_globI (by rfl) g_MOST_WITHIN) (nomark _)) pss_never pss_nil)
      (pss_one (ps_for PassesOwn.never rfl (pi_enum (by rfl) B.enumerate_ (pa_cons (pv 0) pa_nil)) (kpg_tup (K := K) (n := 2) rfl rfl (pgs_cons (pg_name (i := 1) sc_look_boxes.nd rfl (Or.inl rfl)) (pgs_cons (pg_name (i := 2) sc_look_boxes.nd rfl (Or.inl rfl)) pgs_nil))) (pss_one (ps_if (pt_not (pt_val (pe_callB (k_isi (K := K) rfl) (by rfl) B.isinstance_ (by decide +kernel) (pa_cons (pv 2) (pa_cons (pe_glob (v := .ref C_Box) (by rfl) g_Box rfl) pa_nil))))) pss_never pss_nil)))))), ?_⟩
    try dsimp only [cxOf, Cx.nox, Cx.wish, Cx.blk]
    wtm_at "n"
    rw [List.length_map]
    refine s_iteDn (show ¬ (8 : Int) < (ks.length : Int) by omega) ?_
    wtm_at "n"
    refine n_enum w (fun i σ' F' M' => ∃ x1 x2, σ' = [some v, x1, x2] ∧ F = F' ∧ M = M') (fun i σ F' M' h => by
      obtain ⟨_, _, _, rfl, rfl⟩ := h
      exact hv) ⟨_, _, rfl, rfl, rfl⟩ ?_ ?_
    · clear w
      rintro i d x σ' H' F' M' hd ⟨x1, x2, rfl, rfl, rfl⟩ w
      obtain ⟨b, hb, rfl⟩ := map_get hd
      wtm_at "n"
      rename_i w
      refine n_isiBx (b := b) o_Box o_Leaf o_Row o_Column o_Pad ia_Box_Box ia_Leaf_Box ia_Row_Box ia_Column_Box ia_Pad_Box w (.mem (.tail _ (.head _))) ?_
      wtm_at "n"
      exact ⟨_, _, ⟨_, _, rfl, rfl, rfl⟩, by wtm_at "wf"⟩
    clear w
    rintro σ' H' F' M' ⟨x1, x2, rfl, rfl, rfl⟩ w
    wtm_at "n"
    exact k _ w
/-! ### fields that every box has, its methods -/
structure BxK (K : PySem.W.Frag) (CB CL CR CC CP : Addr) : Prop where
  oB : OwnC K CB
  oL : OwnC K CL
  oR : OwnC K CR
  oC : OwnC K CC
  oP : OwnC K CP
  nB : ∀ f ∈ (["grow", "shrink", "deep", "many"] : List Str), NoAttr K CB f
  nL : ∀ f ∈ (["grow", "shrink", "deep", "many"] : List Str), NoAttr K CL f
  nR : ∀ f ∈ (["grow", "shrink", "deep", "many"] : List Str), NoAttr K CR f
  nC : ∀ f ∈ (["grow", "shrink", "deep", "many"] : List Str), NoAttr K CC f
  nP : ∀ f ∈ (["grow", "shrink", "deep", "many"] : List Str), NoAttr K CP f
theorem na_sub {K : PySem.W.Frag} {C : Addr} {L L' : List Str} (h : ∀ f ∈ L, NoAttr K C f) (s : L'.all (fun f => L.contains f) = true) : ∀ f ∈ L', NoAttr K C f := fun f hf => h f (by
  have := List.all_eq_true.mp s f hf
  exact List.contains_iff_mem.mp this)
section
variable {K : PySem.W.Frag} {CB CL CR CC CP : Addr} {F : List (V × D)} {H : Hp} {M : List ME} {v : V} {b : Bx} {Q : VK}
theorem n_bxF {f : Str} {n : Int} (k : BxK K CB CL CR CC CP) (w : Wf F H M) (h : Rk F M v (bxD CB CL CR CC CP b)) (hf : f ∈ (["grow", "shrink", "deep", "many"] : List Str)) (hd : ∀ C fs, bxD CB CL CR CC CP b = .obj C fs → fs.lookup f = some (.int n)) (q : Q (.int n) H) : FldQ K f Q v H := by
  cases b with
  | leaf => rw [bxD] at h; exact n_fldi w h k.oL.cl k.nL hf (hd _ _ (by rw [bxD])) q
  | box => rw [bxD] at h; exact n_fldi w h k.oB.cl k.nB hf (hd _ _ (by rw [bxD])) q
  | pad => rw [bxD] at h; exact n_fldi w h k.oP.cl k.nP hf (hd _ _ (by rw [bxD])) q
  | line c =>
    rw [bxD] at h
    cases c
    · exact n_fldi w h k.oR.cl k.nR hf (hd _ _ (by rw [bxD])) q
    · exact n_fldi w h k.oC.cl k.nC hf (hd _ _ (by rw [bxD])) q
theorem n_bxdeep (k : BxK K CB CL CR CC CP) (w : Wf F H M) (h : Rk F M v (bxD CB CL CR CC CP b)) (q : Q (.int b.dp) H) : FldQ K "deep" Q v H := n_bxF k w h (by simp) (fun C fs e => by
  cases b <;> rw [bxD] at e <;> cases e <;> (try rw [Bx.dp]) <;> rfl) q
theorem n_bxmany (k : BxK K CB CL CR CC CP) (w : Wf F H M) (h : Rk F M v (bxD CB CL CR CC CP b)) (q : Q (.int b.mn) H) : FldQ K "many" Q v H := n_bxF k w h (by simp) (fun C fs e => by
  cases b <;> rw [bxD] at e <;> cases e <;> (try rw [Bx.mn]) <;> rfl) q
theorem n_bxgrow (k : BxK K CB CL CR CC CP) (w : Wf F H M) (h : Rk F M v (bxD CB CL CR CC CP b)) (q : Q (.int b.w) H) : FldQ K "grow" Q v H := n_bxF k w h (by simp) (fun C fs e => by
  cases b <;> rw [bxD] at e <;> cases e <;> rfl) q
theorem n_bxshrink (k : BxK K CB CL CR CC CP) (w : Wf F H M) (h : Rk F M v (bxD CB CL CR CC CP b)) (q : Q (.int b.s) H) : FldQ K "shrink" Q v H := n_bxF k w h (by simp) (fun C fs e => by
  cases b <;> rw [bxD] at e <;> cases e <;> rfl) q
end
theorem bx_nm {CB CL CR CC CP : Addr} {b : Bx} {m : Str} (hm : m ∈ (["across", "inside"] : List Str)) : ∀ C fs, bxD CB CL CR CC CP b = .obj C fs → m ∉ fs.map (·.1) := fun C fs e => by
  simp only [List.mem_cons, List.not_mem_nil, or_false] at hm
  cases b <;> rw [bxD] at e <;> cases e <;> rcases hm with rfl | rfl <;> simp only [List.map_cons, List.map_nil] <;> decide +kernel
theorem bx_rk {CB CL CR CC CP : Addr} {F : List (V × D)} {M : List ME} {v : V} {b : Bx} (h : Kn F v (bxD CB CL CR CC CP b)) : Rk F M v (bxD CB CL CR CC CP b) := Rk.of h fun q => by
  cases b <;> rw [bxD] at q <;> rcases q with ⟨_, q⟩ | ⟨_, q⟩ <;> cases q

abbrev s_size_around : Stmt := top 48
theorem sc_size_around : FnScope ["boxes", "deep", "many", "box"] ["boxes"] (defScope s_size_around) := ⟨rfl, rfl, rfl, by decide +kernel, rfl, by decide +kernel, by decide +kernel⟩
def sp_size_around (CB CL CR CC CP : Addr) : Sp := fun vs H Q _ => ∃ F M v, ∃ ks : List Bx, vs = [v] ∧ Wf F H M ∧ Rk F M v (.lst (ks.map (bxD CB CL CR CC CP))) ∧ Bx.dps ks + 1 ≤ 6 ∧ Bx.mns ks + 1 ≤ 60 ∧ ∀ r H', Wf ((r, .tup [.int (Bx.dps ks + 1 : Nat), .int (Bx.mns ks + 1 : Nat)]) :: F) H' M → Q r H'
theorem n_sizear {CB CL CR CC CP : Addr} {F : List (V × D)} {H : Hp} {M : List ME} {v : V} {ks : List Bx} {Q : VK} {E : XK} (w : Wf F H M) (hv : Rk F M v (.lst (ks.map (bxD CB CL CR CC CP)))) (hd : Bx.dps ks + 1 ≤ 6) (hm : Bx.mns ks + 1 ≤ 60) (q : ∀ r H', Wf ((r, .tup [.int (Bx.dps ks + 1 : Nat), .int (Bx.mns ks + 1 : Nat)]) :: F) H' M → Q r H') : sp_size_around CB CL CR CC CP ([v] ++ []) H Q E := ⟨F, M, v, ks, rfl, w, hv, hd, hm, q⟩

theorem ok_size_around {f : Addr} {fd : FuncData} (F : Fun K "size_around" "size_around" s_size_around f fd) (B : Bn mg) (o_Box : OwnC K C_Box) (n_Box : ∀ f ∈ (["grow", "shrink", "deep", "many"] : List Str), NoAttr K C_Box f) (o_Leaf : OwnC K C_Leaf) (n_Leaf : ∀ f ∈ (["key", "base", "least", "greatest", "grow", "shrink", "deep", "many"] : List Str), NoAttr K C_Leaf f) (o_Row : OwnC K C_Row) (n_Row : ∀ f ∈ (["boxes", "gap", "grow", "shrink", "deep", "many", "three"] : List Str), NoAttr K C_Row f) (o_Column : OwnC K C_Column) (n_Column : ∀ f ∈ (["boxes", "gap", "grow", "shrink", "deep", "many", "three"] : List Str), NoAttr K C_Column f) (o_Pad : OwnC K C_Pad) (n_Pad : ∀ f ∈ (["box", "by", "grow", "shrink", "deep", "many"] : List Str), NoAttr K C_Pad f) (g_DEEPEST : ∃ t, mg "DEEPEST" = some (.int 6 t)) (g_MOST_BOXES : ∃ t, mg "MOST_BOXES" = some (.int 60 t))  : FnOk P wd K mg base CX0 1 f fd ["boxes"] (sp_size_around C_Box C_Leaf C_Row C_Column C_Pad) := by
  refine F.ok sc_size_around (fun vs H Q E h => ?_) (fun cdv A outer s H vs Q E hr h => ?_)
  · obtain ⟨F, M, v, ks, rfl, w, hv, hd, hm, k⟩ := h
    all_goals rfl
  · obtain ⟨F, M, v, ks, rfl, w, hv, hd, hm, k⟩ := h
    refine ⟨_, (pss_cons (ps_set (i := 1) sc_size_around.nd rfl (Or.inl rfl) pe_int)
      (pss_cons (ps_set (i := 2) sc_size_around.nd rfl (Or.inl rfl) pe_int)
      (pss_cons (ps_for PassesOwn.never rfl (kpi_list (K := K) rfl (pv 0)) (pg_name (i := 3) sc_size_around.nd rfl (Or.inl rfl)) (pss_cons (ps_set (i := 1) sc_size_around.nd rfl (Or.inl rfl) (pe_callB (k_max (K := K) rfl rfl) (by rfl) B.max_ (by decide +kernel) (pa_cons (pv 1) (pa_cons (pe_op (k_add (K := K) rfl) (kpe_fld (K := K) rfl (pv 3) rfl) pe_int) pa_nil))))
      (pss_one (ps_aug (i := 2) sc_size_around.nd rfl (Or.inl rfl) (kpe_fld (K := K) rfl (pv 3) rfl) ip_add))))
      (pss_cons (ps_if (pt_cmpR op_gt (pv 1) (pe_globI (by rfl) g_DEEPEST) (nomark _)) pss_never pss_nil)
      (pss_cons (ps_if (pt_cmpR op_gt (pv 2) (pe_globI (by rfl) g_MOST_BOXES) (nomark _)) pss_never pss_nil)
      (pss_one (ps_ret (pe_tup (pa_cons (pv 1) (pa_cons (pv 2) pa_nil)))))))))), ?_⟩
    try dsimp only [cxOf, Cx.nox, Cx.wish, Cx.blk]
    rw [show L2.start (["boxes", "deep", "many", "box"] : List Str) [v] = [some v, none, none, none] from rfl]
    have bk : BxK K C_Box C_Leaf C_Row C_Column C_Pad := ⟨o_Box, o_Leaf, o_Row, o_Column, o_Pad, na_sub n_Box (by decide +kernel), na_sub n_Leaf (by decide +kernel), na_sub n_Row (by decide +kernel), na_sub n_Column (by decide +kernel), na_sub n_Pad (by decide +kernel)⟩
    wtm_at "n"
    refine n_forL w (fun i σ' F' M' => ∃ x3, σ' = [some v, some (.int (Bx.dps (ks.take i) + 1 : Nat)), some (.int (Bx.mns (ks.take i) + 1 : Nat)), x3] ∧ F = F' ∧ M = M') (fun i σ F' M' h => by
      obtain ⟨_, _, rfl, rfl⟩ := h
      exact hv) ⟨_, by rw [List.take_zero, Bx.dps, Bx.mns]; rfl, rfl, rfl⟩ ?_ ?_
    · clear w
      rintro i d x σ' H' F' M' hd' ⟨x3, rfl, rfl, rfl⟩ w
      obtain ⟨b, hb, rfl⟩ := map_get hd'
      wtm_at "n"
      refine n_bxdeep bk w (.mem List.mem_cons_self) ?_
      wtm_at "n"
      refine n_bxmany bk w (.mem List.mem_cons_self) ?_
      wtm_at "n"
      refine ⟨_, _, ⟨some x, ?_, rfl, rfl⟩, w.tail⟩
      rw [take_snoc hb, dps_app, mns_app, dps_one, mns_one]
      rw [show (if (b.dp : Int) + 1 > ((Bx.dps (ks.take i) + 1 : Nat) : Int) then (b.dp : Int) + 1 else ((Bx.dps (ks.take i) + 1 : Nat) : Int)) = ((max (Bx.dps (ks.take i)) b.dp + 1 : Nat) : Int) by split <;> omega, show ((Bx.mns (ks.take i) + 1 : Nat) : Int) + (b.mn : Int) = ((Bx.mns (ks.take i) + b.mn + 1 : Nat) : Int) by omega]
      rfl
    clear w
    rintro σ' H' F' M' ⟨x3, rfl, rfl, rfl⟩ w
    rw [List.length_map, List.take_length]
    wtm_at "n"
    refine s_iteDn (by omega) ?_
    wtm_at "n"
    refine s_iteDn (by omega) ?_
    wtm_at "n"
    rename_i w
    exact k _ _ w
abbrev s_gaps_of : Stmt := top 49
theorem sc_gaps_of : FnScope ["boxes", "gap"] ["boxes", "gap"] (defScope s_gaps_of) := ⟨rfl, rfl, rfl, by decide +kernel, rfl, by decide +kernel, by decide +kernel⟩
def sp_gaps_of : Sp := fun vs H Q _ => ∃ F M v, ∃ (ds : List D) (g : Int), vs = [v, .int g] ∧ Wf F H M ∧ Rk F M v (.lst ds) ∧ Sm g ∧ ds.length ≤ 8 ∧ Q (.int (g * (if (ds.length : Int) - 1 > 0 then (ds.length : Int) - 1 else 0))) H
theorem n_gapsof {F : List (V × D)} {H : Hp} {M : List ME} {v : V} {ds : List D} {g : Int} {Q : VK} {E : XK} (w : Wf F H M) (hv : Rk F M v (.lst ds)) (hg : Sm g) (hl : ds.length ≤ 8) (q : Q (.int (g * (if (ds.length : Int) - 1 > 0 then (ds.length : Int) - 1 else 0))) H) : sp_gaps_of ([v, .int g] ++ []) H Q E := ⟨F, M, v, ds, g, rfl, w, hv, hg, hl, q⟩

theorem ok_gaps_of {f : Addr} {fd : FuncData} (F : Fun K "gaps_of" "gaps_of" s_gaps_of f fd) (B : Bn mg)  : FnOk P wd K mg base CX0 1 f fd ["boxes", "gap"] sp_gaps_of := by
  refine F.ok sc_gaps_of (fun vs H Q E h => ?_) (fun cdv A outer s H vs Q E hr h => ?_)
  · obtain ⟨F, M, v, ds, g, rfl, w, hv, ⟨g0, g1⟩, hl, k⟩ := h
    all_goals rfl
  · obtain ⟨F, M, v, ds, g, rfl, w, hv, ⟨g0, g1⟩, hl, k⟩ := h
    refine ⟨_, (pss_one (ps_ret (pe_op uo_mul (pv 1) (pe_callB (k_max (K := K) rfl rfl) (by rfl) B.max_ (by decide +kernel) (pa_cons pe_int (pa_cons (pe_op op_sub (pe_callB (k_len (K := K) rfl) (by rfl) B.len_ (by decide +kernel) (pa_cons (pv 0) pa_nil)) pe_int) pa_nil)))))), ?_⟩
    try dsimp only [cxOf, Cx.nox, Cx.wish, Cx.blk]
    wtm_at "n"
    refine s_mul (Bd.cm (j := 30) (k := 30) (Bd.of 1000000 (by omega) (by decide)) (Bd.of 8 (by split <;> omega) (by decide))) ?_
    exact k
/-! ### runs: like blanks between things -/
theorem floor_uni {q : Rat} {n : Int} (h1 : (n : Rat) ≤ q) (h2 : q < (n : Rat) + 1) : q.floor = n := by
  have g1 := Rat.floor_le q
  have g2 := Rat.lt_floor_add_one q
  have e1 : ((q.floor : Int) : Rat) < ((n + 1 : Int) : Rat) := by rw [Rat.intCast_add]; grind
  have e2 : ((n : Int) : Rat) < ((q.floor + 1 : Int) : Rat) := by grind
  rw [Rat.intCast_lt_intCast] at e1 e2
  omega
theorem floor_dv {a b : Int} (hb : 0 < b) : (Rat.divInt a b).floor = a / b := by
  have h1 := Int.mul_ediv_add_emod a b
  have h2 := Int.emod_nonneg a (show b ≠ 0 by omega)
  have h3 := Int.emod_lt_of_pos a hb
  have h4 : a / b * b ≤ a := by rw [Int.mul_comm]; omega
  have h5 : a < (a / b + 1) * b := by rw [Int.add_mul, Int.mul_comm (a / b)]; omega
  refine floor_uni ?_ ?_
  · refine Rat.not_lt.mp fun z => ?_
    have := (dv_lt hb).mp z
    omega
  · rw [show ((a / b : Int) : Rat) + 1 = ((a / b + 1 : Int) : Rat) by rw [Rat.intCast_add]; rfl]
    exact (dv_lt hb).mpr h5
theorem floor_addI (n : Int) (q : Rat) : ((n : Rat) + q).floor = n + q.floor := by
  have g1 := Rat.floor_le q
  have g2 := Rat.lt_floor_add_one q
  refine floor_uni ?_ ?_
  · rw [Rat.intCast_add]; grind
  · rw [Rat.intCast_add]; grind
def leanI (b l s : Int) : Int := if s = 0 then b else l
def fatD (b : Int) (g : D) (w : Int) : D := if w = 0 then .int b else g
theorem fat_or {b l w s : Int} {g : D} (ok : PartOk b l g w s) : fatD b g w = .non ∨ ∃ f, fatD b g w = .int f ∧ 0 ≤ f ∧ f ≤ 1000000000000 := by
  have h1 := ok.l0; have h2 := ok.lb; have h3 := ok.bm
  unfold fatD
  by_cases hw : w = 0
  · rw [if_pos hw]; exact .inr ⟨b, rfl, by omega, h3⟩
  · rw [if_neg hw]
    rcases ok.gr with e | ⟨n, e, n1, n2⟩
    · exact .inl e
    · exact .inr ⟨n, e, by omega, n2⟩
theorem lean_bd {b l w s : Int} {g : D} (ok : PartOk b l g w s) : 0 ≤ leanI b l s ∧ leanI b l s ≤ 1000000000000 := by
  have h1 := ok.l0; have h2 := ok.lb; have h3 := ok.bm
  unfold leanI
  split <;> omega
/-- each of m blanks that share a space -/
def shQ (sp m : Int) (fat : D) : Rat := match fat with
  | .int f => if m * f < sp then (f : Rat) else Rat.divInt sp m
  | _ => Rat.divInt sp m
/-- the size of a blank -/
def blkQ (sp m : Int) (last : Bool) (b l : Int) (g : D) (w s : Int) : Rat :=
  if last = true ∧ m * b ≤ sp then (b : Rat) else if 0 < m ∧ m * leanI b l s ≤ sp then shQ sp m (fatD b g w) else (leanI b l s : Rat)
theorem shQ_sz {sp m : Int} {fat : D} (hm : 0 < m) (hm2 : m ≤ 200) (h0 : -1000000000000000 ≤ sp) (h1 : sp ≤ 1000000000000000) (hf : fat = .non ∨ ∃ f, fat = .int f ∧ 0 ≤ f ∧ f ≤ 1000000000000) : Sz2 60 8 (shQ sp m fat) := by
  have hs : Sz2 60 8 (Rat.divInt sp m) := ⟨Bd.le (Bd.of 1000000000000000 (by omega)) (num_le (by omega)), Bd.le (Bd.of 200 (by omega)) (den_le (by omega))⟩
  rcases hf with rfl | ⟨f, rfl, f0, f1⟩
  · exact hs
  · show Sz2 60 8 (if m * f < sp then (f : Rat) else Rat.divInt sp m)
    by_cases q : m * f < sp
    · rw [if_pos q]; exact ⟨by rw [Rat.num_intCast]; exact Bd.of 1000000000000 (by omega), by rw [Rat.den_intCast]; exact bd1⟩
    · rw [if_neg q]; exact hs
theorem int_sz2 {n : Int} (h0 : 0 ≤ n) (h1 : n ≤ 1000000000000) : Sz2 60 8 (n : Rat) := ⟨by rw [Rat.num_intCast]; exact Bd.of 1000000000000 (by omega), by rw [Rat.den_intCast]; exact bd1⟩
theorem blk_sz {sp m : Int} {last : Bool} {b l w s : Int} {g : D} (ok : PartOk b l g w s) (hm2 : m ≤ 200) (h0 : -1000000000000000 ≤ sp) (h1 : sp ≤ 1000000000000000) : Sz2 60 8 (blkQ sp m last b l g w s) := by
  have q1 := ok.l0; have q2 := ok.lb; have q3 := ok.bm
  have q4 := lean_bd ok
  unfold blkQ
  split
  · exact int_sz2 (by omega) q3
  · split
    · next h => exact shQ_sz h.1 hm2 h0 h1 (fat_or ok)
    · exact int_sz2 q4.1 q4.2
/-- things with q ahead of each -/
def alt (q : Rat) (xs : List Int) : List Rat := xs.flatMap fun x : Int => [q, (x : Rat)]
theorem alt_snoc (q : Rat) (xs : List Int) (x : Int) : alt q (xs ++ [x]) = alt q xs ++ [q, (x : Rat)] := by simp [alt, List.flatMap_append]
theorem alt_len (q : Rat) (xs : List Int) : (alt q xs).length = 2 * xs.length := by
  induction xs with
  | nil => rfl
  | cons x xs ih => show ([q, (x : Rat)] ++ alt q xs).length = _; rw [List.length_append, ih]; simp; omega
theorem alt_take (q : Rat) : ∀ (xs : List Int) (k : Nat), (alt q xs).take (2 * k) = alt q (xs.take k)
  | xs, 0 => by simp [alt]
  | [], k + 1 => by simp [alt]
  | x :: xs, k + 1 => by
    show (q :: (x : Rat) :: alt q xs).take (2 * (k + 1)) = q :: (x : Rat) :: alt q (xs.take k)
    rw [show 2 * (k + 1) = 2 * k + 1 + 1 by omega, List.take_succ_cons, List.take_succ_cons, alt_take q xs k]
theorem rs_alt (q : Rat) (xs : List Int) : rs (alt q xs) = (xs.sum : Rat) + (xs.length : Rat) * q := by
  induction xs with
  | nil => show (0 : Rat) = _; simp; grind
  | cons x xs ih =>
    show rs (q :: (x : Rat) :: alt q xs) = _
    rw [rs_cons, rs_cons, ih, List.sum_cons, List.length_cons, Rat.intCast_add]
    have : ((xs.length + 1 : Nat) : Rat) = (xs.length : Rat) + 1 := by simp
    rw [this]
    grind
def rowR (q : Rat) (xs : List Int) : List Rat := (alt q xs).tail
theorem rowR_snoc (q : Rat) (xs : List Int) (x : Int) : rowR q (xs ++ [x]) = if xs.length = 0 then [(x : Rat)] else rowR q xs ++ [q, (x : Rat)] := by
  unfold rowR
  rw [alt_snoc]
  cases xs with
  | nil => rfl
  | cons y ys => rfl
theorem rowR_len (q : Rat) (xs : List Int) : (rowR q xs).length = 2 * xs.length - 1 := by unfold rowR; rw [List.length_tail, alt_len]

theorem alt_cons {q : Rat} {xs : List Int} (h : 0 < xs.length) : alt q xs = q :: rowR q xs := by
  cases xs with
  | nil => cases h
  | cons x xs => rfl
/-- the k-th thing begins .. -/
theorem rs_even {q : Rat} {xs : List Int} {k : Nat} (h : k < xs.length) : rs ((rowR q xs).take (2 * k)) = ((xs.take k).sum : Rat) + (k : Rat) * q := by
  have e1 := alt_cons (q := q) (xs := xs) (by omega)
  have e2 : (alt q xs).take (2 * k + 1) = q :: (rowR q xs).take (2 * k) := by rw [e1, List.take_succ_cons]
  have e3 : (alt q xs).take (2 * k + 1) = alt q (xs.take k) ++ [q] := by
    have h1 := alt_take q xs k
    have h2 := alt_take q xs (k + 1)
    have h3 : xs[k]? = some xs[k] := List.getElem?_eq_getElem h
    rw [take_snoc h3, alt_snoc, show 2 * (k + 1) = 2 * k + 1 + 1 by omega] at h2
    have h4 : ((alt q xs).take (2 * k + 1 + 1)).take (2 * k + 1) = (alt q xs).take (2 * k + 1) := by rw [List.take_take]; congr 1; omega
    rw [← h4, h2, show alt q (xs.take k) ++ [q, (xs[k] : Rat)] = (alt q (xs.take k) ++ [q]) ++ [(xs[k] : Rat)] by simp]
    rw [List.take_left' (by rw [List.length_append, alt_len, List.length_take]; simp; omega)]
  have e4 : rs (q :: (rowR q xs).take (2 * k)) = ((xs.take k).sum : Rat) + ((xs.take k).length : Rat) * q + q := by rw [← e2, e3, rs_snoc, rs_alt]
  rw [rs_cons] at e4
  have e5 : (xs.take k).length = k := by rw [List.length_take]; omega
  rw [e5] at e4
  grind
theorem rs_odd {q : Rat} {xs : List Int} {k : Nat} (h : k < xs.length) : rs ((rowR q xs).take (2 * k + 1)) = ((xs.take (k + 1)).sum : Rat) + (k : Rat) * q := by
  have e1 := alt_cons (q := q) (xs := xs) (by omega)
  have e2 : (alt q xs).take (2 * (k + 1)) = q :: (rowR q xs).take (2 * k + 1) := by rw [e1, show 2 * (k + 1) = 2 * k + 1 + 1 by omega, List.take_succ_cons]
  have e4 : rs (q :: (rowR q xs).take (2 * k + 1)) = ((xs.take (k + 1)).sum : Rat) + ((xs.take (k + 1)).length : Rat) * q := by rw [← e2, alt_take, rs_alt]
  rw [rs_cons] at e4
  have e5 : (xs.take (k + 1)).length = k + 1 := by rw [List.length_take]; omega
  have e6 : ((k + 1 : Nat) : Rat) = (k : Rat) + 1 := by simp
  rw [e5, e6] at e4
  grind
theorem natR (k : Nat) : ((k : Nat) : Rat) = ((k : Int) : Rat) := rfl
/-- where things begin and end: told by a size that is worth t over d -/
def sprD (xs : List Int) (t d : Int) : List D := (List.range xs.length).map fun k => .tup [.int ((xs.take k).sum + (k : Int) * t / d), .int ((xs.take k).sum + (k : Int) * t / d + xs.getD k 0)]
theorem spr_at {q : Rat} {xs : List Int} {t d : Int} (hd : 0 < d) (hq : Rat.divInt t d = q) {k : Nat} (h : k < xs.length) :
    (rs ((rowR q xs).take (2 * k))).floor = (xs.take k).sum + (k : Int) * t / d ∧ (rs ((rowR q xs).take (2 * k + 1))).floor = (xs.take k).sum + (k : Int) * t / d + xs.getD k 0 := by
  have e : (k : Rat) * q = Rat.divInt ((k : Int) * t) d := by
    rw [← hq, natR, Rat.divInt_eq_div, Rat.divInt_eq_div, Rat.intCast_mul, Rat.div_def, Rat.div_def, Rat.mul_assoc]
  have h3 : xs[k]? = some xs[k] := List.getElem?_eq_getElem h
  have e2 : (xs.take (k + 1)).sum = (xs.take k).sum + xs.getD k 0 := by
    rw [take_snoc h3, List.sum_append, List.getD_eq_getElem?_getD, h3]; simp
  constructor
  · rw [rs_even h, e, floor_addI, floor_dv hd]
  · rw [rs_odd h, e, floor_addI, floor_dv hd, e2]; omega

/-! ### rooms beyond what parts can have -/
theorem rs_le {α : Type} {f g : α → Rat} {xs : List α} (e : ∀ x ∈ xs, f x ≤ g x) : rs (xs.map f) ≤ rs (xs.map g) := by
  induction xs with
  | nil => simp [rs_nil]
  | cons x xs ih =>
    rw [List.map_cons, List.map_cons, rs_cons, rs_cons]
    have h1 := ih fun y hy => e y (List.mem_cons_of_mem _ hy)
    have h2 := e x List.mem_cons_self
    grind
theorem mul_nn {w : Int} {p : Rat} (hw : 0 ≤ w) (hp : 0 ≤ p) : 0 ≤ (w : Rat) * p := Rat.mul_nonneg (by exact Rat.intCast_le_intCast.mpr hw) hp
theorem siz_neg {r : Row} {p : Rat} (hp : p < 0) : sizR r p = if (r.b : Rat) + r.s * p < r.l then (r.l : Rat) else (r.b : Rat) + r.s * p := by
  unfold sizR sizQ
  rw [if_pos hp]
theorem siz_pos_none {r : Row} {p : Rat} (hp : ¬ p < 0) (hg : r.g = none) : sizR r p = (r.b : Rat) + r.w * p := by
  unfold sizR sizQ
  rw [if_neg hp, hg]
  rfl
theorem siz_pos_some {r : Row} {p : Rat} {g : Int} (hp : ¬ p < 0) (hg : r.g = some g) : sizR r p = if (g : Rat) < (r.b : Rat) + r.w * p then (g : Rat) else (r.b : Rat) + r.w * p := by
  unfold sizR sizQ
  rw [if_neg hp, hg]
  rfl
/-- below the base with prices below nought, not below it else -/
theorem siz_le_b {r : Row} (h : ROk r) {p : Rat} (hp : p < 0) : sizR r p ≤ (r.b : Rat) := by
  rw [siz_neg hp]
  have lb : (r.l : Rat) ≤ (r.b : Rat) := Rat.intCast_le_intCast.mpr h.lb
  have hm := mul_nn h.s0 (p := -p) (by grind)
  split <;> grind
theorem b_le_siz {r : Row} (h : ROk r) {p : Rat} (hp : ¬ p < 0) : (r.b : Rat) ≤ sizR r p := by
  have hm := mul_nn h.w0 (p := p) (by grind)
  cases hg : r.g with
  | none => rw [siz_pos_none hp hg]; grind
  | some g =>
    have hb : (r.b : Rat) ≤ (g : Rat) := Rat.intCast_le_intCast.mpr (h.g0 hg).1
    rw [siz_pos_some hp hg]
    split <;> grind
theorem siz_le_end {r : Row} (h : ROk r) (hg : 0 < r.w → r.g ≠ none) (p : Rat) : sizR r p ≤ (endI true r : Rat) := by
  have w0 := h.w0
  unfold endI
  rw [if_pos rfl]
  by_cases hp : p < 0
  · refine Rat.le_trans (siz_le_b h hp) ?_
    split
    · rename_i hw
      cases e : r.g with
      | none => exact absurd e (hg hw)
      | some g => exact Rat.intCast_le_intCast.mpr (h.g0 e).1
    · exact Rat.le_refl
  · split
    · rename_i hw
      cases e : r.g with
      | none => exact absurd e (hg hw)
      | some g =>
        rw [siz_pos_some hp e]
        simp only [Option.getD_some]
        split <;> grind
    · rename_i hw
      have e0 : r.w = 0 := by omega
      cases e : r.g with
      | none => rw [siz_pos_none hp e, e0]; grind
      | some g =>
        have hb : (r.b : Rat) ≤ (g : Rat) := Rat.intCast_le_intCast.mpr (h.g0 e).1
        rw [siz_pos_some hp e, e0]
        split <;> grind
theorem end_le_siz {r : Row} (h : ROk r) (p : Rat) : (endI false r : Rat) ≤ sizR r p := by
  have s0 := h.s0
  have lb : (r.l : Rat) ≤ (r.b : Rat) := Rat.intCast_le_intCast.mpr h.lb
  unfold endI
  rw [if_neg (by simp)]
  by_cases hp : p < 0
  · rw [siz_neg hp]
    split
    · split <;> grind
    · rename_i hw
      have e0 : r.s = 0 := by omega
      rw [e0]
      split <;> grind
  · refine Rat.le_trans ?_ (b_le_siz h hp)
    split
    · exact lb
    · exact Rat.le_refl
theorem unmet_up {rows : List Row} (ok : ∀ r ∈ rows, ROk r) (hg : ∀ r ∈ rows, 0 < r.w → r.g ≠ none) {R : Rat} (h : rs (rows.map fun r => (endI true r : Rat)) < R) : (∀ o, ShR rows R o → o = none) ∧ shUp rows R = true := by
  have hb : (bsum rows : Rat) ≤ rs (rows.map fun r => (endI true r : Rat)) := by
    rw [← rs_b, ← rs_congr (f := fun r => sizR r 0) (g := fun r => (r.b : Rat)) fun r hr => siz_zero (ok r hr)]
    exact rs_le fun r hr => siz_le_end (ok r hr) (hg r hr) 0
  refine ⟨fun o ho => ?_, decide_eq_true (by grind)⟩
  cases o with
  | none => rfl
  | some p =>
    have h1 := ho.1
    have h2 := rs_le (xs := rows) (f := fun r => sizR r p) (g := fun r => (endI true r : Rat)) fun r hr => siz_le_end (ok r hr) (hg r hr) p
    rw [h1] at h2
    grind
theorem unmet_dn {rows : List Row} (ok : ∀ r ∈ rows, ROk r) {R : Rat} (h : R < rs (rows.map fun r => (endI false r : Rat))) : (∀ o, ShR rows R o → o = none) ∧ shUp rows R = false := by
  have hb : rs (rows.map fun r => (endI false r : Rat)) ≤ (bsum rows : Rat) := by
    rw [← rs_b, ← rs_congr (f := fun r => sizR r 0) (g := fun r => (r.b : Rat)) fun r hr => siz_zero (ok r hr)]
    exact rs_le fun r hr => end_le_siz (ok r hr) 0
  refine ⟨fun o ho => ?_, decide_eq_false (by grind)⟩
  cases o with
  | none => rfl
  | some p =>
    have h1 := ho.1
    have h2 := rs_le (xs := rows) (f := fun r => (endI false r : Rat)) (g := fun r => sizR r p) fun r hr => end_le_siz (ok r hr) p
    rw [h1] at h2
    grind
theorem endsum_bd {rows : List Row} {up : Bool} (ok : ∀ r ∈ rows, ROk r) (hg : ∀ r ∈ rows, up = true → 0 < r.w → r.g ≠ none) (hl : rows.length ≤ 60) : 0 ≤ (rows.map (endI up)).sum ∧ (rows.map (endI up)).sum ≤ 60000000000000 := by
  have h : 0 ≤ (rows.map (endI up)).sum ∧ (rows.map (endI up)).sum ≤ 1000000000000 * rows.length := by
    clear hl
    induction rows with
    | nil => simp
    | cons r rows ih =>
      have h1 := end_bd (ok r List.mem_cons_self) (up := up) (hg r List.mem_cons_self)
      have := ih (fun x hx => ok x (List.mem_cons_of_mem _ hx)) (fun x hx => hg x (List.mem_cons_of_mem _ hx))
      rw [List.map_cons, List.sum_cons, List.length_cons]
      omega
  omega
theorem siz_nn {r : Row} (h : ROk r) (p : Rat) : 0 ≤ sizR r p := by
  have h1 := (end_bd h (up := false) (fun z => by cases z)).1
  have h2 : ((0 : Int) : Rat) ≤ (endI false r : Rat) := Rat.intCast_le_intCast.mpr h1
  have h3 := end_le_siz h p
  have h4 : ((0 : Int) : Rat) = 0 := rfl
  grind
theorem rs_nn {qs : List Rat} (h : ∀ q ∈ qs, 0 ≤ q) : 0 ≤ rs qs := by
  induction qs with
  | nil => simp [rs_nil]
  | cons q qs ih =>
    rw [rs_cons]
    have h1 := h q List.mem_cons_self
    have h2 := ih fun x hx => h x (List.mem_cons_of_mem _ hx)
    grind
theorem dv_nn {t b : Int} (ht : 0 ≤ t) (hb : 0 < b) : 0 ≤ Rat.divInt t b := by
  have := @dv_lt 0 t b hb
  rw [Int.zero_mul] at this
  have h2 : ¬ (Rat.divInt t b < ((0 : Int) : Rat)) := fun z => by have := this.mp z; omega
  have h3 : ((0 : Int) : Rat) = 0 := rfl
  grind
/-- sizes at one price: within bounds, and so are their sums -/
theorem sizes_ok {rows : List Row} (ok : ∀ r ∈ rows, ROk r) (hl : rows.length ≤ 60) {k : Nat} {p : Rat} (hp : Sz k p) (hk : k ≤ 3900) : EdgOk (rows.map (sizR · p)) ∧ Sz2 (k + 51) k (rs (rows.map (sizR · p))) ∧ 0 ≤ rs (rows.map (sizR · p)) := by
  have h : ∀ q ∈ rows.map (sizR · p), ∃ t : Int, q = Rat.divInt t p.den ∧ Bd (k + 41) t := fun q hq => by
    obtain ⟨r, hr, rfl⟩ := List.mem_map.mp hq
    exact siz_dv (ok r hr) hp
  have hl' : (rows.map (sizR · p)).length ≤ 1000 := by rw [List.length_map]; omega
  refine ⟨EdgOk.ofN (den_ne p) hp.d h hl' hk (by omega), rs_szN (den_ne p) hp.d h hl', rs_nn fun q hq => ?_⟩
  obtain ⟨r, hr, rfl⟩ := List.mem_map.mp hq
  exact siz_nn (ok r hr) p

/-! ### more room: no size less, no price less; one room, one answer -/
theorem siz_mono {r : Row} (h : ROk r) {p q : Rat} (hpq : p ≤ q) : sizR r p ≤ sizR r q := by
  by_cases hq : q < 0
  · have hp : p < 0 := by grind
    rw [siz_neg hp, siz_neg hq]
    have hm := mul_nn h.s0 (p := q - p) (by grind)
    split <;> split <;> grind
  · by_cases hp : p < 0
    · exact Rat.le_trans (siz_le_b h hp) (b_le_siz h hq)
    · have hm := mul_nn h.w0 (p := q - p) (by grind)
      cases hg : r.g with
      | none => rw [siz_pos_none hp hg, siz_pos_none hq hg]; grind
      | some g =>
        rw [siz_pos_some hp hg, siz_pos_some hq hg]
        split <;> split <;> grind
/-- a price as near to nought as can be -/
def NearP (rows : List Row) (p : Rat) : Prop := p = 0 ∨ (0 < p ∧ ∃ r ∈ rows, 0 < r.w ∧ ∀ g, r.g = some g → (r.b : Rat) + (r.w : Rat) * p ≤ (g : Rat)) ∨ (p < 0 ∧ ∃ r ∈ rows, 0 < r.s ∧ (r.l : Rat) ≤ (r.b : Rat) + (r.s : Rat) * p)
theorem rs_lt {α : Type} {f g : α → Rat} {xs : List α} (e : ∀ x ∈ xs, f x ≤ g x) (h : ∃ x ∈ xs, f x < g x) : rs (xs.map f) < rs (xs.map g) := by
  induction xs with
  | nil => obtain ⟨x, hx, _⟩ := h; cases hx
  | cons x xs ih =>
    rw [List.map_cons, List.map_cons, rs_cons, rs_cons]
    have h2 := e x List.mem_cons_self
    have h3 := rs_le (xs := xs) (f := f) (g := g) fun y hy => e y (List.mem_cons_of_mem _ hy)
    obtain ⟨y, hy, hlt⟩ := h
    rcases List.mem_cons.mp hy with rfl | hy
    · grind
    · have h1 := ih (fun y hy => e y (List.mem_cons_of_mem _ hy)) ⟨y, hy, hlt⟩
      grind
theorem near_lt {rows : List Row} (ok : ∀ r ∈ rows, ROk r) {p q : Rat} (hp : NearP rows p) (hq : NearP rows q) (h : q < p) : rs (rows.map (sizR · q)) < rs (rows.map (sizR · p)) := by
  refine rs_lt (fun r hr => siz_mono (ok r hr) (Rat.le_of_lt h)) ?_
  have mlt : ∀ w : Int, 0 < w → (w : Rat) * q < (w : Rat) * p := fun w hw => Rat.mul_lt_mul_of_pos_left h (by exact Rat.intCast_lt_intCast.mpr hw)
  have pneg : ∀ (r : Row), 0 < r.s → (r.l : Rat) ≤ (r.b : Rat) + (r.s : Rat) * q → q < 0 → r ∈ rows → sizR r q < sizR r p := fun r hs hl hq0 hr => by
    rw [siz_neg hq0, if_neg (by grind)]
    have m := mlt r.s hs
    by_cases hp0 : p < 0
    · rw [siz_neg hp0]
      split <;> grind
    · have hb := b_le_siz (ok r hr) hp0
      have m0 : (r.s : Rat) * q < (r.s : Rat) * 0 := Rat.mul_lt_mul_of_pos_left hq0 (by exact Rat.intCast_lt_intCast.mpr hs)
      grind
  rcases hp with rfl | ⟨hp0, r, hr, hw, hg⟩ | ⟨hp0, r, hr, hs, hl⟩
  · rcases hq with rfl | ⟨hq0, _⟩ | ⟨hq0, r, hr, hs, hl⟩
    · grind
    · grind
    · exact ⟨r, hr, pneg r hs hl hq0 hr⟩
  · refine ⟨r, hr, ?_⟩
    have hpn : ¬ p < 0 := by grind
    have e : sizR r p = (r.b : Rat) + (r.w : Rat) * p := by
      cases hgg : r.g with
      | none => exact siz_pos_none hpn hgg
      | some g =>
        have := hg g hgg
        rw [siz_pos_some hpn hgg, if_neg (by grind)]
    rw [e]
    have m := mlt r.w hw
    by_cases hq0 : q < 0
    · have hb := siz_le_b (ok r hr) hq0
      have m0 : (r.w : Rat) * 0 < (r.w : Rat) * p := Rat.mul_lt_mul_of_pos_left hp0 (by exact Rat.intCast_lt_intCast.mpr hw)
      grind
    · cases hgg : r.g with
      | none => rw [siz_pos_none hq0 hgg]; grind
      | some g =>
        rw [siz_pos_some hq0 hgg]
        split <;> grind
  · have hq0 : q < 0 := by grind
    rcases hq with rfl | ⟨h1, _⟩ | ⟨_, r, hr, hs, hl⟩
    · grind
    · grind
    · exact ⟨r, hr, pneg r hs hl hq0 hr⟩
theorem ends_le {r : Row} (h : ROk r) (hg : 0 < r.w → r.g ≠ none) : (endI false r : Rat) ≤ (endI true r : Rat) := Rat.le_trans (end_le_siz h 0) (siz_le_end h hg 0)
/-- two rooms -/
theorem more_room {rows : List Row} (ok : ∀ r ∈ rows, ROk r) {R S : Rat} (hRS : R ≤ S) {o u : Option Rat} (ho : ShR rows R o) (hu : ShR rows S u) :
    (∀ (i : Nat) x y, (shL rows R o)[i]? = some x → (shL rows S u)[i]? = some y → x ≤ y) ∧ (∀ p q, o = some p → u = some q → p ≤ q) := by
  have pr : ∀ p q, o = some p → u = some q → p ≤ q := fun p q e1 e2 => by
    subst e1; subst e2
    by_cases h : q < p
    · have := near_lt ok (p := p) (q := q) ho.2 hu.2 h
      rw [ho.1, hu.1] at this
      grind
    · grind
  refine ⟨fun i x y hx hy => ?_, pr⟩
  have get : ∀ (f : Row → Rat) z, (rows.map f)[i]? = some z → ∃ r, rows[i]? = some r ∧ z = f r := fun f z hz => by
    rw [List.getElem?_map] at hz
    cases e : rows[i]? with
    | none => rw [e] at hz; cases hz
    | some r => rw [e] at hz; exact ⟨r, rfl, (Option.some.inj hz).symm⟩
  cases o with
  | some p =>
    obtain ⟨r, hr, rfl⟩ := get _ _ hx
    have okr := ok r (List.mem_of_getElem? hr)
    cases u with
    | some q =>
      obtain ⟨r', hr', rfl⟩ := get _ _ hy
      rw [hr] at hr'
      cases hr'
      exact siz_mono okr (pr p q rfl rfl)
    | none =>
      obtain ⟨r', hr', rfl⟩ := get _ _ hy
      rw [hr] at hr'
      cases hr'
      rcases hu with ⟨h1, h2, h3⟩ | ⟨h1, h2⟩
      · rw [show shUp rows S = true from decide_eq_true h1]
        exact siz_le_end okr (h2 r (List.mem_of_getElem? hr)) p
      · have h4 := rs_le (xs := rows) (f := fun r => (endI false r : Rat)) (g := fun r => sizR r p) fun r hr => end_le_siz (ok r hr) p
        have h5 := ho.1
        grind
  | none =>
    obtain ⟨r, hr, rfl⟩ := get _ _ hx
    have okr := ok r (List.mem_of_getElem? hr)
    rcases ho with ⟨h1, h2, h3⟩ | ⟨h1, h2⟩
    · obtain ⟨u1, u2⟩ := unmet_up ok h2 (show rs (rows.map fun r => (endI true r : Rat)) < S by grind)
      have := u1 u hu
      subst this
      obtain ⟨r', hr', rfl⟩ := get _ _ hy
      rw [hr] at hr'
      cases hr'
      rw [u2, show shUp rows R = true from decide_eq_true h1]
      exact Rat.le_refl
    · have e0 : shUp rows R = false := decide_eq_false (by grind)
      rw [e0]
      cases u with
      | some q =>
        obtain ⟨r', hr', rfl⟩ := get _ _ hy
        rw [hr] at hr'
        cases hr'
        exact end_le_siz okr q
      | none =>
        obtain ⟨r', hr', rfl⟩ := get _ _ hy
        rw [hr] at hr'
        cases hr'
        rcases hu with ⟨g1, g2, g3⟩ | ⟨g1, g2⟩
        · rw [show shUp rows S = true from decide_eq_true g1]
          exact ends_le okr (g2 r (List.mem_of_getElem? hr))
        · rw [show shUp rows S = false from decide_eq_false (by grind)]
          exact Rat.le_refl
theorem one_room {rows : List Row} (ok : ∀ r ∈ rows, ROk r) {R : Rat} {o u : Option Rat} (ho : ShR rows R o) (hu : ShR rows R u) : o = u := by
  have no : ∀ p, ShR rows R (some p) → ShR rows R none → False := fun p h1 h2 => by
    rcases h2 with ⟨g1, g2, g3⟩ | ⟨g1, g2⟩
    · cases (unmet_up ok g2 g3).1 _ h1
    · cases (unmet_dn ok g2).1 _ h1
  cases o with
  | none => cases u with
    | none => rfl
    | some q => exact (no q hu ho).elim
  | some p => cases u with
    | none => exact (no p ho hu).elim
    | some q =>
      have h1 := (more_room ok Rat.le_refl ho hu).2 p q rfl rfl
      have h2 := (more_room ok Rat.le_refl hu ho).2 q p rfl rfl
      rw [show p = q by grind]
theorem le_q {p q : Rat} : p ≤ q ↔ p.num * q.den ≤ q.num * p.den := Rat.le_iff _ _
theorem dv_sub {s t N : Int} : Rat.divInt s N - Rat.divInt t N = Rat.divInt (s - t) N := by
  rw [Rat.divInt_eq_div, Rat.divInt_eq_div, Rat.divInt_eq_div, Rat.intCast_sub, Rat.div_def, Rat.div_def, Rat.div_def]
  grind
theorem shL_len (rows : List Row) (R : Rat) (o : Option Rat) : (shL rows R o).length = rows.length := by
  cases o <;> simp [shL]
/-- the sizes and what is left, over one bottom -/
theorem shl_edg {rows : List Row} (ok : ∀ r ∈ rows, ROk r) (hl : rows.length ≤ 60) {R : Rat} {o : Option Rat} (h : ShR rows R o) {k m : Nat} (hp : ∀ p, o = some p → Sz k p) (hk : 1 ≤ k) (sR : Sz m R) (hkm : k + m ≤ 3800) :
    EdgOk (shL rows R o ++ [R - rs (shL rows R o)]) ∧ Sz (k + m + 60) (R - rs (shL rows R o)) ∧ ∀ q ∈ shL rows R o, Sz (k + 41) q := by
  obtain ⟨N, hN, bN, hq⟩ := shL_dv ok h hp hk
  have hl' : (shL rows R o).length ≤ 1000 := by rw [shL_len]; omega
  have hs : ∃ T : Int, rs (shL rows R o) = Rat.divInt T N ∧ Bd (k + 51) T := by
    obtain ⟨T, e, hT⟩ := rs_dv (B := 2 ^ (k + 41)) (qs := shL rows R o) (N := N) fun q hq' => by
      obtain ⟨t, e, ht⟩ := hq q hq'
      exact ⟨t, e, Nat.le_of_lt ht⟩
    refine ⟨T, e, Nat.lt_of_le_of_lt hT ?_⟩
    have h2 : (shL rows R o).length * 2 ^ (k + 41) ≤ 1000 * 2 ^ (k + 41) := Nat.mul_le_mul_right _ (by omega)
    have h3 : 2 ^ (k + 51) = 2 ^ (k + 41) * 1024 := by rw [show k + 51 = k + 41 + 10 by omega, Nat.pow_add]
    have h4 : 0 < 2 ^ (k + 41) := Nat.pow_pos (by decide)
    omega
  obtain ⟨T, eT, bT⟩ := hs
  have hD := den_ne R
  have hND : N * R.den ≠ 0 := Int.mul_ne_zero hN hD
  have scale : ∀ t : Int, Rat.divInt t N = Rat.divInt (t * R.den) (N * R.den) := fun t => (Rat.divInt_mul_right hD).symm
  have eR : R = Rat.divInt (R.num * N) (N * R.den) := by
    rw [Int.mul_comm N, Rat.divInt_mul_right hN, Rat.num_divInt_den]
  have eL : R - rs (shL rows R o) = Rat.divInt (R.num * N - T * R.den) (N * R.den) := by
    have e1 : R - rs (shL rows R o) = Rat.divInt (R.num * N) (N * R.den) - Rat.divInt (T * R.den) (N * R.den) := by rw [← eR, eT, scale T]
    rw [e1, dv_sub]
  have bL : Bd (k + m + 52) (R.num * N - T * R.den) := Bd.sub (k := k + m + 51) ((sR.n.mul bN).mono (by omega)) ((bT.mul sR.d).mono (by omega))
  refine ⟨EdgOk.ofN hND (bN.mul sR.d) (k := k + m + 52) (fun q hq' => ?_) (by rw [List.length_append, shL_len]; simp; omega) (by omega) (by omega), ?_, fun q hq' => ?_⟩
  · rcases List.mem_append.mp hq' with h1 | h1
    · obtain ⟨t, e, ht⟩ := hq q h1
      exact ⟨t * R.den, by rw [e, scale], (ht.mul sR.d).mono (by omega)⟩
    · rw [List.mem_singleton.mp h1]
      exact ⟨_, eL, bL⟩
  · rw [eL]
    exact Sz.divInt hND bL (bN.mul sR.d) _
  · obtain ⟨t, e, ht⟩ := hq q hq'
    rw [e]
    exact Sz.divInt hN ht bN _

/-! ### a method of one of several classes -/
def tDyn (L : List (Addr × Sp)) (m : Str) (ta : TE) (t : TA) : TE := fun σ H Q => ta σ H fun x H1 => ∃ p ∈ L, MethQ p.1 m x H1 (t σ H1 fun vs H2 => p.2 (x :: vs) H2 Q E0)
theorem s_dyn {L : List (Addr × Sp)} {m : Str} {ta : TE} {t : TA} {σ : L2.St} {H : Hp} {Q : VK} (h : ta σ H fun x H1 => ∃ p ∈ L, MethQ p.1 m x H1 (t σ H1 fun vs H2 => p.2 (x :: vs) H2 Q E0)) : tDyn L m ta t σ H Q := h
def DynOk (X : Cx) (m : Str) (L : List (Addr × Sp)) : Prop := ∀ p ∈ L, ∃ (k : Nat) (ps : List Str), Met X.prog X.w X.K X.mg X.base m p.1 k ps [] p.2 ∧ Room k X.A
theorem dyn_nil {X : Cx} {m : Str} : DynOk X m [] := fun _ h => nomatch h
theorem dyn_cons {X : Cx} {m : Str} {C : Addr} {k : Nat} {ps : List Str} {sp : Sp} {L : List (Addr × Sp)} (c : Met X.prog X.w X.K X.mg X.base m C k ps [] sp) (hr : Room k X.A) (r : DynOk X m L) : DynOk X m ((C, sp) :: L) := fun p hp => by
  rcases List.mem_cons.mp hp with rfl | hp
  · exact ⟨k, ps, c, hr⟩
  · exact r p hp
section
variable {X : Cx} {m : Str} {pos apos : Pos} {e o : Expr} {es : List Expr} {ta : TE} {t : TA} {L : List (Addr × Sp)}
theorem pe_dyn {pl : Sem Bool} (he : PE X o ta) (D : DynOk X m L) (ha : PA X (e :: es) t)
    (hst : starEach (e :: es) X.env = (false, eval e X.env) :: starEach es X.env := by rfl) (hpl : (backTo pos (starEach es X.env)).any (·.1) = false := by rfl)
    (ht : eval (.Call (.Attribute o m apos) (e :: es) [] pos) X.env = (do
      let ov ← eval o X.env
      standAt apos.atName
      let (f, first) ← holding [ov] (getMethod ov m pl)
      callWith pos f first (backTo pos (starEach (e :: es) X.env)) (backToKw pos (keywordEach [] X.env))) := by rfl) :
    PE X (.Call (.Attribute o m apos) (e :: es) [] pos) (tDyn L m ta t) := by
  refine ⟨fun pins s σ H Q I h => ?_⟩
  refine PySem.W.methodCall_KW (pl := pl) (thn (he.run pins s σ H _ I h) fun u s1 ⟨x, H1, I1, rx, p, hp, a, dx, fs, ex, ea, l, q⟩ => ?_) ht
  obtain ⟨k, ps, c, hr⟩ := D p hp
  obtain ⟨f, fd, ds, cl, hm, F, hb, hd⟩ := c.ex
  cases hd
  subst ex
  obtain rfl : u = Value.ref a := rx
  refine getmeth_ok I1 ea cl hm l ?_
  refine PySem.W.callWith_K (first := [.ref a]) (h₀ := X.base) I.ok.mod.kin hm.kp (thn (ha.run pos pins s1 σ H1 _ I1 q) fun us s2 ⟨vs, H2, I2, r, q2⟩ => ⟨I2.kIn, ?_⟩) hst hpl
  exact run_fn (us := .ref a :: us) (vs := .ref a :: vs) (dvs := []) F hr hb .nil pass0 I2 (.cons rfl r) (by rw [List.append_nil]; exact q2)
theorem pe_dyn0 {pl : Sem Bool} (he : PE X o ta) (D : DynOk X m L)
    (ht : eval (.Call (.Attribute o m apos) [] [] pos) X.env = (do
      let ov ← eval o X.env
      standAt apos.atName
      let (f, first) ← holding [ov] (getMethod ov m pl)
      callWith pos f first (backTo pos (starEach [] X.env)) (backToKw pos (keywordEach [] X.env))) := by rfl) :
    PE X (.Call (.Attribute o m apos) [] [] pos) (tDyn L m ta tNil) := by
  refine ⟨fun pins s σ H Q I h => ?_⟩
  refine PySem.W.methodCall_KW (pl := pl) (thn (he.run pins s σ H _ I h) fun u s1 ⟨x, H1, I1, rx, p, hp, a, dx, fs, ex, ea, l, q⟩ => ?_) ht
  obtain ⟨k, ps, c, hr⟩ := D p hp
  obtain ⟨f, fd, ds, cl, hm, F, hb, hd⟩ := c.ex
  cases hd
  subst ex
  obtain rfl : u = Value.ref a := rx
  refine getmeth_ok I1 ea cl hm l ?_
  exact PySem.W.callWith_K0 (first := [.ref a]) I1.kIn hm.kp (run_fn (us := [.ref a]) (vs := [.ref a]) (dvs := []) F hr hb .nil pass0 I1 (.cons rfl .nil) q)
end

/-- a def that calls itself: by the depth of what it is asked -/
theorem rec_of {P : Program} {wd : World} {K : PySem.W.Frag} {mg : Str → Option Value} {base : Heap} {b : Nat} {f : Addr} {fd : FuncData} {ps : List Str} {sp : Nat → Sp} (z : FnOk P wd K mg base CX0 b f fd ps (sp 0))
    (st : ∀ n, FnOk P wd K mg base CX0 (b + n) f fd ps (sp n) → FnOk P wd K mg base CX0 (b + n + 1) f fd ps (sp (n + 1))) (n : Nat) : FnOk P wd K mg base CX0 (b + n) f fd ps (sp n) := by
  induction n with
  | zero => exact z
  | succ n ih => exact st n ih
/-- defs that call themselves by way of others: two levels for each depth -/
theorem rec_of2 {P : Program} {wd : World} {K : PySem.W.Frag} {mg : Str → Option Value} {base : Heap} {b : Nat} {f : Addr} {fd : FuncData} {ps : List Str} {sp : Nat → Sp} (z : FnOk P wd K mg base CX0 b f fd ps (sp 0))
    (st : ∀ n, FnOk P wd K mg base CX0 (b + 2 * n) f fd ps (sp n) → FnOk P wd K mg base CX0 (b + 2 * n + 2) f fd ps (sp (n + 1))) (n : Nat) : FnOk P wd K mg base CX0 (b + 2 * n) f fd ps (sp n) := by
  induction n with
  | zero => exact z
  | succ n ih => exact st n ih

/-! ### == of a list and [] -/
def rEqE (K : PySem.W.Frag) : R2 := fun x y H Q => ∃ a b xs, x = .ref a ∧ y = .ref b ∧ SqL K H a xs ∧ SqL K H b [] ∧ Q (.bl xs.isEmpty) H
def rEqE1 (K : PySem.W.Frag) : R2 := fun x y H Q => rEqU K x y H Q ∨ rEqE K x y H Q
section
variable {X : Cx}
theorem op_eqE (hu : X.A.units + 64 < cLine) : OpR X (compareOp .Eq) (rEqE X.K) := by
  intro pins s σ H x y v u Q I rx ry h
  obtain ⟨a, b, xs, rfl, rfl, ha, hb, q⟩ := h
  obtain rfl : v = Value.ref a := rx
  obtain rfl : u = Value.ref b := ry
  obtain ⟨it, ra, ⟨o, n, ho, hc, _, hd⟩, _⟩ := I.list ha
  obtain ⟨jt, rb, ⟨o2, n2, ho2, hc2, _, hd2⟩, _⟩ := I.list hb
  have l1 := ra.length
  have l2 := rb.length
  cases xs with
  | nil =>
    have hsz : it.toArray.size = jt.toArray.size := by simp; omega
    refine SeqAt.eq_listAt (e := fun _ => true) ⟨o, ho, hc, n, hd⟩ ⟨o2, ho2, hc2, n2, hd2⟩ hsz (by omega) (fun j h1 h2 => ?_) ?_
    · simp at h1 l1; omega
    · have e : (List.range it.toArray.size).all (fun _ => true) = true := by simp
      rw [e]
      exact ⟨.bl true, H, I, rfl, q⟩
  | cons z zs =>
    refine SeqAt.eq_list_lengthsAt ⟨o, ho, hc, n, hd⟩ ⟨o2, ho2, hc2, n2, hd2⟩ ?_ (by omega) ?_
    · simp at l1 l2 ⊢; omega
    · exact ⟨.bl false, H, I, rfl, q⟩
theorem uo_eqE (hu : X.A.units + 64 < cLine) : OpR X (compareOp .Eq) (rEqE1 X.K) := opOr (uo_eq hu) (op_eqE hu)
end
theorem k_eqE {X : Cx} {K : PySem.W.Frag} (h : X.K = K) (hu : X.A.units + 64 < cLine) : OpR X (compareOp .Eq) (rEqE1 K) := h ▸ uo_eqE hu
theorem n_eqE {K : PySem.W.Frag} {H : Hp} {F : List (V × D)} {M : List ME} {Q : VK} {x y : V} {ds : List D} (w : Wf F H M) (hx : Rk F M x (.lst ds)) (hy : Rk F M y (.lst [])) (q : Q (.bl ds.isEmpty) H) : rEqE1 K x y H Q := by
  obtain ⟨I, Mc, w, a, hF⟩ := w.ex
  obtain ⟨p, vs, rfl, hp, h1⟩ := hx.lst w a hF
  obtain ⟨p', vs', rfl, hp', h2⟩ := hy.lst w a hF
  cases h2
  refine .inr ⟨p, p', vs, rfl, rfl, .inl (.inl hp), .inl (.inl hp'), ?_⟩
  have e : vs.isEmpty = ds.isEmpty := by cases h1 <;> rfl
  rw [e]
  exact q
theorem Wf.eqO {F : List (V × D)} {H : Hp} {M : List ME} {v : V} {o : Option Int} (w : Wf ((v, oD o) :: F) H M) : v = oV o ∧ Wf F H M := by
  cases o with
  | none => exact Wf.non0 w
  | some n => exact Wf.eq0 w
theorem cutD_one {d : D} {ds : List D} : cutD (d :: ds) (some 1) none = ds := by
  unfold cutD
  rw [show HT.sIx (d :: ds).length 0 (some 1) = min 1 (d :: ds).length from HT.sIx_nat (d :: ds).length 0 1, HT.sIx_none]
  rw [show min 1 (d :: ds).length = 1 by rw [List.length_cons]; omega]
  show (List.take ((d :: ds).length - 1) ds) = ds
  rw [List.length_cons, Nat.add_sub_cancel]
  exact List.take_length
theorem s_midX {t : TS} {G : Ends} {σ : L2.St} {H : Hp} (Mid : L2.St → Hp → Prop) (k : ∀ σ H, Mid σ H → G.nx σ H) (h : ∀ N : L2.St → Hp → Prop, (∀ σ' H', Mid σ' H' → N σ' H') → t { G with nx := N } σ H) : t G σ H := h _ k
theorem n_ext {F : List (V × D)} {H : Hp} {M M' : List ME} {Q : VK} {p : Addr} {y : V} {ds es : List D} (w : Wf F H M) (f : Foc M (.ml p ds) M' (.ml p (ds ++ es))) (h : Rk F M y (.lst es)) (hz : ds.length + es.length ≤ 100000) (q : ∀ H', Wf F H' M' → Q .non H') : rExtend (.ref p) [y] H Q := by
  obtain ⟨I, Mc, w, a, hF⟩ := w.ex
  obtain ⟨b, zs, rfl, hb, h2⟩ := h.lst w a hF
  obtain ⟨M1, m, M2, rfl, h3, h4⟩ := a.foc f
  cases h3 with
  | ml b1 => exact ⟨p, b, _, zs, rfl, rfl, w.at, hb, by rw [b1.length, h2.length]; exact Nat.le_trans hz (by decide), q _ ⟨I, _, w.put, h4 I _ (Same.refl _) (.ml (b1.app h2)), hF⟩⟩
theorem n_eqB {K : PySem.W.Frag} {F : List (V × D)} {H : Hp} {M : List ME} {x y : V} {Q : VK} {bs cs : List Bool} (w : Wf F H M) (hx : Rk F M x (.lst (bs.map D.bl))) (hy : Rk F M y (.lst (cs.map D.bl))) (q : Q (.bl (decide (bs = cs))) H) : rEqU K x y H Q :=
  .inr ⟨_, _, w.bools hx, w.bools hy, sh_bools bs, sh_bools cs, by
    have h2 : PyData.eqv (D.pd (.lst (bs.map D.bl))) (D.pd (.lst (cs.map D.bl))) = decide (bs = cs) := by rw [Bool.eq_iff_iff, eqv_bools, decide_eq_true_iff]
    rw [h2]; exact q⟩

/-! ### keys: joined letters -/
theorem s_ixLt {K : PySem.W.Frag} {H : Hp} {Q : VK} {z : Str} {n : Int} {P : Nat → Prop} (h0 : 0 ≤ n) (h1 : n < z.length) (hz : z.length ≤ 100000) (hp : ∀ c ∈ z.cps.toList, P c) (q : ∀ c, P c → Q (.str ⟨#[c]⟩) H) : rIx K (.str z) (.int n) H Q := by
  obtain ⟨c, hc, e⟩ := at_nat (l := z.cps.toList) h0 (by rw [Array.length_toList]; exact h1)
  exact .inr (.inr ⟨z, n, c, rfl, rfl, small_line hz, e, q c (hp c hc)⟩)
theorem join1 : ∀ cs : List Nat, Txt.join ("" : Str) (cs.map fun c => (⟨#[c]⟩ : Str)) = ⟨cs.toArray⟩ := fun cs => by
  unfold Txt.join
  rw [StrLaws.glued_eq_join]
  have e0 : ("" : Str) = Str.empty := by decide +kernel
  rw [e0]
  induction cs with
  | nil => rfl
  | cons c cs ih =>
    cases cs with
    | nil => rfl
    | cons d ds =>
      rw [List.map_cons, List.map_cons]
      show (⟨#[c]⟩ : Str) ++ Str.empty ++ Str.join Str.empty (List.map (fun c => (⟨#[c]⟩ : Str)) (d :: ds)) = _
      rw [ih, Str.append_empty]
      exact Str.ext' (by rw [Str.cps_append]; simp)
theorem n_joinL {K : PySem.W.Frag} {F : List (V × D)} {H : Hp} {M : List ME} {Q : VK} {p : Addr} {cs : List Nat} (w : Wf F H M) (h : Rk F M (.ref p) (.lst (cs.map fun c => D.str ⟨#[c]⟩))) (hl : cs.length ≤ 1000) (q : Q (.str ⟨cs.toArray⟩) H) : rJoin K (.str "") [.ref p] H Q := by
  obtain ⟨I, Mc, w, ac, hF⟩ := w.ex
  obtain ⟨p', vs, e, hp, b⟩ := h.lst w ac hF
  cases e
  have e1 : vs = (cs.map fun c => (⟨#[c]⟩ : Str)).map V.str := by
    clear h hp w hl q
    revert vs
    induction cs with
    | nil => intro vs b; cases b; rfl
    | cons c cs ih =>
      intro vs b
      cases b with
      | cons h1 b => rw [h1.str_eq, ih _ b]; rfl
  subst e1
  refine ⟨_, p, _, rfl, rfl, .inl (.inl (.inl hp)), ?_, by rw [join1]; exact q⟩
  have e2 : ((cs.map fun c => (⟨#[c]⟩ : Str)).map (·.length)).sum = cs.length := by
    clear h hp w hl q b ac hF
    induction cs with
    | nil => rfl
    | cons c cs ih =>
      rw [List.map_cons, List.map_cons, List.sum_cons, ih, List.length_cons]
      show 1 + _ = _
      omega
  have e3 : Str.length "" = 0 := by decide +kernel
  rw [e2, e3]
  omega
theorem isnm_cs {cs : List Nat} (h1 : 1 ≤ cs.length) (h2 : cs.length ≤ 8) (h : ∀ c ∈ cs, 97 ≤ c ∧ c ≤ 122) : isnm (.str ⟨cs.toArray⟩) = true := decide_eq_true ⟨by show 1 ≤ cs.toArray.size; simpa using h1, by show cs.toArray.size ≤ 8; simpa using h2, fun c hc => h c (by simpa using hc)⟩
theorem isnm_le {z : Str} (h : isnm (.str z) = true) : z.length ≤ 8 := (of_decide_eq_true h).2.1
theorem isnm_ok {z : Str} (h : isnm (.str z) = true) : PyData.strOk z = true := by
  have h := (of_decide_eq_true h).2.2
  unfold PyData.strOk
  rw [Array.all_eq_true']
  intro c hc
  have := h c (by simpa using hc)
  exact decide_eq_true (by omega)
theorem abc_cps : ∀ c ∈ (Str.cps ("abc" : Str)).toList, 97 ≤ c ∧ c ≤ 122 := by
  have e : (Str.cps ("abc" : Str)).toList = [97, 98, 99] := by decide +kernel
  rw [e]
  simp only [List.mem_cons, List.not_mem_nil, or_false]
  omega

/-! ### boxes as the law's data -/
def Bx.tag : Bx → Str
  | .leaf .. => "leaf"
  | .box .. => "box"
  | .pad .. => "pad"
  | .line c _ _ _ _ => if c then "column" else "row"
def Bx.args : Bx → List D
  | .leaf k b l g w s => [.str k, .int b, .int l, oD g, .int w, .int s]
  | .box w s => [.int w, .int s]
  | .pad _ n w s => [.int n, .int w, .int s]
  | .line _ _ n w s => [.int n, .int w, .int s]
theorem spD_eq (b : Bx) : spD b = .tup [.str b.tag, .lst (b.kids.map spD), .tup b.args] := by
  cases b <;> rw [spD]
  case leaf => rfl
  case box => rfl
  case pad => rfl
  case line c ks n w s => rw [spDs_map]; rfl
def atom : D → Bool
  | .non => true | .int _ => true | .str x => PyData.strOk x
  | _ => false
theorem NB.atom {k : Nat} {d : D} (h : atom d = true) : NB k d := by
  cases d <;> first | exact .non | exact .int _ | exact .str h | cases h
theorem NB.atoms {k : Nat} {ds : List D} (h : ∀ d ∈ ds, Fs.atom d = true) : NB (k + 1) (.tup ds) := .tup fun d hd => NB.atom (h d hd)
theorem atom_oD (g : Option Int) : Fs.atom (oD g) = true := by cases g <;> rfl
theorem args_atom {b : Bx} (h : BxOk b) : ∀ d ∈ b.args, Fs.atom d = true := by
  intro d hd
  cases h with
  | leaf hk =>
    simp only [Bx.args, List.mem_cons, List.not_mem_nil, or_false] at hd
    rcases hd with rfl | rfl | rfl | rfl | rfl | rfl
    · exact isnm_ok hk
    · rfl
    · rfl
    · exact atom_oD _
    · rfl
    · rfl
  | box =>
    simp only [Bx.args, List.mem_cons, List.not_mem_nil, or_false] at hd
    rcases hd with rfl | rfl <;> rfl
  | pad =>
    simp only [Bx.args, List.mem_cons, List.not_mem_nil, or_false] at hd
    rcases hd with rfl | rfl | rfl <;> rfl
  | line =>
    simp only [Bx.args, List.mem_cons, List.not_mem_nil, or_false] at hd
    rcases hd with rfl | rfl | rfl <;> rfl
theorem tag_ok (b : Bx) : PyData.strOk b.tag = true := by
  cases b with
  | line c =>
    cases c
    · exact (by decide +kernel : PyData.strOk "row" = true)
    · exact (by decide +kernel : PyData.strOk "column" = true)
  | leaf => exact (by decide +kernel : PyData.strOk "leaf" = true)
  | box => exact (by decide +kernel : PyData.strOk "box" = true)
  | pad => exact (by decide +kernel : PyData.strOk "pad" = true)
theorem nb_spD : ∀ {n : Nat} {b : Bx}, BxOk b → b.dp ≤ n → NB (2 * n) (spD b)
  | 0, b, _, hn => by have := dp_pos b; omega
  | n + 1, b, h, hn => by
    rw [spD_eq, show 2 * (n + 1) = 2 * n + 1 + 1 by omega]
    refine .tup fun d hd => ?_
    simp only [List.mem_cons, List.not_mem_nil, or_false] at hd
    rcases hd with rfl | rfl | rfl
    · exact .str (tag_ok b)
    · refine .lst fun d hd => ?_
      obtain ⟨k, hk, rfl⟩ := List.mem_map.mp hd
      have := kid_dp hk
      exact nb_spD (h.kid hk) (by omega)
    · exact NB.atoms (args_atom h)
theorem nb_kids {n : Nat} {ks : List Bx} (h : ∀ k ∈ ks, BxOk k ∧ k.dp ≤ n) : NB (2 * n + 1) (.lst (ks.map spD)) := .lst fun d hd => by
  obtain ⟨k, hk, rfl⟩ := List.mem_map.mp hd
  exact nb_spD (h k hk).1 (h k hk).2
theorem oD_inj {a b : Option Int} (h : oD a = oD b) : a = b := by
  cases a <;> cases b <;> simp only [oD] at h
  · rfl
  · cases h
  · cases h
  · rw [D.int.inj h]
theorem map_inj {α β : Type} {f : α → β} : ∀ {l m : List α}, (∀ x ∈ l, ∀ y, f x = f y → x = y) → l.map f = m.map f → l = m
  | [], [], _, _ => rfl
  | [], _ :: _, _, h => by cases h
  | _ :: _, [], _, h => by cases h
  | x :: l, y :: m, hf, h => by
    rw [List.map_cons, List.map_cons] at h
    obtain ⟨h1, h2⟩ := List.cons.inj h
    rw [hf x List.mem_cons_self y h1, map_inj (fun x hx => hf x (List.mem_cons_of_mem _ hx)) h2]
theorem spD_inj' : ∀ {n : Nat} {a : Bx}, a.dp ≤ n → ∀ b, spD a = spD b → a = b
  | 0, a, h, _, _ => by have := dp_pos a; omega
  | n + 1, a, hn, b, h => by
    rw [spD_eq, spD_eq] at h
    obtain ⟨h1, h⟩ := List.cons.inj (D.tup.inj h)
    obtain ⟨h2, h⟩ := List.cons.inj h
    obtain ⟨h3, _⟩ := List.cons.inj h
    have h1 := D.str.inj h1
    have h2 := map_inj (fun x hx y e => spD_inj' (n := n) (by have := kid_dp hx; omega) y e) (D.lst.inj h2)
    have h3 := D.tup.inj h3
    have e1 : ("leaf" : Str) ≠ "box" := by decide +kernel
    have e2 : ("leaf" : Str) ≠ "pad" := by decide +kernel
    have e3 : ("leaf" : Str) ≠ "column" := by decide +kernel
    have e4 : ("leaf" : Str) ≠ "row" := by decide +kernel
    have e5 : ("box" : Str) ≠ "pad" := by decide +kernel
    have e6 : ("box" : Str) ≠ "column" := by decide +kernel
    have e7 : ("box" : Str) ≠ "row" := by decide +kernel
    have e8 : ("pad" : Str) ≠ "column" := by decide +kernel
    have e9 : ("pad" : Str) ≠ "row" := by decide +kernel
    have e10 : ("column" : Str) ≠ "row" := by decide +kernel
    cases a with
    | leaf k1 b1 l1 g1 w1 s1 =>
      cases b with
      | leaf k2 b2 l2 g2 w2 s2 =>
        simp only [Bx.args, List.cons.injEq, D.str.injEq, D.int.injEq, and_true] at h3
        obtain ⟨q1, q2, q3, q4, q5, q6⟩ := h3
        rw [q1, q2, q3, oD_inj q4, q5, q6]
      | box => exact absurd h1 e1
      | pad => exact absurd h1 e2
      | line c => cases c; exact absurd h1 e4; exact absurd h1 e3
    | box w1 s1 =>
      cases b with
      | leaf => exact absurd h1.symm e1
      | box w2 s2 =>
        simp only [Bx.args, List.cons.injEq, D.int.injEq, and_true] at h3
        obtain ⟨q1, q2⟩ := h3
        rw [q1, q2]
      | pad => exact absurd h1 e5
      | line c => cases c; exact absurd h1 e7; exact absurd h1 e6
    | pad k1 n1 w1 s1 =>
      cases b with
      | leaf => exact absurd h1.symm e2
      | box => exact absurd h1.symm e5
      | pad k2 n2 w2 s2 =>
        simp only [Bx.args, List.cons.injEq, D.int.injEq, and_true] at h3
        simp only [Bx.kids, List.cons.injEq, and_true] at h2
        obtain ⟨q1, q2, q3⟩ := h3
        rw [h2, q1, q2, q3]
      | line c => cases c; exact absurd h1 e9; exact absurd h1 e8
    | line c1 k1 n1 w1 s1 =>
      cases b with
      | leaf => cases c1; exact absurd h1.symm e4; exact absurd h1.symm e3
      | box => cases c1; exact absurd h1.symm e7; exact absurd h1.symm e6
      | pad => cases c1; exact absurd h1.symm e9; exact absurd h1.symm e8
      | line c2 k2 n2 w2 s2 =>
        simp only [Bx.args, List.cons.injEq, D.int.injEq, and_true] at h3
        simp only [Bx.kids] at h2
        obtain ⟨q1, q2, q3⟩ := h3
        have : c1 = c2 := by
          cases c1 <;> cases c2
          · rfl
          · exact absurd h1.symm e10
          · exact absurd h1 e10
          · rfl
        rw [this, h2, q1, q2, q3]
theorem spD_inj {a b : Bx} (h : spD a = spD b) : a = b := spD_inj' (Nat.le_refl _) b h
/-! ### sums and maxima over options -/
def optN (o : Option Int) : Int := o.getD 0
theorem opts_ints {os : List (Option Int)} (h : none ∉ os) : os.map oD = (os.map optN).map D.int := by
  induction os with
  | nil => rfl
  | cons o os ih =>
    rw [List.map_cons, List.map_cons, List.map_cons, ih fun h' => h (List.mem_cons_of_mem _ h')]
    cases o with
    | none => exact absurd List.mem_cons_self h
    | some n => rfl
theorem inV_opts : ∀ os : List (Option Int), inV .non (os.map oV) = decide (none ∈ os)
  | [] => rfl
  | o :: os => by
    have := inV_opts os
    unfold inV at this ⊢
    rw [List.map_cons, List.any_cons, this]
    cases o with
    | none => simp [oV, eqV]
    | some n => simp [oV, eqV]
theorem flat_opts : ∀ os : List (Option Int), (os.map oV).all flatV = true
  | [] => rfl
  | o :: os => by rw [List.map_cons, List.all_cons, flat_opts os]; cases o <;> rfl
theorem IsA.opts_eq {I : Hp} : ∀ {os : List (Option Int)} {vs : List V}, IsA I vs (os.map oD) → vs = os.map oV
  | [], _, h => by cases h; rfl
  | o :: os, _, h => by
    cases h with
    | cons h1 h2 =>
      rw [IsA.opts_eq h2, List.map_cons]
      congr 1
      cases o with
      | none => exact h1.non_eq
      | some n => exact h1.int_eq
theorem n_inO {K : PySem.W.Frag} {H : Hp} {F : List (V × D)} {M : List ME} {Q : VK} {v : V} {os : List (Option Int)} (w : Wf F H M) (h : Rk F M v (.lst (os.map oD))) (q : Q (.bl (decide (none ∈ os))) H) : rIn K false .non v H Q := by
  obtain ⟨I, Mc, p, vs, rfl, w1, ac, hF, hp, b⟩ := w.lstE h
  exact ⟨p, _, rfl, .inl (.inl (.inl (by rw [hp, b.opts_eq]))), rfl, flat_opts os, by rw [inV_opts]; exact q⟩
def T3.o (t : T3) : Int := optN t.g
def gapN (gap : Int) (n : Nat) : Int := gap * (n - 1 : Int)
theorem add_fold : ∀ (ts : List T3) (t : T3), ts.foldl T3.add t = ⟨t.l + (ts.map (·.l)).sum, t.b + (ts.map (·.b)).sum, if t.g = none ∨ none ∈ ts.map (·.g) then none else some (t.o + (ts.map T3.o).sum)⟩
  | [], t => by
    obtain ⟨a, b, g⟩ := t
    cases g <;> simp [T3.o, optN]
  | u :: ts, t => by
    rw [List.foldl_cons, add_fold ts]
    obtain ⟨a, b, g⟩ := t
    obtain ⟨a', b', g'⟩ := u
    cases g with
    | none =>
      simp [T3.add, Int.add_assoc]
    | some x =>
      cases g' with
      | none => simp [T3.add, Int.add_assoc]
      | some y => simp [T3.add, Int.add_assoc, T3.o, optN]
theorem rowT_eq {gap : Int} {ts : List T3} (h : ts ≠ []) : rowT gap ts = ⟨(ts.map (·.l)).sum + gap * (ts.length - 1 : Int), (ts.map (·.b)).sum + gap * (ts.length - 1 : Int), if none ∈ ts.map (·.g) then none else some ((ts.map T3.o).sum + gap * (ts.length - 1 : Int))⟩ := by
  rw [rowT, if_neg h, add_fold]
  simp only [T3.o, optN, Option.getD_some, reduceCtorEq, false_or]
  congr 1
  · omega
  · omega
  · split
    · rfl
    · congr 1; omega
def IsMax (m : Int) (ns : List Int) : Prop := m ∈ ns ∧ ∀ y ∈ ns, y ≤ m
theorem IsMax.uniq {m n : Int} {ns : List Int} (h : IsMax m ns) (h' : IsMax n ns) : m = n := by
  have := h.2 n h'.1
  have := h'.2 m h.1
  omega
theorem fmax : ∀ (l : List Int) (a : Int), IsMax (l.foldl max a) (a :: l)
  | [], a => ⟨List.mem_cons_self, fun y hy => by rw [List.mem_singleton.mp hy]; exact Int.le_refl _⟩
  | b :: l, a => by
    obtain ⟨h1, h2⟩ := fmax l (max a b)
    rw [List.foldl_cons]
    refine ⟨?_, fun y hy => ?_⟩
    · rcases List.mem_cons.mp h1 with h | h
      · rw [h]
        rcases Int.le_total a b with q | q
        · rw [Int.max_eq_right q]; exact List.mem_cons_of_mem _ List.mem_cons_self
        · rw [Int.max_eq_left q]; exact List.mem_cons_self
      · exact List.mem_cons_of_mem _ (List.mem_cons_of_mem _ h)
    · have h0 := h2 _ List.mem_cons_self
      rcases List.mem_cons.mp hy with rfl | hy
      · omega
      · rcases List.mem_cons.mp hy with rfl | hy
        · omega
        · exact h2 y (List.mem_cons_of_mem _ hy)
theorem mx_l : ∀ (ts : List T3) (t : T3), (ts.foldl T3.mx t).l = (ts.map (·.l)).foldl max t.l
  | [], _ => rfl
  | u :: ts, t => by rw [List.foldl_cons, mx_l ts, List.map_cons, List.foldl_cons]; rfl
theorem mx_b : ∀ (ts : List T3) (t : T3), (ts.foldl T3.mx t).b = (ts.map (·.b)).foldl max t.b
  | [], _ => rfl
  | u :: ts, t => by rw [List.foldl_cons, mx_b ts, List.map_cons, List.foldl_cons]; rfl
theorem mx_g : ∀ (ts : List T3) (t : T3), (ts.foldl T3.mx t).g = if none ∈ (t :: ts).map (·.g) then none else some ((ts.map T3.o).foldl max t.o)
  | [], t => by obtain ⟨a, b, g⟩ := t; cases g <;> simp [T3.o, optN]
  | u :: ts, t => by
    rw [List.foldl_cons, mx_g ts]
    obtain ⟨a, b, g⟩ := t
    obtain ⟨a', b', g'⟩ := u
    cases g with
    | none => simp [T3.mx]
    | some x =>
      cases g' with
      | none => simp [T3.mx]
      | some y => simp [T3.mx, T3.o, optN]
/-- the greatest of all, told by their marks -/
theorem colT_eq {ts : List T3} {m n : Int} {o : Option Int} (h : ts ≠ []) (hm : IsMax m (ts.map (·.l))) (hn : IsMax n (ts.map (·.b))) (h1 : none ∈ ts.map (·.g) → o = none) (h2 : none ∉ ts.map (·.g) → ∃ k, o = some k ∧ IsMax k (ts.map T3.o)) : colT ts = ⟨m, n, o⟩ := by
  cases ts with
  | nil => exact absurd rfl h
  | cons t ts =>
    rw [colT]
    have e1 : (ts.foldl T3.mx t).l = m := by rw [mx_l]; exact (fmax _ _).uniq hm
    have e2 : (ts.foldl T3.mx t).b = n := by rw [mx_b]; exact (fmax _ _).uniq hn
    have e3 : (ts.foldl T3.mx t).g = o := by
      rw [mx_g]
      by_cases hh : none ∈ (t :: ts).map (·.g)
      · rw [if_pos hh, h1 hh]
      · rw [if_neg hh]
        obtain ⟨k, rfl, hk⟩ := h2 hh
        congr 1
        exact (fmax _ _).uniq hk
    rw [← e1, ← e2, ← e3]
theorem leaf_tag {b : Bx} (h : b.tag = "leaf") : b.mn = 1 ∧ b.dp = 1 := by
  have e1 : ("box" : Str) ≠ "leaf" := by decide +kernel
  have e2 : ("pad" : Str) ≠ "leaf" := by decide +kernel
  have e3 : ("column" : Str) ≠ "leaf" := by decide +kernel
  have e4 : ("row" : Str) ≠ "leaf" := by decide +kernel
  cases b with
  | leaf => exact ⟨by rw [Bx.mn], by rw [Bx.dp]⟩
  | box => exact absurd h e1
  | pad => exact absurd h e2
  | line c =>
    cases c
    · exact absurd h e4
    · exact absurd h e3
theorem mns_snoc (ks : List Bx) (b : Bx) : Bx.mns (ks ++ [b]) = Bx.mns ks + b.mn := by rw [mns_app, mns_one]
theorem dps_bd {ks : List Bx} {n : Nat} (h : ∀ k ∈ ks, k.dp ≤ n) : Bx.dps ks ≤ n := by
  induction ks with
  | nil => rw [Bx.dps]; omega
  | cons x xs ih =>
    rw [Bx.dps]
    have := h x List.mem_cons_self
    have := ih fun k hk => h k (List.mem_cons_of_mem _ hk)
    omega
theorem args_last (b : Bx) : atI b.args (-1) = some (.int b.s) := by cases b <;> rfl
theorem args_last2 (b : Bx) : atI b.args (-2) = some (.int b.w) := by cases b <;> rfl
theorem map_of {α β : Type} {f : α → β} {ks : List α} {es : List β} (hl : es.length = ks.length) (h : ∀ (i : Nat) (d : β), es[i]? = some d → ∃ k, ks[i]? = some k ∧ d = f k) : es = ks.map f := by
  apply List.ext_getElem (by rw [List.length_map]; exact hl)
  intro i h1 h2
  obtain ⟨x, hx, e⟩ := h i _ (List.getElem?_eq_getElem h1)
  rw [List.getElem_map, e]
  have h3 : i < ks.length := by omega
  rw [List.getElem?_eq_getElem h3] at hx
  cases hx
  rfl
theorem opts_map (ks : List Bx) (f : Bx → Option Int) : ks.map (fun k => oD (f k)) = (ks.map f).map oD := by rw [List.map_map]; rfl
theorem acrs_ne {ks : List Bx} (h : ks ≠ []) (f : Bx → T3) : ks.map f ≠ [] := fun e => h (List.map_eq_nil_iff.mp e)
theorem nb_t3 (t : T3) : NB 5 (t3D t) := NB.atoms fun d hd => by
  simp only [List.mem_cons, List.not_mem_nil, or_false] at hd
  rcases hd with rfl | rfl | rfl
  · rfl
  · rfl
  · exact atom_oD _
theorem n_notinO {K : PySem.W.Frag} {H : Hp} {F : List (V × D)} {M : List ME} {Q : VK} {v : V} {os : List (Option Int)} (w : Wf F H M) (h : Rk F M v (.lst (os.map oD))) (q : Q (.bl (!decide (none ∈ os))) H) : rIn K true .non v H Q := by
  obtain ⟨I, Mc, p, vs, rfl, w1, ac, hF, hp, b⟩ := w.lstE h
  exact ⟨p, _, rfl, .inl (.inl (.inl (by rw [hp, b.opts_eq]))), rfl, flat_opts os, by rw [inV_opts]; exact q⟩

/-! ### breadths of the boxes within -/
structure T3Ok (t : T3) (m : Int) : Prop where
  l0 : 0 ≤ t.l
  lb : t.l ≤ t.b
  bm : t.b ≤ m
  g : ∀ n, t.g = some n → t.b ≤ n ∧ n ≤ m
theorem T3Ok.mono {t : T3} {m n : Int} (h : T3Ok t m) (hm : m ≤ n) : T3Ok t n := ⟨h.l0, h.lb, by have := h.bm; omega, fun k e => by have := h.g k e; omega⟩
theorem T3Ok.add {t u : T3} {m n : Int} (h : T3Ok t m) (h' : T3Ok u n) : T3Ok (t.add u) (m + n) := by
  obtain ⟨a1, a2, a3, a4⟩ := h
  obtain ⟨b1, b2, b3, b4⟩ := h'
  refine ⟨by show 0 ≤ t.l + u.l; omega, by show t.l + u.l ≤ t.b + u.b; omega, by show t.b + u.b ≤ _; omega, fun k e => ?_⟩
  obtain ⟨x, y, g⟩ := t
  obtain ⟨x', y', g'⟩ := u
  cases g with
  | none => cases e
  | some p =>
    cases g' with
    | none => cases e
    | some q =>
      have q1 := a4 p rfl
      have q2 := b4 q rfl
      cases e
      show y + y' ≤ _ ∧ _
      simp only at q1 q2 ⊢
      omega
theorem T3Ok.mx {t u : T3} {m : Int} (h : T3Ok t m) (h' : T3Ok u m) : T3Ok (t.mx u) m := by
  obtain ⟨a1, a2, a3, a4⟩ := h
  obtain ⟨b1, b2, b3, b4⟩ := h'
  refine ⟨by show 0 ≤ max t.l u.l; omega, by show max t.l u.l ≤ max t.b u.b; omega, by show max t.b u.b ≤ _; omega, fun k e => ?_⟩
  obtain ⟨x, y, g⟩ := t
  obtain ⟨x', y', g'⟩ := u
  cases g with
  | none => cases e
  | some p =>
    cases g' with
    | none => cases e
    | some q =>
      have q1 := a4 p rfl
      have q2 := b4 q rfl
      cases e
      show max y y' ≤ _ ∧ _
      simp only at q1 q2 ⊢
      omega
theorem T3Ok.nil {m : Int} (h : 0 ≤ m) : T3Ok T3.nil m := ⟨Int.le_refl _, Int.le_refl _, h, fun n e => nomatch e⟩
theorem T3Ok.eff {t : T3} {m : Int} (h : T3Ok t m) (w s : Int) : T3Ok (t.eff w s) m := by
  obtain ⟨a1, a2, a3, a4⟩ := h
  refine ⟨?_, ?_, a3, fun n e => ?_⟩
  · show 0 ≤ if s = 0 then t.b else t.l
    split <;> omega
  · show (if s = 0 then t.b else t.l) ≤ t.b
    split <;> omega
  · have e : (if w = 0 then some t.b else t.g) = some n := e
    show t.b ≤ n ∧ n ≤ m
    split at e
    · cases e; exact ⟨Int.le_refl _, a3⟩
    · exact a4 n e
theorem fold_add_ok {f : Bx → T3} {c : Bx → Int} : ∀ {ks : List Bx} {t : T3} {m : Int}, T3Ok t m → (∀ k ∈ ks, T3Ok (f k) (c k)) → T3Ok ((ks.map f).foldl T3.add t) (m + (ks.map c).sum)
  | [], t, m, h, _ => by simpa using h
  | k :: ks, t, m, h, hk => by
    rw [List.map_cons, List.foldl_cons, List.map_cons, List.sum_cons, ← Int.add_assoc]
    exact fold_add_ok (h.add (hk k List.mem_cons_self)) fun x hx => hk x (List.mem_cons_of_mem _ hx)
theorem fold_mx_ok {f : Bx → T3} {m : Int} : ∀ {ks : List Bx} {t : T3}, T3Ok t m → (∀ k ∈ ks, T3Ok (f k) m) → T3Ok ((ks.map f).foldl T3.mx t) m
  | [], t, h, _ => h
  | k :: ks, t, h, hk => by
    rw [List.map_cons, List.foldl_cons]
    exact fold_mx_ok (h.mx (hk k List.mem_cons_self)) fun x hx => hk x (List.mem_cons_of_mem _ hx)
def capB (n : Nat) : Int := 2000000 * n - 1000000
theorem caps_sum : ∀ ks : List Bx, (ks.map fun k => capB k.mn).sum = 2000000 * (Bx.mns ks : Int) - 1000000 * ks.length
  | [] => by rw [Bx.mns]; rfl
  | k :: ks => by
    rw [List.map_cons, List.sum_cons, caps_sum ks, Bx.mns, List.length_cons]
    unfold capB
    omega
theorem acr_ok : ∀ {n : Nat} {b : Bx}, BxOk b → b.dp ≤ n → T3Ok b.acr (capB b.mn)
  | 0, b, _, hn => by have := dp_pos b; omega
  | n + 1, b, ok, hn => by
    have ih : ∀ k ∈ b.kids, T3Ok k.acr (capB k.mn) := fun k hk => acr_ok (n := n) (b := k) (ok.kid hk) (by have := kid_dp hk; omega)
    cases ok with
    | @leaf k b l g w s hk hb hl hlb hg hw hs =>
      rw [Bx.acr, Bx.mn]
      obtain ⟨b0, b1⟩ := hb
      refine ⟨hl, hlb, by show b ≤ capB 1; unfold capB; omega, fun n e => ?_⟩
      have := hg n e
      show b ≤ n ∧ n ≤ capB 1
      unfold capB
      omega
    | box hw hs =>
      rw [Bx.acr, Bx.mn]
      exact .nil (by unfold capB; omega)
    | @pad k y w s hk hn' hw hs =>
      rw [Bx.acr, Bx.mn]
      obtain ⟨y0, y1⟩ := hn'
      obtain ⟨a1, a2, a3, a4⟩ := ih k List.mem_cons_self
      refine ⟨by show 0 ≤ k.acr.l + 2 * y; omega, by show k.acr.l + 2 * y ≤ k.acr.b + 2 * y; omega, ?_, fun n e => ?_⟩
      · show k.acr.b + 2 * y ≤ capB (k.mn + 1)
        unfold capB at a3 ⊢
        omega
      · have e : k.acr.g.map (· + 2 * y) = some n := e
        cases hg : k.acr.g with
        | none => rw [hg] at e; cases e
        | some q =>
          rw [hg] at e
          cases e
          have := a4 q hg
          show k.acr.b + 2 * y ≤ q + 2 * y ∧ q + 2 * y ≤ capB (k.mn + 1)
          unfold capB at this ⊢
          omega
    | @line c ks y w s hk hl hn' hw hs =>
      rw [Bx.acr, Bx.mn]
      obtain ⟨y0, y1⟩ := hn'
      have hcap : (0 : Int) ≤ capB (Bx.mns ks + 1) := by unfold capB; omega
      cases c with
      | true =>
        simp only [if_true]
        rw [acrs_map]
        cases ks with
        | nil => exact .nil hcap
        | cons k ks =>
          have hc : ∀ x ∈ k :: ks, T3Ok x.acr (capB (Bx.mns (k :: ks) + 1)) := fun x hx => (ih x hx).mono (by have := mns_le hx; unfold capB; omega)
          rw [List.map_cons, colT]
          exact fold_mx_ok (hc k List.mem_cons_self) fun x hx => hc x (List.mem_cons_of_mem _ hx)
      | false =>
        simp only [Bool.false_eq_true, if_false]
        rw [effs_map]
        by_cases h0 : ks = []
        · subst h0; exact .nil hcap
        · have hlp : 0 < ks.length := List.length_pos_iff.mpr h0
          rw [rowT, if_neg (fun e => h0 (List.map_eq_nil_iff.mp e)), List.length_map]
          generalize hg0 : y * ((ks.length : Int) - 1) = g0
          have g1 : 0 ≤ g0 := by rw [← hg0]; exact Int.mul_nonneg y0 (by omega)
          have g2 : g0 ≤ 1000000 * ((ks.length : Int) - 1) := by rw [← hg0]; exact Int.mul_le_mul_of_nonneg_right y1 (by omega)
          have h1 : T3Ok ⟨g0, g0, some g0⟩ g0 := ⟨g1, Int.le_refl _, Int.le_refl _, fun n e => by cases e; exact ⟨Int.le_refl _, Int.le_refl _⟩⟩
          refine (fold_add_ok (f := Bx.eff) (c := fun k => capB k.mn) h1 fun k hk => (ih k hk).eff _ _).mono ?_
          rw [caps_sum]
          show g0 + (2000000 * (Bx.mns ks : Int) - 1000000 * ks.length) ≤ capB (Bx.mns ks + 1)
          unfold capB
          omega
/-- a box within a row as a part -/
def bRow (k : Bx) : Row := ⟨k.acr.b, k.acr.l, k.acr.g, k.w, k.s⟩
theorem bRow_ok {k : Bx} (ok : BxOk k) (hm : k.mn ≤ 60) : ROk (bRow k) := by
  have h := acr_ok ok (Nat.le_refl _)
  have hb : capB k.mn ≤ 1000000000000 := by unfold capB; omega
  obtain ⟨w0, w1⟩ := ok.w
  obtain ⟨s0, s1⟩ := ok.s
  have h1 := h.l0; have h2 := h.lb; have h3 := h.bm
  refine ⟨h1, h2, by show k.acr.b ≤ _; omega, ?_, w0, w1, s0, s1⟩
  show oD k.acr.g = .non ∨ _
  cases hg : k.acr.g with
  | none => exact .inl rfl
  | some n =>
    have := h.g n hg
    exact .inr ⟨n, by show oD k.acr.g = _; rw [hg]; rfl, by show k.acr.b ≤ n; omega, by omega⟩
/-- held between a least and a greatest -/
def heldW (t : T3) (w : Int) : Int := max t.l (match t.g with | none => w | some g => min w g)
def gapsN (n : Int) (ks : List Bx) : Int := n * (if (ks.length : Int) - 1 > 0 then (ks.length : Int) - 1 else 0)

abbrev s_held_wide : Stmt := top 50
theorem sc_held_wide : FnScope ["three", "wide"] ["three", "wide"] (defScope s_held_wide) := ⟨rfl, rfl, rfl, by decide +kernel, rfl, by decide +kernel, by decide +kernel⟩
def sp_held_wide : Sp := fun vs H Q _ => ∃ F M v, ∃ (t : T3) (x : Int), vs = [v, .int x] ∧ Wf F H M ∧ Rk F M v (t3D t) ∧ Q (.int (heldW t x)) H
theorem n_held {F : List (V × D)} {H : Hp} {M : List ME} {v : V} {t : T3} {x : Int} {Q : VK} {E : XK} (w : Wf F H M) (hv : Rk F M v (t3D t)) (q : Q (.int (heldW t x)) H) : sp_held_wide ([v, .int x] ++ []) H Q E := ⟨F, M, v, t, x, rfl, w, hv, q⟩

theorem ok_held_wide {f : Addr} {fd : FuncData} (F : Fun K "held_wide" "held_wide" s_held_wide f fd) (B : Bn mg)  : FnOk P wd K mg base CX0 1 f fd ["three", "wide"] sp_held_wide := by
  refine F.ok sc_held_wide (fun vs H Q E h => ?_) (fun cdv A outer s H vs Q E hr h => ?_)
  · obtain ⟨F, M, v, t, x, rfl, w, hv, k⟩ := h
    all_goals rfl
  · obtain ⟨F, M, v, t, x, rfl, w, hv, k⟩ := h
    refine ⟨_, (pss_cons (ps_if (pt_cmp (pc_notN (pe_ix (k_ix (K := K) rfl) (pv 0) pe_int (fun _ _ => rfl)))) (pss_one (ps_set (i := 1) sc_held_wide.nd rfl (Or.inl rfl) (pe_callB (k_min (K := K) rfl rfl) (by rfl) B.min_ (by decide +kernel) (pa_cons (pv 1) (pa_cons (pe_ix (k_ix (K := K) rfl) (pv 0) pe_int (fun _ _ => rfl)) pa_nil))))) pss_nil)
      (pss_one (ps_ret (pe_callB (k_max (K := K) rfl rfl) (by rfl) B.max_ (by decide +kernel) (pa_cons (pe_ix (k_ix (K := K) rfl) (pv 0) pe_int (fun _ _ => rfl)) (pa_cons (pv 1) pa_nil)))))), ?_⟩
    try dsimp only [cxOf, Cx.nox, Cx.wish, Cx.blk]
    obtain ⟨l, b, g⟩ := t
    cases g with
    | none =>
      have hv : Rk F M v (.tup [.int l, .int b, .non]) := hv
      wtm_at "n"
      rw [show heldW ⟨l, b, none⟩ x = if x > l then x else l by show max l x = _; split <;> omega] at k
      exact k
    | some g =>
      have hv : Rk F M v (.tup [.int l, .int b, .int g]) := hv
      wtm_at "n"
      rw [show heldW ⟨l, b, some g⟩ x = if (if g < x then g else x) > l then (if g < x then g else x) else l by show max l (min x g) = _; split <;> split <;> omega] at k
      exact k
abbrev s_Column_across : Stmt := inClass (top 55) 1
theorem sc_Column_across : FnScope ["self"] ["self"] (defScope s_Column_across) := ⟨rfl, rfl, rfl, by decide +kernel, rfl, by decide +kernel, by decide +kernel⟩
def sp_Column_across (CB CL CR CC CP : Addr) : Sp := fun vs H Q _ => ∃ F M v, ∃ (ks : List Bx) (n p s : Int), vs = [v] ∧ Wf F H M ∧ Rk F M v (bxD CB CL CR CC CP (.line true ks n p s)) ∧ ∀ r H', Wf ((r, t3D (colT (Bx.acrs ks))) :: F) H' M → Q r H'

theorem ok_Column_across {f : Addr} {fd : FuncData} (F : Fun K "across" "Column.across" s_Column_across f fd) (B : Bn mg) (o_Column : OwnC K C_Column) (n_Column : ∀ f ∈ (["boxes", "gap", "grow", "shrink", "deep", "many", "three"] : List Str), NoAttr K C_Column f)  : FnOk P wd K mg base CX0 1 f fd ["self"] (sp_Column_across C_Box C_Leaf C_Row C_Column C_Pad) := by
  refine F.ok sc_Column_across (fun vs H Q E h => ?_) (fun cdv A outer s H vs Q E hr h => ?_)
  · obtain ⟨F, M, v, ks, n, p, s, rfl, w, hv, k⟩ := h
    all_goals rfl
  · obtain ⟨F, M, v, ks, n, p, s, rfl, w, hv, k⟩ := h
    refine ⟨_, (pss_one (ps_ret (kpe_fld (K := K) rfl (pv 0) rfl))), ?_⟩
    try dsimp only [cxOf, Cx.nox, Cx.wish, Cx.blk]
    rw [bxD] at hv
    simp only [if_true, Bool.false_eq_true, if_false] at hv
    wtm_at "n"
    rename_i w
    exact k _ _ w
abbrev s_Row_across : Stmt := inClass (top 54) 1
theorem sc_Row_across : FnScope ["self"] ["self"] (defScope s_Row_across) := ⟨rfl, rfl, rfl, by decide +kernel, rfl, by decide +kernel, by decide +kernel⟩
def sp_Row_across (CB CL CR CC CP : Addr) : Sp := fun vs H Q _ => ∃ F M v, ∃ (ks : List Bx) (n p s : Int), vs = [v] ∧ Wf F H M ∧ Rk F M v (bxD CB CL CR CC CP (.line false ks n p s)) ∧ ∀ r H', Wf ((r, t3D (rowT n (Bx.effs ks))) :: F) H' M → Q r H'

theorem ok_Row_across {f : Addr} {fd : FuncData} (F : Fun K "across" "Row.across" s_Row_across f fd) (B : Bn mg) (o_Row : OwnC K C_Row) (n_Row : ∀ f ∈ (["boxes", "gap", "grow", "shrink", "deep", "many", "three"] : List Str), NoAttr K C_Row f)  : FnOk P wd K mg base CX0 1 f fd ["self"] (sp_Row_across C_Box C_Leaf C_Row C_Column C_Pad) := by
  refine F.ok sc_Row_across (fun vs H Q E h => ?_) (fun cdv A outer s H vs Q E hr h => ?_)
  · obtain ⟨F, M, v, ks, n, p, s, rfl, w, hv, k⟩ := h
    all_goals rfl
  · obtain ⟨F, M, v, ks, n, p, s, rfl, w, hv, k⟩ := h
    refine ⟨_, (pss_one (ps_ret (kpe_fld (K := K) rfl (pv 0) rfl))), ?_⟩
    try dsimp only [cxOf, Cx.nox, Cx.wish, Cx.blk]
    rw [bxD] at hv
    simp only [if_true, Bool.false_eq_true, if_false] at hv
    wtm_at "n"
    rename_i w
    exact k _ _ w
abbrev s_Leaf_across : Stmt := inClass (top 53) 1
theorem sc_Leaf_across : FnScope ["self"] ["self"] (defScope s_Leaf_across) := ⟨rfl, rfl, rfl, by decide +kernel, rfl, by decide +kernel, by decide +kernel⟩
def sp_Leaf_across (CB CL CR CC CP : Addr) : Sp := fun vs H Q _ => ∃ F M v, ∃ (key : Str) (b l : Int) (g : Option Int) (p s : Int), vs = [v] ∧ Wf F H M ∧ Rk F M v (bxD CB CL CR CC CP (.leaf key b l g p s)) ∧ ∀ r H', Wf ((r, t3D ⟨l, b, g⟩) :: F) H' M → Q r H'

theorem ok_Leaf_across {f : Addr} {fd : FuncData} (F : Fun K "across" "Leaf.across" s_Leaf_across f fd) (B : Bn mg) (o_Leaf : OwnC K C_Leaf) (n_Leaf : ∀ f ∈ (["key", "base", "least", "greatest", "grow", "shrink", "deep", "many"] : List Str), NoAttr K C_Leaf f)  : FnOk P wd K mg base CX0 1 f fd ["self"] (sp_Leaf_across C_Box C_Leaf C_Row C_Column C_Pad) := by
  refine F.ok sc_Leaf_across (fun vs H Q E h => ?_) (fun cdv A outer s H vs Q E hr h => ?_)
  · obtain ⟨F, M, v, key, b, l, g, p, s, rfl, w, hv, k⟩ := h
    all_goals rfl
  · obtain ⟨F, M, v, key, b, l, g, p, s, rfl, w, hv, k⟩ := h
    refine ⟨_, (pss_one (ps_ret (pe_tup (pa_cons (kpe_fld (K := K) rfl (pv 0) rfl) (pa_cons (kpe_fld (K := K) rfl (pv 0) rfl) (pa_cons (kpe_fld (K := K) rfl (pv 0) rfl) pa_nil)))))), ?_⟩
    try dsimp only [cxOf, Cx.nox, Cx.wish, Cx.blk]
    rw [bxD] at hv
    cases g with
    | none =>
      rw [show oD none = .non from rfl] at hv
      wtm_at "n"
      rename_i w
      exact k _ _ w
    | some g =>
      rw [show oD (some g) = .int g from rfl] at hv
      wtm_at "n"
      rename_i w
      exact k _ _ w
abbrev s_Pad_across : Stmt := inClass (top 56) 1
theorem sc_Pad_across : FnScope ["self", "least", "base", "greatest"] ["self"] (defScope s_Pad_across) := ⟨rfl, rfl, rfl, by decide +kernel, rfl, by decide +kernel, by decide +kernel⟩
def sp_Pad_across (CB CL CR CC CP : Addr) (m : Nat) : Sp := fun vs H Q _ => ∃ F M v, ∃ (b : Bx) (n p s : Int), vs = [v] ∧ Wf F H M ∧ Rk F M v (bxD CB CL CR CC CP (.pad b n p s)) ∧ b.dp + 1 ≤ m ∧ BxOk (.pad b n p s) ∧ ∀ r H', Wf ((r, t3D (b.acr.sh (2 * n))) :: F) H' M → Q r H'
theorem no0_Pad_across {CB CL CR CC CP : Addr} {vs : List V} {H : Hp} {Q : VK} {E : XK} : ¬ sp_Pad_across CB CL CR CC CP 0 vs H Q E := fun ⟨_, _, _, _, _, _, _, _, _, _, h, _⟩ => by omega
theorem n_dynAcr {CB CL CR CC CP : Addr} {F : List (V × D)} {H : Hp} {M : List ME} {v : V} {b : Bx} {m : Nat} {Q : VK} {E : XK} (w : Wf F H M) (hv : Rk F M v (bxD CB CL CR CC CP b)) (ok : BxOk b) (hm : b.dp ≤ m) (q : ∀ r H', Wf ((r, t3D b.acr) :: F) H' M → Q r H') :
    ∃ p ∈ ([(CB, sp_Box_across), (CL, sp_Leaf_across CB CL CR CC CP), (CR, sp_Row_across CB CL CR CC CP), (CC, sp_Column_across CB CL CR CC CP), (CP, sp_Pad_across CB CL CR CC CP m)] : List (Addr × Sp)), MethQ p.1 "across" v H (p.2 [v] H Q E) := by
  have nm := bx_nm (CB := CB) (CL := CL) (CR := CR) (CC := CC) (CP := CP) (b := b) (m := "across") (by simp)
  cases b with
  | box p s =>
    have hv' := hv
    rw [bxD] at hv'
    exact ⟨_, .head _, n_meth w hv' (nm _ _ (by rw [bxD])) ⟨F, M, v, rfl, w, by rw [Bx.acr] at q; exact q⟩⟩
  | leaf key b l g p s =>
    have hv' := hv
    rw [bxD] at hv'
    exact ⟨_, .tail _ (.head _), n_meth w hv' (nm _ _ (by rw [bxD])) ⟨F, M, v, key, b, l, g, p, s, rfl, w, hv, by rw [Bx.acr] at q; exact q⟩⟩
  | pad k n p s =>
    have hv' := hv
    rw [bxD] at hv'
    rw [Bx.dp] at hm
    exact ⟨_, .tail _ (.tail _ (.tail _ (.tail _ (.head _)))), n_meth w hv' (nm _ _ (by rw [bxD])) ⟨F, M, v, k, n, p, s, rfl, w, hv, hm, ok, by rw [Bx.acr] at q; exact q⟩⟩
  | line c ks n p s =>
    have hv' := hv
    rw [bxD] at hv'
    rw [Bx.acr] at q
    cases c
    · exact ⟨_, .tail _ (.tail _ (.head _)), n_meth w hv' (nm _ _ (by rw [bxD])) ⟨F, M, v, ks, n, p, s, rfl, w, hv, q⟩⟩
    · exact ⟨_, .tail _ (.tail _ (.tail _ (.head _))), n_meth w hv' (nm _ _ (by rw [bxD])) ⟨F, M, v, ks, n, p, s, rfl, w, hv, q⟩⟩

theorem ok0_Pad_across {f : Addr} {fd : FuncData} (F : Fun K "across" "Pad.across" s_Pad_across f fd) : FnOk P wd K mg base CX0 2 f fd ["self"] (sp_Pad_across C_Box C_Leaf C_Row C_Column C_Pad 0) := F.ok sc_Pad_across (fun vs H Q E h => (no0_Pad_across h).elim) (fun cdv A outer s H vs Q E hr h => (no0_Pad_across h).elim)
theorem ok_Pad_across {dep : Nat} {f : Addr} {fd : FuncData} (F : Fun K "across" "Pad.across" s_Pad_across f fd) (B : Bn mg) (t_Column_across : Met P wd K mg base "across" C_Column 1 ["self"] [] (sp_Column_across C_Box C_Leaf C_Row C_Column C_Pad)) (t_Row_across : Met P wd K mg base "across" C_Row 1 ["self"] [] (sp_Row_across C_Box C_Leaf C_Row C_Column C_Pad)) (t_Leaf_across : Met P wd K mg base "across" C_Leaf 1 ["self"] [] (sp_Leaf_across C_Box C_Leaf C_Row C_Column C_Pad)) (t_Box_across : Met P wd K mg base "across" C_Box 1 ["self"] [] sp_Box_across) (o_Pad : OwnC K C_Pad) (n_Pad : ∀ f ∈ (["box", "by", "grow", "shrink", "deep", "many"] : List Str), NoAttr K C_Pad f) (t_Pad_across : Met P wd K mg base "across" C_Pad (2 + dep) ["self"] [] (sp_Pad_across C_Box C_Leaf C_Row C_Column C_Pad dep))  : FnOk P wd K mg base CX0 (2 + dep + 1) f fd ["self"] (sp_Pad_across C_Box C_Leaf C_Row C_Column C_Pad (dep + 1)) := by
  refine F.ok sc_Pad_across (fun vs H Q E h => ?_) (fun cdv A outer s H vs Q E hr h => ?_)
  · obtain ⟨F, M, v, b, n, p, s, rfl, w, hv, hd, ok, k⟩ := h
    all_goals rfl
  · obtain ⟨F, M, v, b, n, p, s, rfl, w, hv, hd, ok, k⟩ := h
    refine ⟨_, (pss_cons (ps_asg (pe_dyn0 (kpe_fld (K := K) rfl (pv 0) rfl) (dyn_cons t_Box_across (hr.mono (by omega)) (dyn_cons t_Leaf_across (hr.mono (by omega)) (dyn_cons t_Row_across (hr.mono (by omega)) (dyn_cons t_Column_across (hr.mono (by omega)) (dyn_cons t_Pad_across (hr.mono (by omega)) dyn_nil)))))) (kpg_tup (K := K) (n := 3) rfl rfl (pgs_cons (pg_name (i := 1) sc_Pad_across.nd rfl (Or.inl rfl)) (pgs_cons (pg_name (i := 2) sc_Pad_across.nd rfl (Or.inl rfl)) (pgs_cons (pg_name (i := 3) sc_Pad_across.nd rfl (Or.inl rfl)) pgs_nil)))))
      (pss_cons (ps_if (pt_cmp (pc_notN (pv 3))) (pss_one (ps_aug (i := 3) sc_Pad_across.nd rfl (Or.inl rfl) (pe_op uo_mul pe_int (kpe_fld (K := K) rfl (pv 0) rfl)) ip_add)) pss_nil)
      (pss_one (ps_ret (pe_tup (pa_cons (pe_op (k_add (K := K) rfl) (pv 1) (pe_op uo_mul pe_int (kpe_fld (K := K) rfl (pv 0) rfl))) (pa_cons (pe_op (k_add (K := K) rfl) (pv 2) (pe_op uo_mul pe_int (kpe_fld (K := K) rfl (pv 0) rfl))) (pa_cons (pv 3) pa_nil)))))))), ?_⟩
    try dsimp only [cxOf, Cx.nox, Cx.wish, Cx.blk]
    rw [show L2.start (["self", "least", "base", "greatest"] : List Str) [v] = [some v, none, none, none] from rfl]
    have hv0 := hv
    rw [bxD] at hv
    have hn : Sm n := by cases ok; assumption
    have hkd : BxOk b := by cases ok; assumption
    obtain ⟨n0, n1⟩ := id hn
    have b2 : Bd 2 2 := Bd.of 2 (by decide) (by decide)
    have bn : Bd 21 n := Bd.of 1000000 (by omega) (by decide)
    wtm_at "n"
    refine s_dyn ?_
    wtm_at "n"
    rename_i w
    refine n_dynAcr (b := b) w (.mem List.mem_cons_self) hkd (by omega) fun r H1 w => ?_
    generalize b.acr = T at *
    obtain ⟨tl, tb, tg⟩ := T
    refine n_gtup3 w (.mem List.mem_cons_self) fun y1 y2 y3 w => ?_
    obtain ⟨rfl, w1⟩ := w.eq0
    obtain ⟨rfl, w2⟩ := w1.eq0
    clear w w1
    obtain ⟨rfl, w⟩ := w2.eqO
    clear w2
    cases tg with
    | none =>
      simp only [oV]
      wtm_at "n"
      refine s_mul (Bd.cm b2 bn) ?_
      wtm_at "n"
      refine s_mul (Bd.cm b2 bn) ?_
      wtm_at "n"
      rename_i w
      exact k _ _ (by wtm_at "wf1")
    | some g =>
      simp only [oV]
      wtm_at "n"
      refine s_mul (Bd.cm b2 bn) ?_
      wtm_at "n"
      refine s_mul (Bd.cm b2 bn) ?_
      wtm_at "n"
      refine s_mul (Bd.cm b2 bn) ?_
      wtm_at "n"
      rename_i w
      exact k _ _ (by wtm_at "wf1")
abbrev s_row_across : Stmt := top 51
theorem sc_row_across : FnScope ["boxes", "gap", "least", "base", "greatest", "box", "low", "own", "top"] ["boxes", "gap"] (defScope s_row_across) := ⟨rfl, rfl, rfl, by decide +kernel, rfl, by decide +kernel, by decide +kernel⟩
def sp_row_across (CB CL CR CC CP : Addr) : Sp := fun vs H Q _ => ∃ F M v, ∃ (ks : List Bx) (n : Int), vs = [v, .int n] ∧ Wf F H M ∧ Rk F M v (.lst (ks.map (bxD CB CL CR CC CP))) ∧ (∀ k ∈ ks, BxOk k) ∧ ks.length ≤ 8 ∧ Bx.dps ks + 1 ≤ 6 ∧ Sm n ∧ ∀ r H', Wf ((r, t3D (rowT n (Bx.effs ks))) :: F) H' M → Q r H'
theorem n_rowacr {CB CL CR CC CP : Addr} {F : List (V × D)} {H : Hp} {M : List ME} {v : V} {ks : List Bx} {n : Int} {Q : VK} {E : XK} (w : Wf F H M) (hv : Rk F M v (.lst (ks.map (bxD CB CL CR CC CP)))) (ok : ∀ k ∈ ks, BxOk k) (hl : ks.length ≤ 8) (hd : Bx.dps ks + 1 ≤ 6) (hn : Sm n) (q : ∀ r H', Wf ((r, t3D (rowT n (Bx.effs ks))) :: F) H' M → Q r H') : sp_row_across CB CL CR CC CP ([v, .int n] ++ []) H Q E := ⟨F, M, v, ks, n, rfl, w, hv, ok, hl, hd, hn, q⟩

theorem ok_row_across {f : Addr} {fd : FuncData} (F : Fun K "row_across" "row_across" s_row_across f fd) (B : Bn mg) (c_gaps_of : Cal P wd K mg base "gaps_of" 1 ["boxes", "gap"] [] sp_gaps_of) (t_Pad_across : Met P wd K mg base "across" C_Pad 8 ["self"] [] (sp_Pad_across C_Box C_Leaf C_Row C_Column C_Pad 6)) (t_Column_across : Met P wd K mg base "across" C_Column 1 ["self"] [] (sp_Column_across C_Box C_Leaf C_Row C_Column C_Pad)) (t_Row_across : Met P wd K mg base "across" C_Row 1 ["self"] [] (sp_Row_across C_Box C_Leaf C_Row C_Column C_Pad)) (t_Leaf_across : Met P wd K mg base "across" C_Leaf 1 ["self"] [] (sp_Leaf_across C_Box C_Leaf C_Row C_Column C_Pad)) (t_Box_across : Met P wd K mg base "across" C_Box 1 ["self"] [] sp_Box_across) (o_Box : OwnC K C_Box) (n_Box : ∀ f ∈ (["grow", "shrink", "deep", "many"] : List Str), NoAttr K C_Box f) (o_Leaf : OwnC K C_Leaf) (n_Leaf : ∀ f ∈ (["key", "base", "least", "greatest", "grow", "shrink", "deep", "many"] : List Str), NoAttr K C_Leaf f) (o_Row : OwnC K C_Row) (n_Row : ∀ f ∈ (["boxes", "gap", "grow", "shrink", "deep", "many", "three"] : List Str), NoAttr K C_Row f) (o_Column : OwnC K C_Column) (n_Column : ∀ f ∈ (["boxes", "gap", "grow", "shrink", "deep", "many", "three"] : List Str), NoAttr K C_Column f) (o_Pad : OwnC K C_Pad) (n_Pad : ∀ f ∈ (["box", "by", "grow", "shrink", "deep", "many"] : List Str), NoAttr K C_Pad f)  : FnOk P wd K mg base CX0 9 f fd ["boxes", "gap"] (sp_row_across C_Box C_Leaf C_Row C_Column C_Pad) := by
  refine F.ok sc_row_across (fun vs H Q E h => ?_) (fun cdv A outer s H vs Q E hr h => ?_)
  · obtain ⟨F, M, v, ks, n, rfl, w, hv, ok, hl, hdp, hn, k⟩ := h
    all_goals rfl
  · obtain ⟨F, M, v, ks, n, rfl, w, hv, ok, hl, hdp, hn, k⟩ := h
    refine ⟨_, (pss_cons (ps_if (pt_cmpR (k_eqE (K := K) rfl hr.units) (pv 0) (pe_lst pa_nil) (nomark _)) (pss_one (ps_ret (pe_tup (pa_cons pe_int (pa_cons pe_int (pa_cons pe_non pa_nil)))))) pss_nil)
      (pss_cons (ps_set (i := 2) sc_row_across.nd rfl (Or.inl rfl) (pe_cal c_gaps_of (hr.mono (by decide)) (by rfl) (pa_cons (pv 0) (pa_cons (pv 1) pa_nil))))
      (pss_cons (ps_set (i := 3) sc_row_across.nd rfl (Or.inl rfl) (pv 2))
      (pss_cons (ps_set (i := 4) sc_row_across.nd rfl (Or.inl rfl) (pv 2))
      (pss_cons (ps_for PassesOwn.never rfl (kpi_list (K := K) rfl (pv 0)) (pg_name (i := 5) sc_row_across.nd rfl (Or.inl rfl)) (pss_cons (ps_asg (pe_dyn0 (pv 5) (dyn_cons t_Box_across (hr.mono (by decide)) (dyn_cons t_Leaf_across (hr.mono (by decide)) (dyn_cons t_Row_across (hr.mono (by decide)) (dyn_cons t_Column_across (hr.mono (by decide)) (dyn_cons t_Pad_across (hr.mono (by decide)) dyn_nil)))))) (kpg_tup (K := K) (n := 3) rfl rfl (pgs_cons (pg_name (i := 6) sc_row_across.nd rfl (Or.inl rfl)) (pgs_cons (pg_name (i := 7) sc_row_across.nd rfl (Or.inl rfl)) (pgs_cons (pg_name (i := 8) sc_row_across.nd rfl (Or.inl rfl)) pgs_nil)))))
      (pss_cons (ps_if (pt_cmpR (k_eqE (K := K) rfl hr.units) (kpe_fld (K := K) rfl (pv 5) rfl) pe_int (nomark _)) (pss_one (ps_set (i := 6) sc_row_across.nd rfl (Or.inl rfl) (pv 7))) pss_nil)
      (pss_cons (ps_if (pt_cmpR (k_eqE (K := K) rfl hr.units) (kpe_fld (K := K) rfl (pv 5) rfl) pe_int (nomark _)) (pss_one (ps_set (i := 8) sc_row_across.nd rfl (Or.inl rfl) (pv 7))) pss_nil)
      (pss_cons (ps_aug (i := 2) sc_row_across.nd rfl (Or.inl rfl) (pv 6) ip_add)
      (pss_cons (ps_aug (i := 3) sc_row_across.nd rfl (Or.inl rfl) (pv 7) ip_add)
      (pss_one (ps_if (pt_cmp (pc_notN (pv 4))) (pss_one (ps_set (i := 4) sc_row_across.nd rfl (Or.inl rfl) (pe_ifExp (pt_cmp (pc_isN (pv 8))) pe_non (pe_op (k_add (K := K) rfl) (pv 4) (pv 8))))) pss_nil))))))))
      (pss_one (ps_ret (pe_tup (pa_cons (pv 2) (pa_cons (pv 3) (pa_cons (pv 4) pa_nil))))))))))), ?_⟩
    try dsimp only [cxOf, Cx.nox, Cx.wish, Cx.blk]
    rw [show L2.start (["boxes", "gap", "least", "base", "greatest", "box", "low", "own", "top"] : List Str) [v, .int n] = [some v, some (.int n), none, none, none, none, none, none, none] from rfl]
    have bk : BxK K C_Box C_Leaf C_Row C_Column C_Pad := ⟨o_Box, o_Leaf, o_Row, o_Column, o_Pad, na_sub n_Box (by decide +kernel), na_sub n_Leaf (by decide +kernel), na_sub n_Row (by decide +kernel), na_sub n_Column (by decide +kernel), na_sub n_Pad (by decide +kernel)⟩
    wtm_at "n"
    rename_i p0 H0 w0
    refine n_eqE w0 (by ktf_call "rk") (.ml List.mem_cons_self) ?_
    have w : Wf F H0 M := w0.sub (fun f hf => .mem hf) (List.sublist_cons_self _ _)
    clear w0
    rw [show (List.map (bxD C_Box C_Leaf C_Row C_Column C_Pad) ks).isEmpty = decide (ks = []) by cases ks <;> rfl]
    by_cases he : ks = []
    · subst he
      rw [decide_eq_true rfl]
      wtm_at "n"
      rename_i p1 H1 w1
      rw [show rowT n (Bx.effs []) = T3.nil from rfl] at k
      exact k _ _ w1
    rw [decide_eq_false he]
    have hlp : 0 < ks.length := List.length_pos_iff.mpr he
    wtm_at "n"
    refine n_gapsof w hv hn (by rw [List.length_map]; exact hl) ?_
    rw [List.length_map, show n * (if (ks.length : Int) - 1 > 0 then (ks.length : Int) - 1 else 0) = n * ((ks.length : Int) - 1) by split <;> (first | rfl | (congr 1; omega))]
    wtm_at "n"
    generalize hg0 : n * ((ks.length : Int) - 1) = g0
    refine n_forL w (fun i σ' F' M' => ∃ (t : T3) (x5 x6 x7 x8 : Option V), t = (Bx.effs (ks.take i)).foldl T3.add ⟨g0, g0, some g0⟩ ∧ σ' = [some v, some (.int n), some (.int t.l), some (.int t.b), some (oV t.g), x5, x6, x7, x8] ∧ F = F' ∧ M = M') (fun i σ F' M' h => by
      obtain ⟨_, _, _, _, _, _, _, rfl, rfl⟩ := h
      exact hv) ⟨_, _, _, _, _, rfl, rfl, rfl, rfl⟩ ?_ ?_
    rotate_left
    · clear w
      rintro σ' H' F' M' ⟨t, x5, x6, x7, x8, rfl, rfl, rfl, rfl⟩ w
      rw [List.length_map, List.take_length]
      have e : List.foldl T3.add ⟨g0, g0, some g0⟩ (Bx.effs ks) = rowT n (Bx.effs ks) := by
        rw [rowT, if_neg (by rw [effs_map]; simpa using he), effs_map, List.length_map, hg0]
      rw [e]
      generalize rowT n (Bx.effs ks) = t at k
      obtain ⟨tl, tb, tg⟩ := t
      cases tg with
      | none =>
        simp only [oV]
        wtm_at "n"
        rename_i w
        exact k _ _ w
      | some g =>
        simp only [oV]
        wtm_at "n"
        rename_i w
        exact k _ _ w
    clear w
    rintro i d x σ' H' F' M' hd' ⟨t, x5, x6, x7, x8, ht, rfl, rfl, rfl⟩ w
    obtain ⟨b, hb, rfl⟩ := map_get hd'
    have hbm : b ∈ ks := List.mem_of_getElem? hb
    have hdb := dps_le hbm
    rw [take_snoc hb, effs_map, List.map_append, ← effs_map, List.foldl_append, ← ht]
    clear ht
    wtm_at "n"
    refine s_dyn ?_
    wtm_at "n"
    refine n_dynAcr (b := b) w (.mem List.mem_cons_self) (ok b hbm) (by omega) fun r H1 w => ?_
    generalize hT : b.acr = T at w
    obtain ⟨tl, tb, tg⟩ := T
    have hx : (x, bxD C_Box C_Leaf C_Row C_Column C_Pad b) ∈ ((r, t3D ⟨tl, tb, tg⟩) :: (x, bxD C_Box C_Leaf C_Row C_Column C_Pad b) :: F) := .tail _ (.head _)
    refine n_gtup3 w (.mem List.mem_cons_self) fun y1 y2 y3 w => ?_
    obtain ⟨rfl, w1⟩ := w.eq0
    obtain ⟨rfl, w2⟩ := w1.eq0
    clear w w1
    obtain ⟨rfl, w⟩ := w2.eqO
    clear w2
    have w := w.tail
    wtm_at "sq2"
    simp only [List.set_cons_succ, List.set_cons_zero]
    with_reducible refine s_midX (fun σ' H' => σ' = [some v, some (.int n), some (.int t.l), some (.int t.b), some (oV t.g), some x, some (.int (if b.s = 0 then tb else tl)), some (.int tb), some (oV tg)] ∧ Wf ((x, bxD C_Box C_Leaf C_Row C_Column C_Pad b) :: F) H' M) ?_ (fun N fin => ?_)
    rotate_left
    · wtm_at "n"
      refine n_bxshrink bk w (.mem List.mem_cons_self) ?_
      wtm_at "n"
      refine .inl ?_
      wtm_at "n"
      wtm_at "fork"
      · rename_i hs
        wtm_at "n"
        exact fin _ _ ⟨by rw [if_pos hs]; rfl, w⟩
      · rename_i hs
        wtm_at "n"
        exact fin _ _ ⟨by rw [if_neg hs], w⟩
    clear w
    rintro σ' H' ⟨rfl, w⟩
    wtm_at "sq2"
    with_reducible refine s_midX (fun σ' H' => σ' = [some v, some (.int n), some (.int t.l), some (.int t.b), some (oV t.g), some x, some (.int (if b.s = 0 then tb else tl)), some (.int tb), some (oV (if b.w = 0 then some tb else tg))] ∧ Wf ((x, bxD C_Box C_Leaf C_Row C_Column C_Pad b) :: F) H' M) ?_ (fun N fin => ?_)
    rotate_left
    · wtm_at "n"
      refine n_bxgrow bk w (.mem List.mem_cons_self) ?_
      wtm_at "n"
      refine .inl ?_
      wtm_at "n"
      wtm_at "fork"
      · rename_i hs
        wtm_at "n"
        exact fin _ _ ⟨by rw [if_pos hs]; rfl, w⟩
      · rename_i hs
        wtm_at "n"
        exact fin _ _ ⟨by rw [if_neg hs], w⟩
    clear w
    rintro σ' H' ⟨rfl, w⟩
    have he : Bx.eff b = ⟨if b.s = 0 then tb else tl, tb, if b.w = 0 then some tb else tg⟩ := by rw [Bx.eff, hT]; rfl
    generalize (if b.s = 0 then tb else tl) = ul at *
    generalize (if b.w = 0 then some tb else tg) = ug at *
    obtain ⟨t1, t2, t3⟩ := t
    rw [List.map_cons, List.map_nil, List.foldl_cons, List.foldl_nil, he]
    have w := w.tail
    cases t3 with
    | none =>
      simp only [oV]
      wtm_at "n"
      exact ⟨_, _, ⟨_, _, _, _, _, rfl, rfl, rfl, rfl⟩, w⟩
    | some g =>
      cases ug with
      | none =>
        simp only [oV]
        wtm_at "n"
        exact ⟨_, _, ⟨_, _, _, _, _, rfl, rfl, rfl, rfl⟩, w⟩
      | some u =>
        simp only [oV]
        wtm_at "n"
        exact ⟨_, _, ⟨_, _, _, _, _, rfl, rfl, rfl, rfl⟩, w⟩
abbrev s_column_across : Stmt := top 52
theorem sc_column_across : FnScope ["boxes", "least", "base", "greatest", "box", "low", "own", "top"] ["boxes"] (defScope s_column_across) := ⟨rfl, rfl, rfl, by decide +kernel, rfl, by decide +kernel, by decide +kernel⟩
def sp_column_across (CB CL CR CC CP : Addr) : Sp := fun vs H Q _ => ∃ F M v, ∃ ks : List Bx, vs = [v] ∧ Wf F H M ∧ Rk F M v (.lst (ks.map (bxD CB CL CR CC CP))) ∧ (∀ k ∈ ks, BxOk k) ∧ Bx.dps ks + 1 ≤ 6 ∧ ∀ r H', Wf ((r, t3D (colT (Bx.acrs ks))) :: F) H' M → Q r H'
theorem n_colacr {CB CL CR CC CP : Addr} {F : List (V × D)} {H : Hp} {M : List ME} {v : V} {ks : List Bx} {Q : VK} {E : XK} (w : Wf F H M) (hv : Rk F M v (.lst (ks.map (bxD CB CL CR CC CP)))) (ok : ∀ k ∈ ks, BxOk k) (hd : Bx.dps ks + 1 ≤ 6) (q : ∀ r H', Wf ((r, t3D (colT (Bx.acrs ks))) :: F) H' M → Q r H') : sp_column_across CB CL CR CC CP ([v] ++ []) H Q E := ⟨F, M, v, ks, rfl, w, hv, ok, hd, q⟩

theorem ok_column_across {f : Addr} {fd : FuncData} (F : Fun K "column_across" "column_across" s_column_across f fd) (B : Bn mg) (t_Pad_across : Met P wd K mg base "across" C_Pad 8 ["self"] [] (sp_Pad_across C_Box C_Leaf C_Row C_Column C_Pad 6)) (t_Column_across : Met P wd K mg base "across" C_Column 1 ["self"] [] (sp_Column_across C_Box C_Leaf C_Row C_Column C_Pad)) (t_Row_across : Met P wd K mg base "across" C_Row 1 ["self"] [] (sp_Row_across C_Box C_Leaf C_Row C_Column C_Pad)) (t_Leaf_across : Met P wd K mg base "across" C_Leaf 1 ["self"] [] (sp_Leaf_across C_Box C_Leaf C_Row C_Column C_Pad)) (t_Box_across : Met P wd K mg base "across" C_Box 1 ["self"] [] sp_Box_across) (o_Box : OwnC K C_Box) (n_Box : ∀ f ∈ (["grow", "shrink", "deep", "many"] : List Str), NoAttr K C_Box f) (o_Leaf : OwnC K C_Leaf) (n_Leaf : ∀ f ∈ (["key", "base", "least", "greatest", "grow", "shrink", "deep", "many"] : List Str), NoAttr K C_Leaf f) (o_Row : OwnC K C_Row) (n_Row : ∀ f ∈ (["boxes", "gap", "grow", "shrink", "deep", "many", "three"] : List Str), NoAttr K C_Row f) (o_Column : OwnC K C_Column) (n_Column : ∀ f ∈ (["boxes", "gap", "grow", "shrink", "deep", "many", "three"] : List Str), NoAttr K C_Column f) (o_Pad : OwnC K C_Pad) (n_Pad : ∀ f ∈ (["box", "by", "grow", "shrink", "deep", "many"] : List Str), NoAttr K C_Pad f)  : FnOk P wd K mg base CX0 9 f fd ["boxes"] (sp_column_across C_Box C_Leaf C_Row C_Column C_Pad) := by
  refine F.ok sc_column_across (fun vs H Q E h => ?_) (fun cdv A outer s H vs Q E hr h => ?_)
  · obtain ⟨F, M, v, ks, rfl, w, hv, ok, hdp, k⟩ := h
    all_goals rfl
  · obtain ⟨F, M, v, ks, rfl, w, hv, ok, hdp, k⟩ := h
    refine ⟨_, (pss_cons (ps_if (pt_cmpR (k_eqE (K := K) rfl hr.units) (pv 0) (pe_lst pa_nil) (nomark _)) (pss_one (ps_ret (pe_tup (pa_cons pe_int (pa_cons pe_int (pa_cons pe_non pa_nil)))))) pss_nil)
      (pss_cons (ps_asg (pe_dyn0 (pe_ix (k_ix (K := K) rfl) (pv 0) pe_int (fun _ _ => rfl)) (dyn_cons t_Box_across (hr.mono (by decide)) (dyn_cons t_Leaf_across (hr.mono (by decide)) (dyn_cons t_Row_across (hr.mono (by decide)) (dyn_cons t_Column_across (hr.mono (by decide)) (dyn_cons t_Pad_across (hr.mono (by decide)) dyn_nil)))))) (kpg_tup (K := K) (n := 3) rfl rfl (pgs_cons (pg_name (i := 1) sc_column_across.nd rfl (Or.inl rfl)) (pgs_cons (pg_name (i := 2) sc_column_across.nd rfl (Or.inl rfl)) (pgs_cons (pg_name (i := 3) sc_column_across.nd rfl (Or.inl rfl)) pgs_nil)))))
      (pss_cons (ps_for PassesOwn.never rfl (kpi_list (K := K) rfl (pe_slice (k_sl (K := K) rfl) (pv 0) (po_some pe_int) po_none)) (pg_name (i := 4) sc_column_across.nd rfl (Or.inl rfl)) (pss_cons (ps_asg (pe_dyn0 (pv 4) (dyn_cons t_Box_across (hr.mono (by decide)) (dyn_cons t_Leaf_across (hr.mono (by decide)) (dyn_cons t_Row_across (hr.mono (by decide)) (dyn_cons t_Column_across (hr.mono (by decide)) (dyn_cons t_Pad_across (hr.mono (by decide)) dyn_nil)))))) (kpg_tup (K := K) (n := 3) rfl rfl (pgs_cons (pg_name (i := 5) sc_column_across.nd rfl (Or.inl rfl)) (pgs_cons (pg_name (i := 6) sc_column_across.nd rfl (Or.inl rfl)) (pgs_cons (pg_name (i := 7) sc_column_across.nd rfl (Or.inl rfl)) pgs_nil)))))
      (pss_cons (ps_set (i := 1) sc_column_across.nd rfl (Or.inl rfl) (pe_callB (k_max (K := K) rfl rfl) (by rfl) B.max_ (by decide +kernel) (pa_cons (pv 1) (pa_cons (pv 5) pa_nil))))
      (pss_cons (ps_set (i := 2) sc_column_across.nd rfl (Or.inl rfl) (pe_callB (k_max (K := K) rfl rfl) (by rfl) B.max_ (by decide +kernel) (pa_cons (pv 2) (pa_cons (pv 6) pa_nil))))
      (pss_one (ps_if (pt_cmp (pc_notN (pv 3))) (pss_one (ps_set (i := 3) sc_column_across.nd rfl (Or.inl rfl) (pe_ifExp (pt_cmp (pc_isN (pv 7))) pe_non (pe_callB (k_max (K := K) rfl rfl) (by rfl) B.max_ (by decide +kernel) (pa_cons (pv 3) (pa_cons (pv 7) pa_nil)))))) pss_nil))))))
      (pss_one (ps_ret (pe_tup (pa_cons (pv 1) (pa_cons (pv 2) (pa_cons (pv 3) pa_nil))))))))), ?_⟩
    try dsimp only [cxOf, Cx.nox, Cx.wish, Cx.blk]
    rw [show L2.start (["boxes", "least", "base", "greatest", "box", "low", "own", "top"] : List Str) [v] = [some v, none, none, none, none, none, none, none] from rfl]
    wtm_at "n"
    rename_i p0 H0 w0
    refine n_eqE w0 (by ktf_call "rk") (.ml List.mem_cons_self) ?_
    have w : Wf F H0 M := w0.sub (fun f hf => .mem hf) (List.sublist_cons_self _ _)
    clear w0
    rcases ks with _ | ⟨b0, ks⟩
    · rw [show (List.map (bxD C_Box C_Leaf C_Row C_Column C_Pad) []).isEmpty = true from rfl]
      wtm_at "n"
      rename_i p1 H1 w1
      exact k _ _ (by rw [show colT (Bx.acrs []) = T3.nil from rfl]; exact w1)
    rw [show (List.map (bxD C_Box C_Leaf C_Row C_Column C_Pad) (b0 :: ks)).isEmpty = false from rfl]
    rw [List.map_cons] at hv
    wtm_at "n"
    refine s_dyn ?_
    wtm_at "n"
    rename_i x w
    have hd0 := dps_le (List.mem_cons_self : b0 ∈ b0 :: ks)
    refine n_dynAcr (b := b0) w (.mem List.mem_cons_self) (ok b0 List.mem_cons_self) (by omega) fun r H1 w => ?_
    generalize hT : b0.acr = T at w
    obtain ⟨tl, tb, tg⟩ := T
    refine n_gtup3 w (.mem List.mem_cons_self) fun y1 y2 y3 w => ?_
    obtain ⟨rfl, w1⟩ := w.eq0
    obtain ⟨rfl, w2⟩ := w1.eq0
    clear w w1
    obtain ⟨rfl, w⟩ := w2.eqO
    clear w2
    have w := w.tail.tail
    simp only [List.set_cons_succ, List.set_cons_zero]
    wtm_at "n"
    rename_i pl H2 w2
    rw [show cutD (bxD C_Box C_Leaf C_Row C_Column C_Pad b0 :: List.map (bxD C_Box C_Leaf C_Row C_Column C_Pad) ks) (some 1) none = ks.map (bxD C_Box C_Leaf C_Row C_Column C_Pad) from cutD_one] at w2
    refine n_forL w2 (fun i σ' F' M' => ∃ (t : T3) (x4 x5 x6 x7 : Option V), t = (Bx.acrs (ks.take i)).foldl T3.mx b0.acr ∧ σ' = [some v, some (.int t.l), some (.int t.b), some (oV t.g), x4, x5, x6, x7] ∧ F = F' ∧ M' = .ml pl (ks.map (bxD C_Box C_Leaf C_Row C_Column C_Pad)) :: M) (fun i σ F' M' h => by
      obtain ⟨_, _, _, _, _, _, _, rfl, rfl⟩ := h
      exact .ml List.mem_cons_self) ⟨⟨tl, tb, tg⟩, _, _, _, _, hT.symm, rfl, rfl, rfl⟩ ?_ ?_
    rotate_left
    · clear w2
      rintro σ' H' F' M' ⟨t, x4, x5, x6, x7, rfl, rfl, rfl, rfl⟩ w
      rw [List.length_map, List.take_length]
      rw [show colT (Bx.acrs (b0 :: ks)) = (Bx.acrs ks).foldl T3.mx b0.acr by rw [Bx.acrs, colT]] at k
      generalize (Bx.acrs ks).foldl T3.mx b0.acr = t at k
      obtain ⟨tl, tb, tg⟩ := t
      have w := w.sub (fun f hf => .mem hf) (List.sublist_cons_self _ _)
      cases tg with
      | none =>
        simp only [oV]
        wtm_at "n"
        rename_i w
        exact k _ _ w
      | some g =>
        simp only [oV]
        wtm_at "n"
        rename_i w
        exact k _ _ w
    clear w2
    rintro i d x σ' H' F' M' hd' ⟨t, x4, x5, x6, x7, ht, rfl, rfl, rfl⟩ w
    obtain ⟨b, hb, rfl⟩ := map_get hd'
    have hbm : b ∈ b0 :: ks := List.mem_cons_of_mem _ (List.mem_of_getElem? hb)
    have hdb := dps_le hbm
    rw [take_snoc hb, acrs_map, List.map_append, ← acrs_map, List.foldl_append, ← ht]
    clear ht
    wtm_at "n"
    refine s_dyn ?_
    wtm_at "n"
    refine n_dynAcr (b := b) w (.mem List.mem_cons_self) (ok b hbm) (by omega) fun r H1 w => ?_
    rw [List.map_cons, List.map_nil, List.foldl_cons, List.foldl_nil]
    generalize b.acr = T at *
    obtain ⟨ul, ub, ug⟩ := T
    refine n_gtup3 w (.mem List.mem_cons_self) fun y1 y2 y3 w0 => ?_
    clear w
    obtain ⟨rfl, w1⟩ := w0.eq0
    obtain ⟨rfl, w2⟩ := w1.eq0
    clear w0 w1
    obtain ⟨rfl, w3⟩ := w2.eqO
    clear w2
    have w := w3.tail.tail
    clear w3
    obtain ⟨t1, t2, t3⟩ := t
    simp only [List.set_cons_succ, List.set_cons_zero]
    have mxe : ∀ a c : Int, (if c > a then c else a) = max a c := fun a c => by split <;> omega
    cases t3 with
    | none =>
      simp only [oV]
      wtm_at "n"
      rw [mxe, mxe]
      exact ⟨_, _, ⟨_, _, _, _, _, rfl, rfl, rfl, rfl⟩, w⟩
    | some g =>
      cases ug with
      | none =>
        simp only [oV]
        wtm_at "n"
        rw [mxe, mxe]
        exact ⟨_, _, ⟨_, _, _, _, _, rfl, rfl, rfl, rfl⟩, w⟩
      | some u =>
        simp only [oV]
        wtm_at "n"
        rw [mxe, mxe, mxe]
        exact ⟨_, _, ⟨_, _, _, _, _, rfl, rfl, rfl, rfl⟩, w⟩
abbrev s_Leaf___init__ : Stmt := inClass (top 53) 0
theorem sc_Leaf___init__ : FnScope ["self", "key", "base", "least", "greatest", "grow", "shrink"] ["self", "key", "base", "least", "greatest", "grow", "shrink"] (defScope s_Leaf___init__) := ⟨rfl, rfl, rfl, by decide +kernel, rfl, by decide +kernel, by decide +kernel⟩
def sp_Leaf___init__ (C : Addr) : Sp := fun vs H Q _ => ∃ F M x, ∃ (key : Str) (b l : Int) (g : Option Int) (p s : Int), vs = [.ref x, .str key, .int b, .int l, oV g, .int p, .int s] ∧ Wf F H (.mi x C [] :: M) ∧ BxOk (.leaf key b l g p s) ∧ ∀ H', Wf ((.ref x, .obj C [("key", .str key), ("base", .int b), ("least", .int l), ("greatest", oD g), ("grow", .int p), ("shrink", .int s), ("deep", .int 1), ("many", .int 1)]) :: F) H' M → Q .non H'
theorem n_mkLeaf {CB CL CR CC CP : Addr} {F : List (V × D)} {H : Hp} {M : List ME} {key : Str} {b l : Int} {g : Option Int} {p s : Int} {Q : VK} {E : XK} (ww : Wf F H M) (ok : BxOk (.leaf key b l g p s)) (q : ∀ x H', Wf ((.ref x, bxD CB CL CR CC CP (.leaf key b l g p s)) :: F) H' M → Q (.ref x) H') : MakeQ CL (sp_Leaf___init__ CL) E Q [.str key, .int b, .int l, oV g, .int p, .int s] H :=
  n_make ww fun x H' w' => ⟨F, M, x, key, b, l, g, p, s, rfl, w', ok, fun H2 w2 => ⟨rfl, q x H2 (by rw [bxD]; exact w2)⟩⟩

theorem ok_Leaf___init__ {f : Addr} {fd : FuncData} (F : FunD K "__init__" "Leaf.__init__" (defArgs s_Leaf___init__) (defBody s_Leaf___init__) (defScope s_Leaf___init__) [.int 0, .non, .int 1, .int 1] [] f fd) (B : Bn mg) (c_is_name : Cal P wd K mg base "is_name" 1 ["thing"] [] sp_is_name) (c_is_small : Cal P wd K mg base "is_small" 2 ["thing"] [] (sp_is_small K)) (c_look_weights : Cal P wd K mg base "look_weights" 3 ["grow", "shrink", "at"] [] sp_look_weights) (o_Leaf : OwnC K C_Leaf) (n_Leaf : ∀ f ∈ (["key", "base", "least", "greatest", "grow", "shrink", "deep", "many"] : List Str), NoAttr K C_Leaf f)  : FnOk P wd K mg base CX0 4 f fd ["self", "key", "base", "least", "greatest", "grow", "shrink"] (sp_Leaf___init__ C_Leaf) := by
  refine F.ok0 sc_Leaf___init__ (fun vs H Q E h => ?_) (fun cdv A outer s H vs Q E hr h => ?_)
  · obtain ⟨F, M, x, key, b, l, g, p, s, rfl, ww, ok, k⟩ := h
    all_goals rfl
  · obtain ⟨F, M, x, key, b, l, g, p, s, rfl, ww, ok, k⟩ := h
    refine ⟨_, (pss_cons (ps_if (pt_not (pt_val (pe_cal c_is_name (hr.mono (by decide)) (by rfl) (pa_cons (pv 1) pa_nil)))) pss_never pss_nil)
      (pss_cons (ps_if (pt_not (pt_val (pe_cal c_is_small (hr.mono (by decide)) (by rfl) (pa_cons (pv 2) pa_nil)))) pss_never pss_nil)
      (pss_cons (ps_if (pw_or (pt_not (pt_val (pe_cal c_is_small (hr.mono (by decide)) (by rfl) (pa_cons (pv 3) pa_nil)))) (pw_or1 (pt_cmpR op_gt (pv 3) (pv 2) (nomark _)))).pt pss_never pss_nil)
      (pss_cons (ps_if (pw_and (pt_cmp (pc_notN (pv 4))) (pw_and1 (pw_or (pt_not (pt_val (pe_cal c_is_small (hr.mono (by decide)) (by rfl) (pa_cons (pv 4) pa_nil)))) (pw_or1 (pt_cmpR op_lt (pv 4) (pv 2) (nomark _)))).pt)).pt pss_never pss_nil)
      (pss_cons (ps_expr (pe_cal c_look_weights (hr.mono (by decide)) (by rfl) (pa_cons (pv 5) (pa_cons (pv 6) (pa_cons pe_int pa_nil)))))
      (pss_cons (kps_fld (K := K) rfl (pv 0) (pv 1) rfl)
      (pss_cons (kps_fld (K := K) rfl (pv 0) (pv 2) rfl)
      (pss_cons (kps_fld (K := K) rfl (pv 0) (pv 3) rfl)
      (pss_cons (kps_fld (K := K) rfl (pv 0) (pv 4) rfl)
      (pss_cons (kps_fld (K := K) rfl (pv 0) (pv 5) rfl)
      (pss_cons (kps_fld (K := K) rfl (pv 0) (pv 6) rfl)
      (pss_cons (kps_fld (K := K) rfl (pv 0) pe_int rfl)
      (pss_one (kps_fld (K := K) rfl (pv 0) pe_int rfl)))))))))))))), ?_⟩
    try dsimp only [cxOf, Cx.nox, Cx.wish, Cx.blk]
    rw [show L2.start (["self", "key", "base", "least", "greatest", "grow", "shrink"] : List Str) [.ref x, .str key, .int b, .int l, oV g, .int p, .int s] = [some (.ref x), some (.str key), some (.int b), some (.int l), some (oV g), some (.int p), some (.int s)] from rfl]
    have hW : Wt p := ok.w
    have hS : Wt s := ok.s
    obtain ⟨hk, hb, hl, hlb, hg⟩ : isnm (.str key) = true ∧ Sm b ∧ 0 ≤ l ∧ l ≤ b ∧ ∀ n, g = some n → b ≤ n ∧ n ≤ 1000000 := by
      cases ok with
      | leaf hk hb hl hlb hg hw hs => exact ⟨hk, hb, hl, hlb, hg⟩
    obtain ⟨b0, b1⟩ := hb
    wtm_at "n"
    refine n_isname ww (.str _) ⟨_, rfl⟩ (fun z e => by cases e; have := isnm_le hk; omega) fun H1 ww => ?_
    rw [hk]
    wtm_at "n"
    refine use_is_small (I := H1) (M := []) Fs.W.self b0 b1 ?_
    wtm_at "n"
    refine use_is_small (I := H1) (M := []) Fs.W.self hl (by omega) ?_
    wtm_at "n"
    refine s_iteDn (by omega) ?_
    with_reducible refine s_next ?_
    with_reducible refine s_seq ?_
    with_reducible refine s_midX (fun σ' H' => H' = H1 ∧ σ' = [some (.ref x), some (.str key), some (.int b), some (.int l), some (oV g), some (.int p), some (.int s)]) ?_ (fun N fin => ?_)
    rotate_left
    · cases g with
      | none =>
        simp only [oV]
        wtm_at "n"
        exact fin _ _ ⟨rfl, rfl⟩
      | some n =>
        obtain ⟨g1, g2⟩ := hg n rfl
        simp only [oV]
        wtm_at "n"
        refine use_is_small (I := H1) (M := []) Fs.W.self (by omega) (by omega) ?_
        wtm_at "n"
        refine s_iteDn (by omega) ?_
        wtm_at "n"
        exact fin _ _ ⟨rfl, rfl⟩
    rintro σ' H' ⟨rfl, rfl⟩
    wtm_at "n"
    refine n_lookw hW hS ?_
    wtm_at "n"
    rename_i w
    rw [putD_new (by (try simp only [List.nil_append, List.cons_append, List.map_cons, List.map_nil]); decide)] at w
    wtm_at "n"
    rename_i w
    rw [putD_new (by (try simp only [List.nil_append, List.cons_append, List.map_cons, List.map_nil]); decide)] at w
    wtm_at "n"
    rename_i w
    rw [putD_new (by (try simp only [List.nil_append, List.cons_append, List.map_cons, List.map_nil]); decide)] at w
    wtm_at "n"
    refine n_sf (by assumption) Foc.here (Kn.oV g) o_Leaf.cl n_Leaf (by decide) (by simp) fun H5 w => ?_
    rw [putD_new (by (try simp only [List.nil_append, List.cons_append, List.map_cons, List.map_nil]); decide)] at w
    wtm_at "n"
    rename_i w
    rw [putD_new (by (try simp only [List.nil_append, List.cons_append, List.map_cons, List.map_nil]); decide)] at w
    wtm_at "n"
    rename_i w
    rw [putD_new (by (try simp only [List.nil_append, List.cons_append, List.map_cons, List.map_nil]); decide)] at w
    wtm_at "n"
    rename_i w
    rw [putD_new (by (try simp only [List.nil_append, List.cons_append, List.map_cons, List.map_nil]); decide)] at w
    wtm_at "n"
    rename_i w
    rw [putD_new (by (try simp only [List.nil_append, List.cons_append, List.map_cons, List.map_nil]); decide)] at w
    wtm_at "n"
    have w := w.frzI .here
    exact k _ (by wtm_at "wf")
abbrev s_Row___init__ : Stmt := inClass (top 54) 0
theorem sc_Row___init__ : FnScope ["self", "boxes", "gap", "grow", "shrink", "deep", "many"] ["self", "boxes", "gap", "grow", "shrink"] (defScope s_Row___init__) := ⟨rfl, rfl, rfl, by decide +kernel, rfl, by decide +kernel, by decide +kernel⟩
def sp_Row___init__ (CB CL CR CC CP : Addr) : Sp := fun vs H Q _ => ∃ F M x v, ∃ (ks : List Bx) (n p s : Int), vs = [.ref x, v, .int n, .int p, .int s] ∧ Wf F H (.mi x CR [] :: M) ∧ Rk F M v (.lst (ks.map (bxD CB CL CR CC CP))) ∧ BxOk (.line false ks n p s) ∧ Bx.dps ks + 1 ≤ 6 ∧ Bx.mns ks + 1 ≤ 60 ∧ ∀ H', Wf ((.ref x, bxD CB CL CR CC CP (.line false ks n p s)) :: F) H' M → Q .non H'
theorem n_mkRow {CB CL CR CC CP : Addr} {F : List (V × D)} {H : Hp} {M : List ME} {v : V} {ks : List Bx} {n p s : Int} {Q : VK} {E : XK} (ww : Wf F H M) (hv : Rk F M v (.lst (ks.map (bxD CB CL CR CC CP)))) (ok : BxOk (.line false ks n p s)) (hd : Bx.dps ks + 1 ≤ 6) (hm : Bx.mns ks + 1 ≤ 60) (q : ∀ x H', Wf ((.ref x, bxD CB CL CR CC CP (.line false ks n p s)) :: F) H' M → Q (.ref x) H') : MakeQ CR (sp_Row___init__ CB CL CR CC CP) E Q [v, .int n, .int p, .int s] H :=
  n_make ww fun x H' w' => ⟨F, M, x, v, ks, n, p, s, rfl, w', hv, ok, hd, hm, fun H2 w2 => ⟨rfl, q x H2 w2⟩⟩

theorem ok_Row___init__ {f : Addr} {fd : FuncData} (F : FunD K "__init__" "Row.__init__" (defArgs s_Row___init__) (defBody s_Row___init__) (defScope s_Row___init__) [.int 0, .int 1, .int 1] [] f fd) (B : Bn mg) (c_look_boxes : Cal P wd K mg base "look_boxes" 1 ["boxes"] [] (sp_look_boxes C_Box C_Leaf C_Row C_Column C_Pad)) (c_is_small : Cal P wd K mg base "is_small" 2 ["thing"] [] (sp_is_small K)) (c_look_weights : Cal P wd K mg base "look_weights" 3 ["grow", "shrink", "at"] [] sp_look_weights) (c_size_around : Cal P wd K mg base "size_around" 1 ["boxes"] [] (sp_size_around C_Box C_Leaf C_Row C_Column C_Pad)) (c_row_across : Cal P wd K mg base "row_across" 9 ["boxes", "gap"] [] (sp_row_across C_Box C_Leaf C_Row C_Column C_Pad)) (o_Box : OwnC K C_Box) (n_Box : ∀ f ∈ (["grow", "shrink", "deep", "many"] : List Str), NoAttr K C_Box f) (o_Leaf : OwnC K C_Leaf) (n_Leaf : ∀ f ∈ (["key", "base", "least", "greatest", "grow", "shrink", "deep", "many"] : List Str), NoAttr K C_Leaf f) (o_Row : OwnC K C_Row) (n_Row : ∀ f ∈ (["boxes", "gap", "grow", "shrink", "deep", "many", "three"] : List Str), NoAttr K C_Row f) (o_Column : OwnC K C_Column) (n_Column : ∀ f ∈ (["boxes", "gap", "grow", "shrink", "deep", "many", "three"] : List Str), NoAttr K C_Column f) (o_Pad : OwnC K C_Pad) (n_Pad : ∀ f ∈ (["box", "by", "grow", "shrink", "deep", "many"] : List Str), NoAttr K C_Pad f)  : FnOk P wd K mg base CX0 10 f fd ["self", "boxes", "gap", "grow", "shrink"] (sp_Row___init__ C_Box C_Leaf C_Row C_Column C_Pad) := by
  refine F.ok0 sc_Row___init__ (fun vs H Q E h => ?_) (fun cdv A outer s H vs Q E hr h => ?_)
  · obtain ⟨F, M, x, v, ks, n, p, s, rfl, ww, hv, ok, hd, hm, k⟩ := h
    all_goals rfl
  · obtain ⟨F, M, x, v, ks, n, p, s, rfl, ww, hv, ok, hd, hm, k⟩ := h
    refine ⟨_, (pss_cons (ps_expr (pe_cal c_look_boxes (hr.mono (by decide)) (by rfl) (pa_cons (pv 1) pa_nil)))
      (pss_cons (ps_if (pt_not (pt_val (pe_cal c_is_small (hr.mono (by decide)) (by rfl) (pa_cons (pv 2) pa_nil)))) pss_never pss_nil)
      (pss_cons (ps_expr (pe_cal c_look_weights (hr.mono (by decide)) (by rfl) (pa_cons (pv 3) (pa_cons (pv 4) (pa_cons pe_int pa_nil)))))
      (pss_cons (ps_asg (pe_cal c_size_around (hr.mono (by decide)) (by rfl) (pa_cons (pv 1) pa_nil)) (kpg_tup (K := K) (n := 2) rfl rfl (pgs_cons (pg_name (i := 5) sc_Row___init__.nd rfl (Or.inl rfl)) (pgs_cons (pg_name (i := 6) sc_Row___init__.nd rfl (Or.inl rfl)) pgs_nil))))
      (pss_cons (kps_fld (K := K) rfl (pv 0) (pe_callTy (k_list (K := K) rfl) (by rfl) B.list_ (by decide +kernel) (pa_cons (pv 1) pa_nil)) rfl)
      (pss_cons (kps_fld (K := K) rfl (pv 0) (pv 2) rfl)
      (pss_cons (kps_fld (K := K) rfl (pv 0) (pv 3) rfl)
      (pss_cons (kps_fld (K := K) rfl (pv 0) (pv 4) rfl)
      (pss_cons (kps_fld (K := K) rfl (pv 0) (pv 5) rfl)
      (pss_cons (kps_fld (K := K) rfl (pv 0) (pv 6) rfl)
      (pss_one (kps_fld (K := K) rfl (pv 0) (pe_cal c_row_across (hr.mono (by decide)) (by rfl) (pa_cons (pv 1) (pa_cons (pv 2) pa_nil))) rfl)))))))))))), ?_⟩
    try dsimp only [cxOf, Cx.nox, Cx.wish, Cx.blk]
    rw [show L2.start (["self", "boxes", "gap", "grow", "shrink", "deep", "many"] : List Str) [.ref x, v, .int n, .int p, .int s] = [some (.ref x), some v, some (.int n), some (.int p), some (.int s), none, none] from rfl]
    have hW : Wt p := ok.w
    have hS : Wt s := ok.s
    obtain ⟨hks, hl, hn⟩ : (∀ k ∈ ks, BxOk k) ∧ ks.length ≤ 8 ∧ Sm n := by
      cases ok with
      | line hk hl hn hw hs => exact ⟨hk, hl, hn⟩
    obtain ⟨n0, n1⟩ := id hn
    wtm_at "n"
    refine n_lookboxes ww hv.more hl fun H1 ww => ?_
    wtm_at "n"
    refine use_is_small (I := H1) (M := []) Fs.W.self n0 n1 ?_
    wtm_at "n"
    refine n_lookw hW hS ?_
    wtm_at "n"
    have hold := And.intro trivial o_Row
    clear o_Row
    refine n_sizear ww hv.more hd hm fun r H2 w => ?_
    wtm_at "n"
    rename_i pl H3 w
    have w := (w.frzL .here)
    have o_Row := hold.2
    wtm_at "n"
    rename_i w
    rw [putD_new (by (try simp only [List.nil_append, List.cons_append, List.map_cons, List.map_nil]); decide)] at w
    wtm_at "n"
    rename_i w
    rw [putD_new (by (try simp only [List.nil_append, List.cons_append, List.map_cons, List.map_nil]); decide)] at w
    wtm_at "n"
    rename_i w
    rw [putD_new (by (try simp only [List.nil_append, List.cons_append, List.map_cons, List.map_nil]); decide)] at w
    wtm_at "n"
    rename_i w
    rw [putD_new (by (try simp only [List.nil_append, List.cons_append, List.map_cons, List.map_nil]); decide)] at w
    wtm_at "n"
    rename_i w
    rw [putD_new (by (try simp only [List.nil_append, List.cons_append, List.map_cons, List.map_nil]); decide)] at w
    wtm_at "n"
    rename_i w
    rw [putD_new (by (try simp only [List.nil_append, List.cons_append, List.map_cons, List.map_nil]); decide)] at w
    wtm_at "n"
    refine n_rowacr w (by ktf_call "rk") hks hl hd hn fun r4 H4 w => ?_
    wtm_at "n"
    rename_i w
    rw [putD_new (by (try simp only [List.nil_append, List.cons_append, List.map_cons, List.map_nil]); decide)] at w
    wtm_at "n"
    have w := w.frzI .here
    rw [bxD, bxDs_map] at k
    simp only [if_true, Bool.false_eq_true, if_false] at k
    exact k _ (by wtm_at "wf1")
abbrev s_Row_wides_for : Stmt := inClass (top 54) 3
theorem sc_Row_wides_for : FnScope ["self", "wide", "parts", "box", "least", "base", "greatest"] ["self", "wide"] (defScope s_Row_wides_for) := ⟨rfl, rfl, rfl, by decide +kernel, rfl, by decide +kernel, by decide +kernel⟩
def sp_Row_wides_for (CP_ CB CL CR CC CP : Addr) : Sp := fun vs H Q _ => ∃ F M v, ∃ (ks : List Bx) (n p s x : Int), vs = [v, .int x] ∧ Wf F H M ∧ Rk F M v (bxD CB CL CR CC CP (.line false ks n p s)) ∧ BxOk (.line false ks n p s) ∧ (Bx.line false ks n p s).mn ≤ 60 ∧ (Bx.line false ks n p s).dp ≤ 6 ∧ 0 ≤ x ∧ x ≤ 1000000000000 ∧ ∀ o q H', ShR (ks.map bRow) ((max 0 (x - gapsN n ks) : Int) : Rat) o → Wf F H' (.ml q ((whl (shL (ks.map bRow) ((max 0 (x - gapsN n ks) : Int) : Rat) o)).map D.int) :: M) → Q (.ref q) H'

theorem ok_Row_wides_for {f : Addr} {fd : FuncData} (F : Fun K "wides_for" "Row.wides_for" s_Row_wides_for f fd) (B : Bn mg) (c_whole_share : Cal P wd K mg base "whole_share" 7 ["parts", "room"] [] (sp_whole_share C_Part)) (c_gaps_of : Cal P wd K mg base "gaps_of" 1 ["boxes", "gap"] [] sp_gaps_of) (m_Part : Mak P wd K mg base "Part" C_Part 3 ["self", "base", "least", "greatest", "grow", "shrink"] [] (sp_Part___init__ C_Part)) (t_Pad_across : Met P wd K mg base "across" C_Pad 8 ["self"] [] (sp_Pad_across C_Box C_Leaf C_Row C_Column C_Pad 6)) (t_Column_across : Met P wd K mg base "across" C_Column 1 ["self"] [] (sp_Column_across C_Box C_Leaf C_Row C_Column C_Pad)) (t_Row_across : Met P wd K mg base "across" C_Row 1 ["self"] [] (sp_Row_across C_Box C_Leaf C_Row C_Column C_Pad)) (t_Leaf_across : Met P wd K mg base "across" C_Leaf 1 ["self"] [] (sp_Leaf_across C_Box C_Leaf C_Row C_Column C_Pad)) (t_Box_across : Met P wd K mg base "across" C_Box 1 ["self"] [] sp_Box_across) (o_Part : OwnC K C_Part) (n_Part : ∀ f ∈ (["base", "least", "greatest", "grow", "shrink"] : List Str), NoAttr K C_Part f) (o_Box : OwnC K C_Box) (n_Box : ∀ f ∈ (["grow", "shrink", "deep", "many"] : List Str), NoAttr K C_Box f) (o_Leaf : OwnC K C_Leaf) (n_Leaf : ∀ f ∈ (["key", "base", "least", "greatest", "grow", "shrink", "deep", "many"] : List Str), NoAttr K C_Leaf f) (o_Row : OwnC K C_Row) (n_Row : ∀ f ∈ (["boxes", "gap", "grow", "shrink", "deep", "many", "three"] : List Str), NoAttr K C_Row f) (o_Column : OwnC K C_Column) (n_Column : ∀ f ∈ (["boxes", "gap", "grow", "shrink", "deep", "many", "three"] : List Str), NoAttr K C_Column f) (o_Pad : OwnC K C_Pad) (n_Pad : ∀ f ∈ (["box", "by", "grow", "shrink", "deep", "many"] : List Str), NoAttr K C_Pad f)  : FnOk P wd K mg base CX0 9 f fd ["self", "wide"] (sp_Row_wides_for C_Part C_Box C_Leaf C_Row C_Column C_Pad) := by
  refine F.ok sc_Row_wides_for (fun vs H Q E h => ?_) (fun cdv A outer s H vs Q E hr h => ?_)
  · obtain ⟨F, M, v, ks, n, p, s, x, rfl, w, hv0, ok, hm, h6, x0, x1, k⟩ := h
    all_goals rfl
  · obtain ⟨F, M, v, ks, n, p, s, x, rfl, w, hv0, ok, hm, h6, x0, x1, k⟩ := h
    refine ⟨_, (pss_cons (ps_set (i := 2) sc_Row_wides_for.nd rfl (Or.inl rfl) (pe_lst pa_nil))
      (pss_cons (ps_for PassesOwn.never rfl (kpi_list (K := K) rfl (kpe_fld (K := K) rfl (pv 0) rfl)) (pg_name (i := 3) sc_Row_wides_for.nd rfl (Or.inl rfl)) (pss_cons (ps_asg (pe_dyn0 (pv 3) (dyn_cons t_Box_across (hr.mono (by decide)) (dyn_cons t_Leaf_across (hr.mono (by decide)) (dyn_cons t_Row_across (hr.mono (by decide)) (dyn_cons t_Column_across (hr.mono (by decide)) (dyn_cons t_Pad_across (hr.mono (by decide)) dyn_nil)))))) (kpg_tup (K := K) (n := 3) rfl rfl (pgs_cons (pg_name (i := 4) sc_Row_wides_for.nd rfl (Or.inl rfl)) (pgs_cons (pg_name (i := 5) sc_Row_wides_for.nd rfl (Or.inl rfl)) (pgs_cons (pg_name (i := 6) sc_Row_wides_for.nd rfl (Or.inl rfl)) pgs_nil)))))
      (pss_one (ps_expr (pe_bm PySem.F.plainAttrs_list PySem.F.slot_list_append PySem.F.type_list_append mt_append (pv 2) (pa_cons (pe_mk m_Part (hr.mono (by decide)) rfl (pa_cons (pv 5) (pa_cons (pv 4) (pa_cons (pv 6) (pa_cons (kpe_fld (K := K) rfl (pv 3) rfl) (pa_cons (kpe_fld (K := K) rfl (pv 3) rfl) pa_nil)))))) pa_nil))))))
      (pss_one (ps_ret (pe_cal c_whole_share (hr.mono (by decide)) (by rfl) (pa_cons (pv 2) (pa_cons (pe_callB (k_max (K := K) rfl rfl) (by rfl) B.max_ (by decide +kernel) (pa_cons pe_int (pa_cons (pe_op op_sub (pv 1) (pe_cal c_gaps_of (hr.mono (by decide)) (by rfl) (pa_cons (kpe_fld (K := K) rfl (pv 0) rfl) (pa_cons (kpe_fld (K := K) rfl (pv 0) rfl) pa_nil)))) pa_nil))) pa_nil))))))), ?_⟩
    try dsimp only [cxOf, Cx.nox, Cx.wish, Cx.blk]
    rw [show L2.start (["self", "wide", "parts", "box", "least", "base", "greatest"] : List Str) [v, .int x] = [some v, some (.int x), none, none, none, none, none] from rfl]
    have hv := hv0
    rw [bxD, bxDs_map] at hv
    simp only [if_true, Bool.false_eq_true, if_false] at hv
    obtain ⟨hks, hl, hn⟩ : (∀ k ∈ ks, BxOk k) ∧ ks.length ≤ 8 ∧ Sm n := by
      cases ok with
      | line hk hl hn hw hs => exact ⟨hk, hl, hn⟩
    rw [Bx.mn] at hm
    rw [Bx.dp] at h6
    have bk : BxK K C_Box C_Leaf C_Row C_Column C_Pad := ⟨o_Box, o_Leaf, o_Row, o_Column, o_Pad, na_sub n_Box (by decide +kernel), na_sub n_Leaf (by decide +kernel), na_sub n_Row (by decide +kernel), na_sub n_Column (by decide +kernel), na_sub n_Pad (by decide +kernel)⟩
    wtm_at "n"
    rename_i pp H1 w1 u w
    refine n_forL w (fun i σ' F' M' => ∃ x3 x4 x5 x6, σ' = [some v, some (.int x), some (.ref pp), x3, x4, x5, x6] ∧ F' = (u, .lst (ks.map (bxD C_Box C_Leaf C_Row C_Column C_Pad))) :: F ∧ M' = .ml pp ((ks.take i).map (fun k => prtR C_Part (bRow k))) :: M) (fun i σ F' M' h => by
      obtain ⟨_, _, _, _, _, rfl, rfl⟩ := h
      exact .mem List.mem_cons_self) ⟨_, _, _, _, rfl, rfl, rfl⟩ ?_ ?_
    · clear w w1
      rintro i d y σ' H' F' M' hd' ⟨x3, x4, x5, x6, rfl, rfl, rfl⟩ w
      obtain ⟨b, hb, rfl⟩ := map_get hd'
      have hbm : b ∈ ks := List.mem_of_getElem? hb
      have hdb := dps_le hbm
      have hmb := mns_le hbm
      have hro := bRow_ok (hks b hbm) (by omega)
      wtm_at "n"
      refine s_dyn ?_
      wtm_at "n"
      refine n_dynAcr (b := b) w (.mem List.mem_cons_self) (hks b hbm) (by omega) fun r H1 w => ?_
      have eb : ∀ T, b.acr = T → bRow b = ⟨T.b, T.l, T.g, b.w, b.s⟩ := fun T h => by rw [bRow, h]
      generalize hT : b.acr = T at w
      obtain ⟨tl, tb, tg⟩ := T
      have eb := eb _ hT
      rw [eb] at hro
      refine n_gtup3 w (.mem List.mem_cons_self) fun y1 y2 y3 w0 => ?_
      clear w
      obtain ⟨rfl, w1⟩ := w0.eq0
      obtain ⟨rfl, w2⟩ := w1.eq0
      clear w0 w1
      obtain ⟨rfl, w3⟩ := w2.eqO
      clear w2
      have w := w3.tail
      clear w3
      wtm_at "n"
      refine n_bxgrow bk w (.mem List.mem_cons_self) ?_
      wtm_at "n"
      refine n_bxshrink bk w (.mem List.mem_cons_self) ?_
      wtm_at "n"
      refine n_mkPart w (.oV tg) hro fun r2 H2 w => ?_
      wtm_at "n"
      rename_i w
      refine ⟨_, _, ⟨_, _, _, _, rfl, rfl, rfl⟩, ?_⟩
      rw [take_snoc hb, List.map_append, List.map_singleton, eb]
      exact w.tail.tail
    clear w w1
    rintro σ' H' F' M' ⟨x3, x4, x5, x6, rfl, rfl, rfl⟩ w
    rw [List.length_map, List.take_length]  at w
    wtm_at "n"
    rename_i uz w
    refine n_gapsof w (.mem List.mem_cons_self) hn (by rw [List.length_map]; exact hl) ?_
    rw [List.length_map]
    wtm_at "n"
    have eg : n * (if (ks.length : Int) - 1 > 0 then (ks.length : Int) - 1 else 0) = gapsN n ks := rfl
    rw [eg]
    have g0 : 0 ≤ gapsN n ks := Int.mul_nonneg hn.1 (by split <;> omega)
    rw [show (if x - gapsN n ks > 0 then x - gapsN n ks else 0) = max 0 (x - gapsN n ks) by split <;> omega]
    refine n_wshare (rows := ks.map bRow) w (.ml (by rw [List.map_map]; exact .head _)) (fun r hr => by
      obtain ⟨b, hb, rfl⟩ := List.mem_map.mp hr
      exact bRow_ok (hks b hb) (by have := mns_le hb; omega)) (by rw [List.length_map]; omega) (by omega) (by omega) fun o q H2 ho w => ?_
    exact k _ _ _ ho (w.sub (KS.drop (KS.drop KS.refl)) (by ktf_call "sl"))
abbrev s_Column___init__ : Stmt := inClass (top 55) 0
theorem sc_Column___init__ : FnScope ["self", "boxes", "gap", "grow", "shrink", "deep", "many"] ["self", "boxes", "gap", "grow", "shrink"] (defScope s_Column___init__) := ⟨rfl, rfl, rfl, by decide +kernel, rfl, by decide +kernel, by decide +kernel⟩
def sp_Column___init__ (CB CL CR CC CP : Addr) : Sp := fun vs H Q _ => ∃ F M x v, ∃ (ks : List Bx) (n p s : Int), vs = [.ref x, v, .int n, .int p, .int s] ∧ Wf F H (.mi x CC [] :: M) ∧ Rk F M v (.lst (ks.map (bxD CB CL CR CC CP))) ∧ BxOk (.line true ks n p s) ∧ Bx.dps ks + 1 ≤ 6 ∧ Bx.mns ks + 1 ≤ 60 ∧ ∀ H', Wf ((.ref x, bxD CB CL CR CC CP (.line true ks n p s)) :: F) H' M → Q .non H'
theorem n_mkColumn {CB CL CR CC CP : Addr} {F : List (V × D)} {H : Hp} {M : List ME} {v : V} {ks : List Bx} {n p s : Int} {Q : VK} {E : XK} (ww : Wf F H M) (hv : Rk F M v (.lst (ks.map (bxD CB CL CR CC CP)))) (ok : BxOk (.line true ks n p s)) (hd : Bx.dps ks + 1 ≤ 6) (hm : Bx.mns ks + 1 ≤ 60) (q : ∀ x H', Wf ((.ref x, bxD CB CL CR CC CP (.line true ks n p s)) :: F) H' M → Q (.ref x) H') : MakeQ CC (sp_Column___init__ CB CL CR CC CP) E Q [v, .int n, .int p, .int s] H :=
  n_make ww fun x H' w' => ⟨F, M, x, v, ks, n, p, s, rfl, w', hv, ok, hd, hm, fun H2 w2 => ⟨rfl, q x H2 w2⟩⟩

theorem ok_Column___init__ {f : Addr} {fd : FuncData} (F : FunD K "__init__" "Column.__init__" (defArgs s_Column___init__) (defBody s_Column___init__) (defScope s_Column___init__) [.int 0, .int 1, .int 1] [] f fd) (B : Bn mg) (c_look_boxes : Cal P wd K mg base "look_boxes" 1 ["boxes"] [] (sp_look_boxes C_Box C_Leaf C_Row C_Column C_Pad)) (c_is_small : Cal P wd K mg base "is_small" 2 ["thing"] [] (sp_is_small K)) (c_look_weights : Cal P wd K mg base "look_weights" 3 ["grow", "shrink", "at"] [] sp_look_weights) (c_size_around : Cal P wd K mg base "size_around" 1 ["boxes"] [] (sp_size_around C_Box C_Leaf C_Row C_Column C_Pad)) (c_column_across : Cal P wd K mg base "column_across" 9 ["boxes"] [] (sp_column_across C_Box C_Leaf C_Row C_Column C_Pad)) (o_Box : OwnC K C_Box) (n_Box : ∀ f ∈ (["grow", "shrink", "deep", "many"] : List Str), NoAttr K C_Box f) (o_Leaf : OwnC K C_Leaf) (n_Leaf : ∀ f ∈ (["key", "base", "least", "greatest", "grow", "shrink", "deep", "many"] : List Str), NoAttr K C_Leaf f) (o_Row : OwnC K C_Row) (n_Row : ∀ f ∈ (["boxes", "gap", "grow", "shrink", "deep", "many", "three"] : List Str), NoAttr K C_Row f) (o_Column : OwnC K C_Column) (n_Column : ∀ f ∈ (["boxes", "gap", "grow", "shrink", "deep", "many", "three"] : List Str), NoAttr K C_Column f) (o_Pad : OwnC K C_Pad) (n_Pad : ∀ f ∈ (["box", "by", "grow", "shrink", "deep", "many"] : List Str), NoAttr K C_Pad f)  : FnOk P wd K mg base CX0 10 f fd ["self", "boxes", "gap", "grow", "shrink"] (sp_Column___init__ C_Box C_Leaf C_Row C_Column C_Pad) := by
  refine F.ok0 sc_Column___init__ (fun vs H Q E h => ?_) (fun cdv A outer s H vs Q E hr h => ?_)
  · obtain ⟨F, M, x, v, ks, n, p, s, rfl, ww, hv, ok, hd, hm, k⟩ := h
    all_goals rfl
  · obtain ⟨F, M, x, v, ks, n, p, s, rfl, ww, hv, ok, hd, hm, k⟩ := h
    refine ⟨_, (pss_cons (ps_expr (pe_cal c_look_boxes (hr.mono (by decide)) (by rfl) (pa_cons (pv 1) pa_nil)))
      (pss_cons (ps_if (pt_not (pt_val (pe_cal c_is_small (hr.mono (by decide)) (by rfl) (pa_cons (pv 2) pa_nil)))) pss_never pss_nil)
      (pss_cons (ps_expr (pe_cal c_look_weights (hr.mono (by decide)) (by rfl) (pa_cons (pv 3) (pa_cons (pv 4) (pa_cons pe_int pa_nil)))))
      (pss_cons (ps_asg (pe_cal c_size_around (hr.mono (by decide)) (by rfl) (pa_cons (pv 1) pa_nil)) (kpg_tup (K := K) (n := 2) rfl rfl (pgs_cons (pg_name (i := 5) sc_Column___init__.nd rfl (Or.inl rfl)) (pgs_cons (pg_name (i := 6) sc_Column___init__.nd rfl (Or.inl rfl)) pgs_nil))))
      (pss_cons (kps_fld (K := K) rfl (pv 0) (pe_callTy (k_list (K := K) rfl) (by rfl) B.list_ (by decide +kernel) (pa_cons (pv 1) pa_nil)) rfl)
      (pss_cons (kps_fld (K := K) rfl (pv 0) (pv 2) rfl)
      (pss_cons (kps_fld (K := K) rfl (pv 0) (pv 3) rfl)
      (pss_cons (kps_fld (K := K) rfl (pv 0) (pv 4) rfl)
      (pss_cons (kps_fld (K := K) rfl (pv 0) (pv 5) rfl)
      (pss_cons (kps_fld (K := K) rfl (pv 0) (pv 6) rfl)
      (pss_one (kps_fld (K := K) rfl (pv 0) (pe_cal c_column_across (hr.mono (by decide)) (by rfl) (pa_cons (pv 1) pa_nil)) rfl)))))))))))), ?_⟩
    try dsimp only [cxOf, Cx.nox, Cx.wish, Cx.blk]
    rw [show L2.start (["self", "boxes", "gap", "grow", "shrink", "deep", "many"] : List Str) [.ref x, v, .int n, .int p, .int s] = [some (.ref x), some v, some (.int n), some (.int p), some (.int s), none, none] from rfl]
    have hW : Wt p := ok.w
    have hS : Wt s := ok.s
    obtain ⟨hks, hl, hn⟩ : (∀ k ∈ ks, BxOk k) ∧ ks.length ≤ 8 ∧ Sm n := by
      cases ok with
      | line hk hl hn hw hs => exact ⟨hk, hl, hn⟩
    obtain ⟨n0, n1⟩ := id hn
    wtm_at "n"
    refine n_lookboxes ww hv.more hl fun H1 ww => ?_
    wtm_at "n"
    refine use_is_small (I := H1) (M := []) Fs.W.self n0 n1 ?_
    wtm_at "n"
    refine n_lookw hW hS ?_
    wtm_at "n"
    have hold := And.intro trivial o_Column
    clear o_Column
    refine n_sizear ww hv.more hd hm fun r H2 w => ?_
    wtm_at "n"
    rename_i pl H3 w
    have w := (w.frzL .here)
    have o_Column := hold.2
    wtm_at "n"
    rename_i w
    rw [putD_new (by (try simp only [List.nil_append, List.cons_append, List.map_cons, List.map_nil]); decide)] at w
    wtm_at "n"
    rename_i w
    rw [putD_new (by (try simp only [List.nil_append, List.cons_append, List.map_cons, List.map_nil]); decide)] at w
    wtm_at "n"
    rename_i w
    rw [putD_new (by (try simp only [List.nil_append, List.cons_append, List.map_cons, List.map_nil]); decide)] at w
    wtm_at "n"
    rename_i w
    rw [putD_new (by (try simp only [List.nil_append, List.cons_append, List.map_cons, List.map_nil]); decide)] at w
    wtm_at "n"
    rename_i w
    rw [putD_new (by (try simp only [List.nil_append, List.cons_append, List.map_cons, List.map_nil]); decide)] at w
    wtm_at "n"
    rename_i w
    rw [putD_new (by (try simp only [List.nil_append, List.cons_append, List.map_cons, List.map_nil]); decide)] at w
    wtm_at "n"
    refine n_colacr w (by ktf_call "rk") hks hd fun r4 H4 w => ?_
    wtm_at "n"
    rename_i w
    rw [putD_new (by (try simp only [List.nil_append, List.cons_append, List.map_cons, List.map_nil]); decide)] at w
    wtm_at "n"
    have w := w.frzI .here
    rw [bxD, bxDs_map] at k
    simp only [if_true, Bool.false_eq_true, if_false] at k
    exact k _ (by wtm_at "wf1")
abbrev s_Column_wides_for : Stmt := inClass (top 55) 3
theorem sc_Column_wides_for : FnScope ["self", "wide", "box"] ["self", "wide"] (defScope s_Column_wides_for) := ⟨rfl, rfl, rfl, by decide +kernel, rfl, by decide +kernel, by decide +kernel⟩
def sp_Column_wides_for (CB CL CR CC CP : Addr) : Sp := fun vs H Q _ => ∃ F M v, ∃ (ks : List Bx) (n p s x : Int), vs = [v, .int x] ∧ Wf F H M ∧ Rk F M v (bxD CB CL CR CC CP (.line true ks n p s)) ∧ BxOk (.line true ks n p s) ∧ (Bx.line true ks n p s).dp ≤ 6 ∧ ∀ q H', Wf F H' (.ml q ((ks.map fun k => heldW k.acr x).map D.int) :: M) → Q (.ref q) H'

theorem ok_Column_wides_for {f : Addr} {fd : FuncData} (F : Fun K "wides_for" "Column.wides_for" s_Column_wides_for f fd) (B : Bn mg) (c_held_wide : Cal P wd K mg base "held_wide" 1 ["three", "wide"] [] sp_held_wide) (t_Pad_across : Met P wd K mg base "across" C_Pad 8 ["self"] [] (sp_Pad_across C_Box C_Leaf C_Row C_Column C_Pad 6)) (t_Column_across : Met P wd K mg base "across" C_Column 1 ["self"] [] (sp_Column_across C_Box C_Leaf C_Row C_Column C_Pad)) (t_Row_across : Met P wd K mg base "across" C_Row 1 ["self"] [] (sp_Row_across C_Box C_Leaf C_Row C_Column C_Pad)) (t_Leaf_across : Met P wd K mg base "across" C_Leaf 1 ["self"] [] (sp_Leaf_across C_Box C_Leaf C_Row C_Column C_Pad)) (t_Box_across : Met P wd K mg base "across" C_Box 1 ["self"] [] sp_Box_across) (o_Box : OwnC K C_Box) (n_Box : ∀ f ∈ (["grow", "shrink", "deep", "many"] : List Str), NoAttr K C_Box f) (o_Leaf : OwnC K C_Leaf) (n_Leaf : ∀ f ∈ (["key", "base", "least", "greatest", "grow", "shrink", "deep", "many"] : List Str), NoAttr K C_Leaf f) (o_Row : OwnC K C_Row) (n_Row : ∀ f ∈ (["boxes", "gap", "grow", "shrink", "deep", "many", "three"] : List Str), NoAttr K C_Row f) (o_Column : OwnC K C_Column) (n_Column : ∀ f ∈ (["boxes", "gap", "grow", "shrink", "deep", "many", "three"] : List Str), NoAttr K C_Column f) (o_Pad : OwnC K C_Pad) (n_Pad : ∀ f ∈ (["box", "by", "grow", "shrink", "deep", "many"] : List Str), NoAttr K C_Pad f)  : FnOk P wd K mg base CX0 9 f fd ["self", "wide"] (sp_Column_wides_for C_Box C_Leaf C_Row C_Column C_Pad) := by
  refine F.ok sc_Column_wides_for (fun vs H Q E h => ?_) (fun cdv A outer s H vs Q E hr h => ?_)
  · obtain ⟨F, M, v, ks, n, p, s, x, rfl, w, hv0, ok, h6, k⟩ := h
    all_goals rfl
  · obtain ⟨F, M, v, ks, n, p, s, x, rfl, w, hv0, ok, h6, k⟩ := h
    refine ⟨_, (pss_one (ps_ret (pe_lc (own := [("box", 2)]) (by rfl) sc_Column_wides_for.nd (kpi_list (K := K) rfl (kpe_fld (K := K) rfl (pv 0) rfl)) (blkOk_by (own := [("box", 2)]) (N := ["self", "wide", "box"]) (sc := defScope s_Column_wides_for) (by decide +kernel)) (fun _ _ _ _ _ => (pg_name (i := 2) sc_Column_wides_for.nd rfl (Or.inl rfl))) (fun _ _ _ _ _ => pts_nil) (fun _ _ _ _ _ => (pe_cal c_held_wide (hr.mono (by decide)) (by rfl) (pa_cons (pe_dyn0 (pv 2) (dyn_cons t_Box_across (hr.mono (by decide)) (dyn_cons t_Leaf_across (hr.mono (by decide)) (dyn_cons t_Row_across (hr.mono (by decide)) (dyn_cons t_Column_across (hr.mono (by decide)) (dyn_cons t_Pad_across (hr.mono (by decide)) dyn_nil)))))) (pa_cons (pv 1) pa_nil))))))), ?_⟩
    try dsimp only [cxOf, Cx.nox, Cx.wish, Cx.blk]
    rw [show L2.start (["self", "wide", "box"] : List Str) [v, .int x] = [some v, some (.int x), none] from rfl]
    have hv := hv0
    rw [bxD, bxDs_map] at hv
    simp only [if_true, Bool.false_eq_true, if_false] at hv
    obtain ⟨hks, hl⟩ : (∀ k ∈ ks, BxOk k) ∧ ks.length ≤ 8 := by
      cases ok with
      | line hk hl hn hw hs => exact ⟨hk, hl⟩
    rw [Bx.dp] at h6
    wtm_at "n"
    rename_i u w
    refine n_lcMapI (g := bxD C_Box C_Leaf C_Row C_Column C_Pad) (f := fun k : Bx => heldW k.acr x) (l := ks) w (.mem List.mem_cons_self) (by omega) (fun v => rfl) (fun b y D acc H0 C hb w kc => ?_) fun q H1 w => ?_
    · have hdb := dps_le hb
      wtm_at "n"
      refine s_dyn ?_
      wtm_at "n"
      refine n_dynAcr (b := b) w (.mem List.mem_cons_self) (hks b hb) (by omega) fun r H1 w => ?_
      wtm_at "n"
      refine n_held (t := b.acr) w (.mem List.mem_cons_self) ?_
      exact kc _ w.tail.tail
    exact k _ _ w.tail
abbrev s_Pad___init__ : Stmt := inClass (top 56) 0
theorem sc_Pad___init__ : FnScope ["self", "box", "by", "grow", "shrink", "deep", "many"] ["self", "box", "by", "grow", "shrink"] (defScope s_Pad___init__) := ⟨rfl, rfl, rfl, by decide +kernel, rfl, by decide +kernel, by decide +kernel⟩
def sp_Pad___init__ (CB CL CR CC CP : Addr) : Sp := fun vs H Q _ => ∃ F M x v, ∃ (b : Bx) (n p s : Int), vs = [.ref x, v, .int n, .int p, .int s] ∧ Wf F H (.mi x CP [] :: M) ∧ Kn F v (bxD CB CL CR CC CP b) ∧ BxOk (.pad b n p s) ∧ b.dp + 1 ≤ 6 ∧ b.mn + 1 ≤ 60 ∧ ∀ H', Wf ((.ref x, bxD CB CL CR CC CP (.pad b n p s)) :: F) H' M → Q .non H'
theorem n_mkPad {CB CL CR CC CP : Addr} {F : List (V × D)} {H : Hp} {M : List ME} {v : V} {b : Bx} {n p s : Int} {Q : VK} {E : XK} (ww : Wf F H M) (hv : Kn F v (bxD CB CL CR CC CP b)) (ok : BxOk (.pad b n p s)) (hd : b.dp + 1 ≤ 6) (hm : b.mn + 1 ≤ 60) (q : ∀ x H', Wf ((.ref x, bxD CB CL CR CC CP (.pad b n p s)) :: F) H' M → Q (.ref x) H') : MakeQ CP (sp_Pad___init__ CB CL CR CC CP) E Q [v, .int n, .int p, .int s] H :=
  n_make ww fun x H' w' => ⟨F, M, x, v, b, n, p, s, rfl, w', hv, ok, hd, hm, fun H2 w2 => ⟨rfl, q x H2 w2⟩⟩

theorem ok_Pad___init__ {f : Addr} {fd : FuncData} (F : FunD K "__init__" "Pad.__init__" (defArgs s_Pad___init__) (defBody s_Pad___init__) (defScope s_Pad___init__) [.int 1, .int 1] [] f fd) (B : Bn mg) (c_is_small : Cal P wd K mg base "is_small" 2 ["thing"] [] (sp_is_small K)) (c_look_weights : Cal P wd K mg base "look_weights" 3 ["grow", "shrink", "at"] [] sp_look_weights) (c_size_around : Cal P wd K mg base "size_around" 1 ["boxes"] [] (sp_size_around C_Box C_Leaf C_Row C_Column C_Pad)) (o_Box : OwnC K C_Box) (n_Box : ∀ f ∈ (["grow", "shrink", "deep", "many"] : List Str), NoAttr K C_Box f) (o_Leaf : OwnC K C_Leaf) (n_Leaf : ∀ f ∈ (["key", "base", "least", "greatest", "grow", "shrink", "deep", "many"] : List Str), NoAttr K C_Leaf f) (o_Row : OwnC K C_Row) (n_Row : ∀ f ∈ (["boxes", "gap", "grow", "shrink", "deep", "many", "three"] : List Str), NoAttr K C_Row f) (o_Column : OwnC K C_Column) (n_Column : ∀ f ∈ (["boxes", "gap", "grow", "shrink", "deep", "many", "three"] : List Str), NoAttr K C_Column f) (o_Pad : OwnC K C_Pad) (n_Pad : ∀ f ∈ (["box", "by", "grow", "shrink", "deep", "many"] : List Str), NoAttr K C_Pad f) (g_Box : mg "Box" = some (.ref C_Box)) (ia_Box_Box : PySem.W.kitOne K (.ref C_Box) (.ref C_Box) = some true) (ia_Leaf_Box : PySem.W.kitOne K (.ref C_Leaf) (.ref C_Box) = some true) (ia_Row_Box : PySem.W.kitOne K (.ref C_Row) (.ref C_Box) = some true) (ia_Column_Box : PySem.W.kitOne K (.ref C_Column) (.ref C_Box) = some true) (ia_Pad_Box : PySem.W.kitOne K (.ref C_Pad) (.ref C_Box) = some true)  : FnOk P wd K mg base CX0 4 f fd ["self", "box", "by", "grow", "shrink"] (sp_Pad___init__ C_Box C_Leaf C_Row C_Column C_Pad) := by
  refine F.ok0 sc_Pad___init__ (fun vs H Q E h => ?_) (fun cdv A outer s H vs Q E hr h => ?_)
  · obtain ⟨F, M, x, v, b, n, p, s, rfl, ww, hv, ok, hd, hm, k⟩ := h
    all_goals rfl
  · obtain ⟨F, M, x, v, b, n, p, s, rfl, ww, hv, ok, hd, hm, k⟩ := h
    refine ⟨_, (pss_cons (ps_if (pt_not (pt_val (pe_callB (k_isi (K := K) rfl) (by rfl) B.isinstance_ (by decide +kernel) (pa_cons (pv 1) (pa_cons (pe_glob (v := .ref C_Box) (by rfl) g_Box rfl) pa_nil))))) pss_never pss_nil)
      (pss_cons (ps_if (pt_not (pt_val (pe_cal c_is_small (hr.mono (by decide)) (by rfl) (pa_cons (pv 2) pa_nil)))) pss_never pss_nil)
      (pss_cons (ps_expr (pe_cal c_look_weights (hr.mono (by decide)) (by rfl) (pa_cons (pv 3) (pa_cons (pv 4) (pa_cons pe_int pa_nil)))))
      (pss_cons (ps_asg (pe_cal c_size_around (hr.mono (by decide)) (by rfl) (pa_cons (pe_lst (pa_cons (pv 1) pa_nil)) pa_nil)) (kpg_tup (K := K) (n := 2) rfl rfl (pgs_cons (pg_name (i := 5) sc_Pad___init__.nd rfl (Or.inl rfl)) (pgs_cons (pg_name (i := 6) sc_Pad___init__.nd rfl (Or.inl rfl)) pgs_nil))))
      (pss_cons (kps_fld (K := K) rfl (pv 0) (pv 1) rfl)
      (pss_cons (kps_fld (K := K) rfl (pv 0) (pv 2) rfl)
      (pss_cons (kps_fld (K := K) rfl (pv 0) (pv 3) rfl)
      (pss_cons (kps_fld (K := K) rfl (pv 0) (pv 4) rfl)
      (pss_cons (kps_fld (K := K) rfl (pv 0) (pv 5) rfl)
      (pss_one (kps_fld (K := K) rfl (pv 0) (pv 6) rfl))))))))))), ?_⟩
    try dsimp only [cxOf, Cx.nox, Cx.wish, Cx.blk]
    rw [show L2.start (["self", "box", "by", "grow", "shrink", "deep", "many"] : List Str) [.ref x, v, .int n, .int p, .int s] = [some (.ref x), some v, some (.int n), some (.int p), some (.int s), none, none] from rfl]
    have hW : Wt p := ok.w
    have hS : Wt s := ok.s
    obtain ⟨hb, hn⟩ : BxOk b ∧ Sm n := by
      cases ok with
      | pad hk hn hw hs => exact ⟨hk, hn⟩
    obtain ⟨n0, n1⟩ := id hn
    wtm_at "n"
    refine n_isiBx (b := b) o_Box o_Leaf o_Row o_Column o_Pad ia_Box_Box ia_Leaf_Box ia_Row_Box ia_Column_Box ia_Pad_Box ww (bx_rk hv) ?_
    wtm_at "n"
    refine use_is_small (I := H) (M := []) Fs.W.self n0 n1 ?_
    wtm_at "n"
    refine n_lookw hW hS ?_
    wtm_at "n"
    rename_i w
    refine n_sizear (ks := [b]) w (.ml List.mem_cons_self) (by rw [dps_one]; exact hd) (by rw [mns_one]; exact hm) fun r H2 w => ?_
    rw [dps_one, mns_one] at w
    wtm_at "n"
    rename_i w
    have w : Wf F _ (.mi x C_Pad [] :: M) := w.sub (fun f hf => .mem (by simp [hf])) (List.sublist_cons_self _ _)
    wtm_at "n"
    rename_i w
    rw [putD_new (by (try simp only [List.nil_append, List.cons_append, List.map_cons, List.map_nil]); decide)] at w
    wtm_at "n"
    rename_i w
    rw [putD_new (by (try simp only [List.nil_append, List.cons_append, List.map_cons, List.map_nil]); decide)] at w
    wtm_at "n"
    rename_i w
    rw [putD_new (by (try simp only [List.nil_append, List.cons_append, List.map_cons, List.map_nil]); decide)] at w
    wtm_at "n"
    rename_i w
    rw [putD_new (by (try simp only [List.nil_append, List.cons_append, List.map_cons, List.map_nil]); decide)] at w
    wtm_at "n"
    rename_i w
    rw [putD_new (by (try simp only [List.nil_append, List.cons_append, List.map_cons, List.map_nil]); decide)] at w
    wtm_at "n"
    rename_i w
    rw [putD_new (by (try simp only [List.nil_append, List.cons_append, List.map_cons, List.map_nil]); decide)] at w
    wtm_at "n"
    have w := w.frzI .here
    exact k _ (by wtm_at "wf")
abbrev s_Pad_wides_for : Stmt := inClass (top 56) 3
theorem sc_Pad_wides_for : FnScope ["self", "wide"] ["self", "wide"] (defScope s_Pad_wides_for) := ⟨rfl, rfl, rfl, by decide +kernel, rfl, by decide +kernel, by decide +kernel⟩
def sp_Pad_wides_for (CB CL CR CC CP : Addr) : Sp := fun vs H Q _ => ∃ F M v, ∃ (b : Bx) (n p s x : Int), vs = [v, .int x] ∧ Wf F H M ∧ Rk F M v (bxD CB CL CR CC CP (.pad b n p s)) ∧ BxOk (.pad b n p s) ∧ (Bx.pad b n p s).dp ≤ 6 ∧ ∀ q H', Wf F H' (.ml q ([heldW b.acr (max 0 (x - 2 * n))].map D.int) :: M) → Q (.ref q) H'

theorem ok_Pad_wides_for {f : Addr} {fd : FuncData} (F : Fun K "wides_for" "Pad.wides_for" s_Pad_wides_for f fd) (B : Bn mg) (c_held_wide : Cal P wd K mg base "held_wide" 1 ["three", "wide"] [] sp_held_wide) (t_Pad_across : Met P wd K mg base "across" C_Pad 8 ["self"] [] (sp_Pad_across C_Box C_Leaf C_Row C_Column C_Pad 6)) (t_Column_across : Met P wd K mg base "across" C_Column 1 ["self"] [] (sp_Column_across C_Box C_Leaf C_Row C_Column C_Pad)) (t_Row_across : Met P wd K mg base "across" C_Row 1 ["self"] [] (sp_Row_across C_Box C_Leaf C_Row C_Column C_Pad)) (t_Leaf_across : Met P wd K mg base "across" C_Leaf 1 ["self"] [] (sp_Leaf_across C_Box C_Leaf C_Row C_Column C_Pad)) (t_Box_across : Met P wd K mg base "across" C_Box 1 ["self"] [] sp_Box_across) (o_Box : OwnC K C_Box) (n_Box : ∀ f ∈ (["grow", "shrink", "deep", "many"] : List Str), NoAttr K C_Box f) (o_Leaf : OwnC K C_Leaf) (n_Leaf : ∀ f ∈ (["key", "base", "least", "greatest", "grow", "shrink", "deep", "many"] : List Str), NoAttr K C_Leaf f) (o_Row : OwnC K C_Row) (n_Row : ∀ f ∈ (["boxes", "gap", "grow", "shrink", "deep", "many", "three"] : List Str), NoAttr K C_Row f) (o_Column : OwnC K C_Column) (n_Column : ∀ f ∈ (["boxes", "gap", "grow", "shrink", "deep", "many", "three"] : List Str), NoAttr K C_Column f) (o_Pad : OwnC K C_Pad) (n_Pad : ∀ f ∈ (["box", "by", "grow", "shrink", "deep", "many"] : List Str), NoAttr K C_Pad f)  : FnOk P wd K mg base CX0 9 f fd ["self", "wide"] (sp_Pad_wides_for C_Box C_Leaf C_Row C_Column C_Pad) := by
  refine F.ok sc_Pad_wides_for (fun vs H Q E h => ?_) (fun cdv A outer s H vs Q E hr h => ?_)
  · obtain ⟨F, M, v, b, n, p, s, x, rfl, w, hv0, ok, h6, k⟩ := h
    all_goals rfl
  · obtain ⟨F, M, v, b, n, p, s, x, rfl, w, hv0, ok, h6, k⟩ := h
    refine ⟨_, (pss_one (ps_ret (pe_lst (pa_cons (pe_cal c_held_wide (hr.mono (by decide)) (by rfl) (pa_cons (pe_dyn0 (kpe_fld (K := K) rfl (pv 0) rfl) (dyn_cons t_Box_across (hr.mono (by decide)) (dyn_cons t_Leaf_across (hr.mono (by decide)) (dyn_cons t_Row_across (hr.mono (by decide)) (dyn_cons t_Column_across (hr.mono (by decide)) (dyn_cons t_Pad_across (hr.mono (by decide)) dyn_nil)))))) (pa_cons (pe_callB (k_max (K := K) rfl rfl) (by rfl) B.max_ (by decide +kernel) (pa_cons pe_int (pa_cons (pe_op op_sub (pv 1) (pe_op uo_mul pe_int (kpe_fld (K := K) rfl (pv 0) rfl))) pa_nil))) pa_nil))) pa_nil)))), ?_⟩
    try dsimp only [cxOf, Cx.nox, Cx.wish, Cx.blk]
    have hv := hv0
    rw [bxD] at hv
    obtain ⟨hb, hn⟩ : BxOk b ∧ Sm n := by
      cases ok with
      | pad hk hn hw hs => exact ⟨hk, hn⟩
    obtain ⟨n0, n1⟩ := id hn
    have b2 : Bd 2 2 := Bd.of 2 (by decide) (by decide)
    have bn : Bd 21 n := Bd.of 1000000 (by omega) (by decide)
    rw [Bx.dp] at h6
    wtm_at "n"
    refine s_dyn ?_
    wtm_at "n"
    rename_i u w
    refine n_dynAcr (b := b) w (.mem List.mem_cons_self) hb (by omega) fun r H1 w => ?_
    wtm_at "n"
    refine s_mul (Bd.cm b2 bn) ?_
    wtm_at "n"
    rw [show (if x - 2 * n > 0 then x - 2 * n else 0) = max 0 (x - 2 * n) by split <;> omega]
    refine n_held (t := b.acr) w (.mem List.mem_cons_self) ?_
    wtm_at "n"
    rename_i w
    exact k _ _ w.tail.tail
abbrev s__law_bag : Stmt := top 58
theorem sc__law_bag : FnScope ["_law_script", "_law_cell"] ["_law_script"] (defScope s__law_bag) := ⟨rfl, rfl, rfl, by decide +kernel, rfl, by decide +kernel, by decide +kernel⟩
def sp__law_bag (K : PySem.W.Frag) : Sp := fun vs H Q _ => ∃ I M a, ∃ ns : List Int, vs = [.ref a] ∧ W I H M ∧ SqL K H a (ns.map V.int) ∧ ∀ p c o J H', Same I J → W J H' ((p, o) :: M) → Bag J c o → Q (.ref p) H'
theorem use_bag {K : PySem.W.Frag} {H : Hp} {a : Addr} {ns : List Int} {Q : VK} {E : XK} (hS : SqL K H a (ns.map V.int)) (q : ∀ p c o J H', W J H' ((p, o) :: []) → Bag J c o → Q (.ref p) H') : sp__law_bag K ([.ref a] ++ []) H Q E :=
  ⟨_, _, a, ns, rfl, W.zero, hS, fun p c o J H' _ w b => q p c o J H' w b⟩
theorem n_bag {K : PySem.W.Frag} {H : Hp} {a : Addr} {ns : List Int} {Q : VK} {E : XK} (hS : SqL K H a (ns.map V.int)) (q : ∀ p H', Wf [] H' [.bag p] → Q (.ref p) H') : sp__law_bag K ([.ref a] ++ []) H Q E :=
  use_bag hS fun p c o J H' w hb => q p H' ⟨J, _, w, .cons (.bag hb) .nil, fun _ h => nomatch h⟩

theorem ok__law_bag {f : Addr} {fd : FuncData} (F : Fun K "_law_bag" "_law_bag" s__law_bag f fd) (B : Bn mg)  : FnOk P wd K mg base CX0 1 f fd ["_law_script"] (sp__law_bag K) := by
  refine F.ok sc__law_bag (fun vs H Q E h => ?_) (fun cdv A outer s H vs Q E hr h => ?_)
  · obtain ⟨I, M, a, ns, rfl, w, hS, k⟩ := h
    all_goals rfl
  · obtain ⟨I, M, a, ns, rfl, w, hS, k⟩ := h
    refine ⟨_, (pss_one (ps_ret (pe_lst (pa_cons pe_int (pa_cons pe_int (pa_cons pe_int (pa_cons (pe_lc (own := [("_law_cell", 1)]) (by rfl) sc__law_bag.nd (kpi_list (K := K) rfl (pe_slice (k_sl (K := K) rfl) (pv 0) po_none (po_some pe_int))) (blkOk_by (own := [("_law_cell", 1)]) (N := ["_law_script", "_law_cell"]) (sc := defScope s__law_bag) (by decide +kernel)) (fun _ _ _ _ _ => (pg_name (i := 1) sc__law_bag.nd rfl (Or.inl rfl))) (fun _ _ _ _ _ => pts_nil) (fun _ _ _ _ _ => (pe_callB uc_abs (by rfl) B.abs_ (by decide +kernel) (pa_cons (pv 1) pa_nil)))) pa_nil))))))), ?_⟩
    try dsimp only [cxOf, Cx.nox, Cx.wish, Cx.blk]
    wtm_at "go"
    obtain ⟨ms, hm⟩ := cut63 ns none (some 63)
    refine s_slK hS fun p np => ?_
    rw [hm]
    have w1 := w.newI (o := .lst (ms.map V.int)) np
    have s1 : Same I (upd I p (.lst (ms.map V.int))) := w.same np
    refine s_iL' w1 (.lst upd_same (IsA.ints ms)) fun a' vs' ea ha hA => ?_
    cases ea
    rw [upd_same] at ha
    cases ha
    intro D nD
    have w2 := w1.newM (o := .lst []) nD
    refine lc_it (walk_list (xs := ms.map V.int)) (fun i H' => ∃ acc : List Int, W (upd I p (.lst (ms.map V.int))) H' ((D, .lst (acc.map V.int)) :: M) ∧ acc.length = i ∧ ∀ n ∈ acc, 0 ≤ n) ⟨[], w2, rfl, fun _ h => nomatch h⟩ (fun i H' _ ⟨acc, w3, _⟩ => .inl (.inl (w3.imm _ _ upd_same))) ?_ ?_
    · rintro i x H3 H4 hi ⟨acc, w3, hl, hp⟩ ⟨rfl, e⟩
      obtain ⟨z, rfl⟩ : ∃ z, x = V.int z := by
        rw [List.getElem?_map] at e
        cases q : ms[i]? with
        | none => rw [q] at e; cases e
        | some z => rw [q] at e; exact ⟨z, (Option.some.inj e).symm⟩
      refine s_gname ⟨rfl, ?_⟩
      wtm_at "go"
      have hlen : acc.length < 16777216 := by
        rw [hl]
        have := (List.getElem?_eq_some_iff.mp e).1
        have h5 : (ms.map V.int).length ≤ 64 := by
          rw [← hm]
          unfold cutV
          rw [List.length_take]
          have : HT.sIx (ns.map V.int).length (ns.map V.int).length (some 63) ≤ 63 := by
            show min (63 : Int).toNat _ ≤ 63
            exact Nat.min_le_left _ _
          omega
        omega
      refine ⟨_, w3.at0, (by rw [List.length_map]; exact Nat.lt_of_lt_of_le hlen (by decide)), acc ++ [if z < 0 then -z else z], ?_, by rw [List.length_append, hl]; rfl, fun n hn => ?_⟩
      · have q := w3.put0 (o' := .lst (acc.map V.int ++ [V.int (if z < 0 then -z else z)]))
        rw [List.map_append]
        exact q
      · rcases List.mem_append.mp hn with h | h
        · exact hp n h
        · rw [List.mem_singleton.mp h]
          split <;> omega
    · rintro H3 ⟨acc, w3, _, hp⟩
      obtain ⟨J, s2, w4, h4⟩ := w3.done0 (IsA.ints acc)
      wtm_at "go"
      refine s_newM w4 (by simp) fun q H5 w5 => ?_
      obtain ⟨_, vs, e, h6, a6⟩ := h4.lst_ex
      cases e
      exact k q D _ J H5 (s1.trans s2) w5 ⟨⟨acc, by rw [h6, a6.ints_eq], hp⟩, 0, 1234567891, 0, rfl, by decide, by decide, by decide, by decide⟩
abbrev s__law_take : Stmt := top 59
theorem sc__law_take : FnScope ["_law_bag_here", "_law_many", "_law_more", "_law_cell", "_law_value", "_law_first", "_law_second"] ["_law_bag_here", "_law_many"] (defScope s__law_take) := ⟨rfl, rfl, rfl, by decide +kernel, rfl, by decide +kernel, by decide +kernel⟩
def sp__law_take : Sp := fun vs H Q _ => ∃ I M b c o, ∃ m : Int, vs = [.ref b, .int m] ∧ W I H ((b, o) :: M) ∧ Bag I c o ∧ 0 < m ∧ Bd 4000 m ∧ ∀ v o' H', 0 ≤ v → v < m → Bag I c o' → W I H' ((b, o') :: M) → Q (.int v) H'
theorem use_take {I H : Hp} {M : List (Addr × HO)} {b c : Addr} {o : HO} {m : Int} {Q : VK} {E : XK} (w : W I H ((b, o) :: M)) (hb : Bag I c o) (h0 : 0 < m) (h1 : m < 10 ^ 200) (q : ∀ v o' H', 0 ≤ v → v < m → Bag I c o' → W I H' ((b, o') :: M) → Q (.int v) H') : sp__law_take ([.ref b, .int m] ++ []) H Q E :=
  ⟨I, M, b, c, o, m, rfl, w, hb, h0, Bd.of (10 ^ 200) (by omega) (by decide +kernel), q⟩
theorem take_end {I : Hp} {M : List (Addr × HO)} {b c : Addr} {ns : List Int} {x y z m : Int} {Q : VK} (cs : I c = some (.lst (ns.map V.int))) (nn : ∀ n ∈ ns, 0 ≤ n) (x0 : 0 ≤ x) (y0 : 0 ≤ y) (y1 : y < 2147483647) (z0 : 0 ≤ z)
    (k : ∀ v o' H', 0 ≤ v → v < m → Bag I c o' → W I H' ((b, o') :: M) → Q (.int v) H') : ∀ v H', 0 ≤ v → v < m → W I H' ((b, .lst [.int x, .int y, .int z, .ref c]) :: M) → Q (.int v) H' := fun v H' h1 h2 w => k v _ H' h1 h2 ⟨⟨ns, cs, nn⟩, x, y, z, rfl, x0, y0, y1, z0⟩ w
theorem n_take {F : List (V × D)} {H : Hp} {M : List ME} {b : Addr} {m : Int} {Q : VK} {E : XK} (w : Wf F H M) (hb : .bag b ∈ M) (h0 : 0 < m) (h1 : m < 10 ^ 200) (q : ∀ v H', 0 ≤ v → v < m → Wf F H' M → Q (.int v) H') : sp__law_take ([.ref b, .int m] ++ []) H Q E := by
  obtain ⟨I, Mc, c, o, w, hb, _, up, _⟩ := w.oldB hb
  exact use_take w hb h0 h1 fun v o' H' v0 v1 hb' w' => q v H' v0 v1 (up I H' o' (Same.refl _) w' hb')
local macro_rules | `(tactic| wtm_at "c1") => `(tactic| ((with_reducible refine' n_take (by assumption) ?b ?c ?d ?_); (case b => ktf_call "mem"); (case c => omega); (case d => omega); (intro v H' v0 v1 w')))

theorem ok__law_take {f : Addr} {fd : FuncData} (F : Fun K "_law_take" "_law_take" s__law_take f fd) (B : Bn mg)  : FnOk P wd K mg base CX0 1 f fd ["_law_bag_here", "_law_many"] sp__law_take := by
  refine F.ok sc__law_take (fun vs H Q E h => ?_) (fun cdv A outer s H vs Q E hr h => ?_)
  · obtain ⟨I, M, b, c, o, m, rfl, w, ⟨⟨ns, cs, nn⟩, x, y, z, rfl, x0, y0, y1, z0⟩, h0, h1, k⟩ := h
    all_goals rfl
  · obtain ⟨I, M, b, c, o, m, rfl, w, ⟨⟨ns, cs, nn⟩, x, y, z, rfl, x0, y0, y1, z0⟩, h0, h1, k⟩ := h
    refine ⟨_, (pss_cons (ps_if (pt_cmpR (k_eq (K := K) rfl hr.units) (pe_ix (k_ix (K := K) rfl) (pv 0) pe_int (fun _ _ => rfl)) pe_int (nomark _)) (pss_cons (ps_set (i := 2) sc__law_take.nd rfl (Or.inl rfl) pe_int)
      (pss_cons (ps_if (pt_cmpR op_lt (pe_ix (k_ix (K := K) rfl) (pv 0) pe_int (fun _ _ => rfl)) (pe_callB (k_len (K := K) rfl) (by rfl) B.len_ (by decide +kernel) (pa_cons (pe_ix (k_ix (K := K) rfl) (pv 0) pe_int (fun _ _ => rfl)) pa_nil)) (nomark _)) (pss_cons (ps_set (i := 3) sc__law_take.nd rfl (Or.inl rfl) (pe_ix (k_ix (K := K) rfl) (pe_ix (k_ix (K := K) rfl) (pv 0) pe_int (fun _ _ => rfl)) (pe_ix (k_ix (K := K) rfl) (pv 0) pe_int (fun _ _ => rfl)) (fun _ _ => rfl)))
      (pss_cons (ps_augL (pv 0) pe_int pe_int)
      (pss_cons (ps_if (pt_cmpR op_ge (pv 3) pe_int (nomark _)) (pss_one (ps_asg (pv 3) (pg_sub (pv 0) pe_int set_list))) pss_nil)
      (pss_one (ps_set (i := 2) sc__law_take.nd rfl (Or.inl rfl) (pe_op (k_add (K := K) rfl) (pe_op op_mod (pv 3) pe_int) pe_int)))))) pss_nil)
      (pss_one (ps_asg (pe_op op_mod (pe_op (k_add (K := K) rfl) (pe_op uo_mul (pe_ix (k_ix (K := K) rfl) (pv 0) pe_int (fun _ _ => rfl)) pe_int) (pv 2)) pe_int) (pg_sub (pv 0) pe_int set_list))))) pss_nil)
      (pss_cons (ps_if (pt_cmpR op_gt (pe_ix (k_ix (K := K) rfl) (pv 0) pe_int (fun _ _ => rfl)) pe_int (nomark _)) (pss_cons (ps_set (i := 4) sc__law_take.nd rfl (Or.inl rfl) (pe_op op_mod (pe_ix (k_ix (K := K) rfl) (pv 0) pe_int (fun _ _ => rfl)) (pv 1)))
      (pss_cons (ps_asg (pe_op op_fdivW (pe_ix (k_ix (K := K) rfl) (pv 0) pe_int (fun _ _ => rfl)) (pv 1)) (pg_sub (pv 0) pe_int set_list))
      (pss_one (ps_ret (pv 4))))) pss_nil)
      (pss_cons (ps_set (i := 5) sc__law_take.nd rfl (Or.inl rfl) (pe_op op_mod (pe_op uo_mul (pe_ix (k_ix (K := K) rfl) (pv 0) pe_int (fun _ _ => rfl)) pe_int) pe_int))
      (pss_cons (ps_set (i := 6) sc__law_take.nd rfl (Or.inl rfl) (pe_op op_mod (pe_op uo_mul (pv 5) pe_int) pe_int))
      (pss_cons (ps_if (pt_cmpR op_gt (pv 1) pe_int (nomark _)) (pss_one (ps_ret (pe_op op_mod (pe_op (k_add (K := K) rfl) (pe_op uo_mul (pv 6) pe_int) (pv 5)) (pv 1)))) pss_nil)
      (pss_one (ps_ret (pe_op op_mod (pe_op op_fdivW (pv 6) pe_int) (pv 1))))))))), ?_⟩
    try dsimp only [cxOf, Cx.nox, Cx.wish, Cx.blk]
    have hc : Is I (.ref c) (.lst (ns.map D.int)) := .lst cs (IsA.ints ns)
    with_reducible refine s_mid (fun σ' H' => ∃ x y z v2 v3, σ' = [some (.ref b), some (.int m), v2, v3, none, none, none] ∧ 0 ≤ x ∧ 0 ≤ y ∧ y < 2147483647 ∧ 0 ≤ z ∧ W I H' ((b, .lst [.int x, .int y, .int z, .ref c]) :: M)) ?_ (fun N1 fin => ?_)
    · clear x0 y0 y1 z0 w
      rintro σ' H' ⟨x, y, z, v2, v3, rfl, x0, y0, y1, z0, w⟩
      wtm_at "go"
      wtm_at "fork"
      · wtm_at "go"
        refine s_I (show (0 : Int) < m from h0) ?_
        wtm_at "go"
        refine s_I (h1.cd h0) ?_
        wtm_at "go"
        refine take_end (x := x / m) (y := y) (z := z) cs nn (Int.ediv_nonneg x0 (by omega)) y0 y1 z0 k _ _ (Int.emod_nonneg _ (by omega)) (Int.emod_lt_of_pos _ h0) (by assumption)
      · wtm_at "go"
        wtm_at "goo"
        wtm_at "fork"
        · wtm_at "goo"
          exact take_end (x := x) (y := y) (z := z) cs nn x0 y0 y1 z0 k _ _ (Int.emod_nonneg _ (by omega)) (Int.emod_lt_of_pos _ h0) w
        · wtm_at "goo"
          exact take_end (x := x) (y := y) (z := z) cs nn x0 y0 y1 z0 k _ _ (Int.emod_nonneg _ (by omega)) (Int.emod_lt_of_pos _ h0) w
    · wtm_at "go"
      wtm_at "fork"
      · wtm_at "s1"; wtm_at "s1"; wtm_at "e1"; wtm_at "s1"
        with_reducible refine s_mid (fun σ' H' => ∃ x z v3, ∃ r : Int, σ' = [some (.ref b), some (.int m), some (.int r), v3, none, none, none] ∧ 0 ≤ r ∧ r ≤ 2147483647 ∧ 0 ≤ x ∧ 0 ≤ z ∧ W I H' ((b, .lst [.int x, .int y, .int z, .ref c]) :: M)) ?_ (fun N2 fin2 => ?_)
        · rintro σ' H' ⟨x', z', v3, r, rfl, r0, r1, x0', z0', w'⟩
          wtm_at "goo"
          exact fin _ _ ⟨x', (y * 48271 + r) % 2147483647, z', _, v3, rfl, x0', Int.emod_nonneg _ (by decide), Int.emod_lt_of_pos _ (by decide), z0', by assumption⟩
        · wtm_at "go"
          wtm_at "fork"
          · rename_i hz
            rw [List.length_map] at hz
            obtain ⟨n, hn, e⟩ := at_ints z0 hz
            have hn0 := nn n hn
            wtm_at "go"
            refine s_ixL w hc e ?_
            wtm_at "inv"
            wtm_at "go"
            wtm_at "fork"
            · wtm_at "goo"
              exact fin2 _ _ ⟨n, z + 1, _, _, rfl, by omega, by omega, by omega, by omega, by assumption⟩
            · wtm_at "goo"
              exact fin2 _ _ ⟨x, z + 1, _, _, rfl, by omega, by omega, by omega, by omega, by assumption⟩
          · wtm_at "go"
            exact fin2 _ _ ⟨x, z, none, 12345, rfl, by decide, by decide, x0, z0, w⟩
      · wtm_at "go"
        exact fin _ _ ⟨x, y, z, none, none, rfl, x0, y0, y1, z0, w⟩
abbrev s__law_length : Stmt := top 60
theorem sc__law_length : FnScope ["_law_bag_here", "_law_most", "_law_way"] ["_law_bag_here", "_law_most"] (defScope s__law_length) := ⟨rfl, rfl, rfl, by decide +kernel, rfl, by decide +kernel, by decide +kernel⟩
def sp__law_length : Sp := fun vs H Q _ => ∃ I M b c o, ∃ m : Int, vs = [.ref b, .int m] ∧ W I H ((b, o) :: M) ∧ Bag I c o ∧ 0 ≤ m ∧ m ≤ 1000000000000000000000000000000000000000000000 ∧ ∀ v o' H', 0 ≤ v → v ≤ m → Bag I c o' → W I H' ((b, o') :: M) → Q (.int v) H'
theorem use_length {I H : Hp} {M : List (Addr × HO)} {b c : Addr} {o : HO} {m : Int} {Q : VK} {E : XK} (w : W I H ((b, o) :: M)) (hb : Bag I c o) (h0 : 0 ≤ m) (h1 : m ≤ 1000000000000) (q : ∀ v o' H', 0 ≤ v → v ≤ m → Bag I c o' → W I H' ((b, o') :: M) → Q (.int v) H') : sp__law_length ([.ref b, .int m] ++ []) H Q E :=
  ⟨I, M, b, c, o, m, rfl, w, hb, h0, by omega, q⟩
theorem n_length {F : List (V × D)} {H : Hp} {M : List ME} {b : Addr} {m : Int} {Q : VK} {E : XK} (w : Wf F H M) (hb : .bag b ∈ M) (h0 : 0 ≤ m) (h1 : m ≤ 1000000000000) (q : ∀ v H', 0 ≤ v → v ≤ m → Wf F H' M → Q (.int v) H') : sp__law_length ([.ref b, .int m] ++ []) H Q E := by
  obtain ⟨I, Mc, c, o, w, hb, _, up, _⟩ := w.oldB hb
  exact use_length w hb h0 h1 fun v o' H' v0 v1 hb' w' => q v H' v0 v1 (up I H' o' (Same.refl _) w' hb')
theorem n_lengthB {F : List (V × D)} {H : Hp} {M : List ME} {b : Addr} {m : Int} {Q : VK} {E : XK} (w : Wf F H M) (hb : .bag b ∈ M) (h0 : 0 ≤ m) (h1 : m ≤ 1000000000000000000000000000000000000000000000) (q : ∀ v H', 0 ≤ v → v ≤ m → Wf F H' M → Q (.int v) H') : sp__law_length ([.ref b, .int m] ++ []) H Q E := by
  obtain ⟨I, Mc, c, o, w, hb, _, up, _⟩ := w.oldB hb
  exact ⟨I, Mc, b, c, o, m, rfl, w, hb, h0, h1, fun v o' H' v0 v1 hb' w' => q v H' v0 v1 (up I H' o' (Same.refl _) w' hb')⟩
local macro_rules | `(tactic| wtm_at "c1") => `(tactic| ((with_reducible refine' n_length (by assumption) ?b ?c ?d ?_); (case b => ktf_call "mem"); (case c => omega); (case d => omega); (intro v H' v0 v1 w')))

theorem ok__law_length {f : Addr} {fd : FuncData} (F : Fun K "_law_length" "_law_length" s__law_length f fd) (B : Bn mg) (c__law_take : Cal P wd K mg base "_law_take" 1 ["_law_bag_here", "_law_many"] [] sp__law_take)  : FnOk P wd K mg base CX0 2 f fd ["_law_bag_here", "_law_most"] sp__law_length := by
  refine F.ok sc__law_length (fun vs H Q E h => ?_) (fun cdv A outer s H vs Q E hr h => ?_)
  · obtain ⟨I, M, b, c, o, m, rfl, w, hb, h0, h1, k⟩ := h
    all_goals rfl
  · obtain ⟨I, M, b, c, o, m, rfl, w, hb, h0, h1, k⟩ := h
    refine ⟨_, (pss_cons (ps_set (i := 2) sc__law_length.nd rfl (Or.inl rfl) (pe_cal c__law_take (hr.mono (by decide)) (by rfl) (pa_cons (pv 0) (pa_cons pe_int pa_nil))))
      (pss_cons (ps_if (pt_cmpR (k_eq (K := K) rfl hr.units) (pv 2) pe_int (nomark _)) (pss_one (ps_ret (pe_cal c__law_take (hr.mono (by decide)) (by rfl) (pa_cons (pv 0) (pa_cons (pe_op (k_add (K := K) rfl) (pe_callB (k_min (K := K) rfl rfl) (by rfl) B.min_ (by decide +kernel) (pa_cons (pv 1) (pa_cons pe_int pa_nil))) pe_int) pa_nil))))) pss_nil)
      (pss_cons (ps_if (pt_cmpR (k_eq (K := K) rfl hr.units) (pv 2) pe_int (nomark _)) (pss_one (ps_ret (pe_cal c__law_take (hr.mono (by decide)) (by rfl) (pa_cons (pv 0) (pa_cons (pe_op (k_add (K := K) rfl) (pe_callB (k_min (K := K) rfl rfl) (by rfl) B.min_ (by decide +kernel) (pa_cons (pv 1) (pa_cons pe_int pa_nil))) pe_int) pa_nil))))) pss_nil)
      (pss_cons (ps_if (pt_cmpR (k_eq (K := K) rfl hr.units) (pv 2) pe_int (nomark _)) (pss_one (ps_ret (pe_op op_sub (pv 1) (pe_cal c__law_take (hr.mono (by decide)) (by rfl) (pa_cons (pv 0) (pa_cons (pe_op (k_add (K := K) rfl) (pe_callB (k_min (K := K) rfl rfl) (by rfl) B.min_ (by decide +kernel) (pa_cons (pv 1) (pa_cons pe_int pa_nil))) pe_int) pa_nil)))))) pss_nil)
      (pss_one (ps_ret (pe_cal c__law_take (hr.mono (by decide)) (by rfl) (pa_cons (pv 0) (pa_cons (pe_op (k_add (K := K) rfl) (pv 1) pe_int) pa_nil))))))))), ?_⟩
    try dsimp only [cxOf, Cx.nox, Cx.wish, Cx.blk]
    wtm_at "go"
    refine use_take w hb (by omega) (by omega) fun v o1 H1 v0 v1 hb1 w1 => ?_
    wtm_at "go"
    wtm_at "fork"
    · wtm_at "go"
      refine use_take w1 hb1 (by split <;> omega) (by split <;> omega) fun u o2 H2 u0 u1 hb2 w2 => ?_
      exact k u o2 H2 u0 (by split at u1 <;> omega) hb2 w2
    wtm_at "go"
    wtm_at "fork"
    · wtm_at "go"
      refine use_take w1 hb1 (by split <;> omega) (by split <;> omega) fun u o2 H2 u0 u1 hb2 w2 => ?_
      exact k u o2 H2 u0 (by split at u1 <;> omega) hb2 w2
    wtm_at "go"
    wtm_at "fork"
    · wtm_at "go"
      refine use_take w1 hb1 (by split <;> omega) (by split <;> omega) fun u o2 H2 u0 u1 hb2 w2 => ?_
      wtm_at "go"
      exact k _ o2 H2 (by split at u1 <;> omega) (by omega) hb2 w2
    wtm_at "go"
    refine use_take w1 hb1 (by omega) (by omega) fun u o2 H2 u0 u1 hb2 w2 => ?_
    exact k u o2 H2 u0 (by omega) hb2 w2
abbrev s__law_weight : Stmt := top 61
theorem sc__law_weight : FnScope ["_law_bag_here", "_law_way"] ["_law_bag_here"] (defScope s__law_weight) := ⟨rfl, rfl, rfl, by decide +kernel, rfl, by decide +kernel, by decide +kernel⟩
def sp__law_weight : Sp := fun vs H Q _ => ∃ F M b, vs = [.ref b] ∧ Wf F H M ∧ .bag b ∈ M ∧ ∀ v H', Wt v → Wf F H' M → Q (.int v) H'
theorem n_lwt {F : List (V × D)} {H : Hp} {M : List ME} {b : Addr} {Q : VK} {E : XK} (w : Wf F H M) (hb : .bag b ∈ M) (q : ∀ v H', Wt v → Wf F H' M → Q (.int v) H') : sp__law_weight ([.ref b] ++ []) H Q E := ⟨F, M, b, rfl, w, hb, q⟩

theorem ok__law_weight {f : Addr} {fd : FuncData} (F : Fun K "_law_weight" "_law_weight" s__law_weight f fd) (B : Bn mg) (c__law_take : Cal P wd K mg base "_law_take" 1 ["_law_bag_here", "_law_many"] [] sp__law_take)  : FnOk P wd K mg base CX0 2 f fd ["_law_bag_here"] sp__law_weight := by
  refine F.ok sc__law_weight (fun vs H Q E h => ?_) (fun cdv A outer s H vs Q E hr h => ?_)
  · obtain ⟨F, M, b, rfl, w, hb, k⟩ := h
    all_goals rfl
  · obtain ⟨F, M, b, rfl, w, hb, k⟩ := h
    refine ⟨_, (pss_cons (ps_set (i := 1) sc__law_weight.nd rfl (Or.inl rfl) (pe_cal c__law_take (hr.mono (by decide)) (by rfl) (pa_cons (pv 0) (pa_cons pe_int pa_nil))))
      (pss_cons (ps_if (pt_cmpR (k_eq (K := K) rfl hr.units) (pv 1) pe_int (nomark _)) (pss_one (ps_ret pe_int)) pss_nil)
      (pss_cons (ps_if (pt_cmpR (k_eq (K := K) rfl hr.units) (pv 1) pe_int (nomark _)) (pss_one (ps_ret pe_int)) pss_nil)
      (pss_cons (ps_if (pt_cmpR (k_eq (K := K) rfl hr.units) (pv 1) pe_int (nomark _)) (pss_one (ps_ret (pe_op (k_add (K := K) rfl) pe_int (pe_cal c__law_take (hr.mono (by decide)) (by rfl) (pa_cons (pv 0) (pa_cons pe_int pa_nil)))))) pss_nil)
      (pss_one (ps_ret (pe_cal c__law_take (hr.mono (by decide)) (by rfl) (pa_cons (pv 0) (pa_cons pe_int pa_nil))))))))), ?_⟩
    try dsimp only [cxOf, Cx.nox, Cx.wish, Cx.blk]
    wtm_at "n"
    refine n_take w hb (by omega) (by omega) fun c1 H1 c10 c11 w => ?_
    wtm_at "n"
    wtm_at "fork"
    · wtm_at "n"
      exact k _ _ ⟨by decide, by decide⟩ w
    wtm_at "n"
    wtm_at "fork"
    · wtm_at "n"
      exact k _ _ ⟨by decide, by decide⟩ w
    wtm_at "n"
    wtm_at "fork"
    · wtm_at "n"
      refine n_take w hb (by omega) (by omega) fun c2 H2 c20 c21 w => ?_
      wtm_at "n"
      exact k _ _ ⟨by omega, by omega⟩ w
    wtm_at "n"
    refine n_take w hb (by omega) (by omega) fun c2 H2 c20 c21 w => ?_
    exact k _ _ ⟨by omega, by omega⟩ w
abbrev s__law_key : Stmt := top 62
theorem sc__law_key : FnScope ["_law_bag_here", "_law_size", "_law_k"] ["_law_bag_here"] (defScope s__law_key) := ⟨rfl, rfl, rfl, by decide +kernel, rfl, by decide +kernel, by decide +kernel⟩
def sp__law_key : Sp := fun vs H Q _ => ∃ F M b, vs = [.ref b] ∧ Wf F H M ∧ .bag b ∈ M ∧ ∀ (z : Str) H', isnm (.str z) = true → Wf F H' M → Q (.str z) H'
theorem n_lkey {F : List (V × D)} {H : Hp} {M : List ME} {b : Addr} {Q : VK} {E : XK} (w : Wf F H M) (hb : .bag b ∈ M) (q : ∀ (z : Str) H', isnm (.str z) = true → Wf F H' M → Q (.str z) H') : sp__law_key ([.ref b] ++ []) H Q E := ⟨F, M, b, rfl, w, hb, q⟩

theorem ok__law_key {f : Addr} {fd : FuncData} (F : Fun K "_law_key" "_law_key" s__law_key f fd) (B : Bn mg) (c__law_take : Cal P wd K mg base "_law_take" 1 ["_law_bag_here", "_law_many"] [] sp__law_take)  : FnOk P wd K mg base CX0 2 f fd ["_law_bag_here"] sp__law_key := by
  refine F.ok sc__law_key (fun vs H Q E h => ?_) (fun cdv A outer s H vs Q E hr h => ?_)
  · obtain ⟨F, M, b, rfl, w, hb, k⟩ := h
    all_goals rfl
  · obtain ⟨F, M, b, rfl, w, hb, k⟩ := h
    refine ⟨_, (pss_cons (ps_if (pt_cmpR (k_eq (K := K) rfl hr.units) (pe_cal c__law_take (hr.mono (by decide)) (by rfl) (pa_cons (pv 0) (pa_cons pe_int pa_nil))) pe_int (nomark _)) (pss_one (ps_ret (pe_ix (k_ix (K := K) rfl) pe_str (pe_cal c__law_take (hr.mono (by decide)) (by rfl) (pa_cons (pv 0) (pa_cons pe_int pa_nil))) (fun _ _ => rfl)))) pss_nil)
      (pss_cons (ps_set (i := 1) sc__law_key.nd rfl (Or.inl rfl) (pe_op (k_add (K := K) rfl) pe_int (pe_cal c__law_take (hr.mono (by decide)) (by rfl) (pa_cons (pv 0) (pa_cons pe_int pa_nil)))))
      (pss_one (ps_ret (k_join (K := K) rfl pe_str (pe_lc (own := [("_law_k", 2)]) (by rfl) sc__law_key.nd (pi_range1 (by rfl) B.range_ (pa_cons (pv 1) pa_nil)) (blkOk_by (own := [("_law_k", 2)]) (N := ["_law_bag_here", "_law_size", "_law_k"]) (sc := defScope s__law_key) (by decide +kernel)) (fun _ _ _ _ _ => (pg_name (i := 2) sc__law_key.nd rfl (Or.inl rfl))) (fun _ _ _ _ _ => pts_nil) (fun _ _ _ _ _ => (pe_ix (k_ix (K := K) rfl) pe_str (pe_cal c__law_take (hr.mono (by decide)) (by rfl) (pa_cons (pv 0) (pa_cons pe_int pa_nil))) (fun _ _ => rfl))))))))), ?_⟩
    try dsimp only [cxOf, Cx.nox, Cx.wish, Cx.blk]
    have hl : Str.length ("abcdefghijklmnopqrstuvwxyz" : Str) = 26 := by decide +kernel
    have h3 : Str.length ("abc" : Str) = 3 := by decide +kernel
    wtm_at "n"
    refine n_take w hb (by omega) (by omega) fun c1 H1 c10 c11 w => ?_
    wtm_at "n"
    wtm_at "fork"
    · wtm_at "n"
      refine n_take w hb (by omega) (by omega) fun c2 H2 c20 c21 w => ?_
      refine s_ixLt c20 (by rw [h3]; exact c21) (by omega) abc_cps fun c hc => ?_
      wtm_at "n"
      exact k _ _ (isnm_cs (cs := [c]) (Nat.le_refl 1) (by show 1 ≤ 8; decide) fun c' h => by rw [List.mem_singleton.mp h]; exact hc) w
    wtm_at "n"
    refine n_take w hb (by omega) (by omega) fun c2 H2 c20 c21 w => ?_
    wtm_at "n"
    refine s_m1 ?_
    wtm_at "n"
    refine ⟨⟨_, rfl⟩, ?_⟩
    wtm_at "n"
    refine s_rng1' (by omega) (by omega) ?_
    refine n_lcR w (fun _ d => ∃ c : Nat, d = .str ⟨#[c]⟩ ∧ 97 ≤ c ∧ c ≤ 122) (by omega) (fun v => rfl) ?_ ?_
    · intro i D acc H0 C hi w kc
      wtm_at "n"
      refine n_take w (List.mem_cons_of_mem _ hb) (by omega) (by omega) fun x H1 x0 x1 w => ?_
      refine s_ixLt x0 (by rw [hl]; exact x1) (by omega) (fun c h => letters_iff.mp h) fun c hc => ?_
      exact kc _ _ _ (w.add (.str _)) ⟨c, rfl, hc⟩
    · intro p es H' hes hP w
      have ex : ∃ cs : List Nat, es = cs.map (fun c => D.str ⟨#[c]⟩) ∧ ∀ c ∈ cs, 97 ≤ c ∧ c ≤ 122 := by
        have hP' : ∀ d ∈ es, ∃ c : Nat, d = .str ⟨#[c]⟩ ∧ 97 ≤ c ∧ c ≤ 122 := fun d hd => by
          obtain ⟨i, hi⟩ := List.mem_iff_getElem?.mp hd
          exact hP i d hi
        clear hP hes w
        induction es with
        | nil => exact ⟨[], rfl, fun _ h => nomatch h⟩
        | cons d ds ih =>
          obtain ⟨cs, e, hc⟩ := ih fun d hd => hP' d (List.mem_cons_of_mem _ hd)
          obtain ⟨c, ec, h⟩ := hP' d List.mem_cons_self
          exact ⟨c :: cs, by rw [List.map_cons, ec, e], fun c' h' => by
            rcases List.mem_cons.mp h' with rfl | h'
            · exact h
            · exact hc c' h'⟩
      obtain ⟨cs, rfl, hc⟩ := ex
      rw [List.length_map] at hes
      refine n_joinL w (.ml List.mem_cons_self) (by omega) ?_
      exact k _ _ (isnm_cs (by omega) (by omega) hc) (by wtm_at "wf")
abbrev s__law_leaf : Stmt := top 63
theorem sc__law_leaf : FnScope ["_law_bag_here", "_law_base", "_law_least", "_law_greatest"] ["_law_bag_here"] (defScope s__law_leaf) := ⟨rfl, rfl, rfl, by decide +kernel, rfl, by decide +kernel, by decide +kernel⟩
def sp__law_leaf : Sp := fun vs H Q _ => ∃ F M b, vs = [.ref b] ∧ Wf F H M ∧ .bag b ∈ M ∧ ∀ r H' k c l g p s, BxOk (.leaf k c l g p s) → Wf ((r, spD (.leaf k c l g p s)) :: F) H' M → Q r H'
theorem n_lleaf {F : List (V × D)} {H : Hp} {M : List ME} {b : Addr} {Q : VK} {E : XK} (w : Wf F H M) (hb : .bag b ∈ M) (q : ∀ r H' k c l g p s, BxOk (.leaf k c l g p s) → Wf ((r, spD (.leaf k c l g p s)) :: F) H' M → Q r H') : sp__law_leaf ([.ref b] ++ []) H Q E := ⟨F, M, b, rfl, w, hb, q⟩

theorem ok__law_leaf {f : Addr} {fd : FuncData} (F : Fun K "_law_leaf" "_law_leaf" s__law_leaf f fd) (B : Bn mg) (c__law_length : Cal P wd K mg base "_law_length" 2 ["_law_bag_here", "_law_most"] [] sp__law_length) (c__law_take : Cal P wd K mg base "_law_take" 1 ["_law_bag_here", "_law_many"] [] sp__law_take) (c__law_weight : Cal P wd K mg base "_law_weight" 2 ["_law_bag_here"] [] sp__law_weight) (c__law_key : Cal P wd K mg base "_law_key" 2 ["_law_bag_here"] [] sp__law_key)  : FnOk P wd K mg base CX0 3 f fd ["_law_bag_here"] sp__law_leaf := by
  refine F.ok sc__law_leaf (fun vs H Q E h => ?_) (fun cdv A outer s H vs Q E hr h => ?_)
  · obtain ⟨F, M, b, rfl, w, hb, k⟩ := h
    all_goals rfl
  · obtain ⟨F, M, b, rfl, w, hb, k⟩ := h
    refine ⟨_, (pss_cons (ps_set (i := 1) sc__law_leaf.nd rfl (Or.inl rfl) (pe_cal c__law_length (hr.mono (by decide)) (by rfl) (pa_cons (pv 0) (pa_cons pe_int pa_nil))))
      (pss_cons (ps_set (i := 2) sc__law_leaf.nd rfl (Or.inl rfl) (pe_cal c__law_length (hr.mono (by decide)) (by rfl) (pa_cons (pv 0) (pa_cons (pv 1) pa_nil))))
      (pss_cons (ps_set (i := 3) sc__law_leaf.nd rfl (Or.inl rfl) pe_non)
      (pss_cons (ps_if (pt_cmpR (k_eq (K := K) rfl hr.units) (pe_cal c__law_take (hr.mono (by decide)) (by rfl) (pa_cons (pv 0) (pa_cons pe_int pa_nil))) pe_int (nomark _)) (pss_one (ps_set (i := 3) sc__law_leaf.nd rfl (Or.inl rfl) (pe_op (k_add (K := K) rfl) (pv 1) (pe_cal c__law_length (hr.mono (by decide)) (by rfl) (pa_cons (pv 0) (pa_cons (pe_op op_sub pe_int (pv 1)) pa_nil)))))) pss_nil)
      (pss_one (ps_ret (pe_tup (pa_cons pe_str (pa_cons (pe_lst pa_nil) (pa_cons (pe_tup (pa_cons (pe_cal c__law_key (hr.mono (by decide)) (by rfl) (pa_cons (pv 0) pa_nil)) (pa_cons (pv 1) (pa_cons (pv 2) (pa_cons (pv 3) (pa_cons (pe_cal c__law_weight (hr.mono (by decide)) (by rfl) (pa_cons (pv 0) pa_nil)) (pa_cons (pe_cal c__law_weight (hr.mono (by decide)) (by rfl) (pa_cons (pv 0) pa_nil)) pa_nil))))))) pa_nil)))))))))), ?_⟩
    try dsimp only [cxOf, Cx.nox, Cx.wish, Cx.blk]
    rw [show L2.start (["_law_bag_here", "_law_base", "_law_least", "_law_greatest"] : List Str) [.ref b] = [some (.ref b), none, none, none] from rfl]
    wtm_at "n"
    refine n_length w hb (by omega) (by omega) fun c H1 c0 c1 w => ?_
    wtm_at "n"
    refine n_length w hb (by omega) (by omega) fun l H2 l0 l1 w => ?_
    wtm_at "sq2"
    simp only [List.set_cons_succ, List.set_cons_zero]
    with_reducible refine s_midX (fun σ' H' => ∃ g : Option Int, σ' = [some (.ref b), some (.int c), some (.int l), some (oV g)] ∧ (∀ n, g = some n → c ≤ n ∧ n ≤ 1000000) ∧ Wf F H' M) ?_ (fun N fin => ?_)
    rotate_left
    · wtm_at "n"
      refine n_take w hb (by omega) (by omega) fun c3 H3 c30 c31 w => ?_
      wtm_at "n"
      wtm_at "fork"
      · wtm_at "n"
        refine n_length w hb (by omega) (by omega) fun g H4 g0 g1 w => ?_
        wtm_at "n"
        exact fin _ _ ⟨some (c + g), rfl, fun n e => by cases e; omega, w⟩
      · wtm_at "n"
        exact fin _ _ ⟨none, rfl, fun n e => (nomatch e), w⟩
    clear w
    rintro σ' H' ⟨g, rfl, hg, w⟩
    wtm_at "n"
    rename_i p0 H5 w0
    have w := w0.frzL .here
    clear w0
    refine n_lkey w hb fun z H6 hz w => ?_
    wtm_at "n"
    refine n_lwt w hb fun p H7 hp w => ?_
    wtm_at "n"
    refine n_lwt w hb fun s H8 hs w => ?_
    wtm_at "n"
    refine n_newT w (.cons (.str _) (.cons (.int _) (.cons (.int _) (.cons (.oV g) (.cons (.int _) (.cons (.int _) .nil)))))) (by show 6 ≤ 1000; decide) fun pt H9 w => ?_
    wtm_at "n"
    rename_i w
    exact k _ _ z c l g p s (.leaf hz ⟨by omega, by omega⟩ l0 (by omega) hg hp hs) (by rw [spD]; wtm_at "wf1")
abbrev s__law_tree : Stmt := top 64
theorem sc__law_tree : FnScope ["_law_bag_here", "_law_deep", "_law_room", "_law_kind", "_law_kid", "_law_kids", "_law_k", "_law_word"] ["_law_bag_here", "_law_deep", "_law_room", "_law_kind"] (defScope s__law_tree) := ⟨rfl, rfl, rfl, by decide +kernel, rfl, by decide +kernel, by decide +kernel⟩
def sp__law_tree (m : Nat) : Sp := fun vs H Q _ => ∃ (F : List (V × D)) (G : Int → List ME) (b rp : Addr) (dp n kd : Int), vs = [.ref b, .int dp, .ref rp, .int kd] ∧ Wf F H (G n) ∧ (∀ n, .bag b ∈ G n) ∧ (∀ n, .ml rp [.int n] ∈ G n) ∧ (∀ n n', Foc (G n) (.ml rp [.int n]) (G n') (.ml rp [.int n'])) ∧ 1 ≤ dp ∧ dp ≤ m ∧ dp ≤ 6 ∧ 1 ≤ n ∧ n ≤ 60 ∧ ∀ r H' t (n' : Int), BxOk t → (t.dp : Int) ≤ dp → n' + t.mn = n → 0 ≤ n' → Wf ((r, spD t) :: F) H' (G n') → Q r H'
theorem no0__law_tree {vs : List V} {H : Hp} {Q : VK} {E : XK} : ¬ sp__law_tree 0 vs H Q E := fun ⟨_, _, _, _, _, _, _, _, _, _, _, _, h0, h1, _⟩ => by omega
theorem n_ltree {F : List (V × D)} {H : Hp} {G : Int → List ME} {b rp : Addr} {dp n kd : Int} {m : Nat} {Q : VK} {E : XK} (w : Wf F H (G n)) (hb : ∀ n, .bag b ∈ G n) (hm : ∀ n, .ml rp [.int n] ∈ G n) (hf : ∀ n n', Foc (G n) (.ml rp [.int n]) (G n') (.ml rp [.int n'])) (d0 : 1 ≤ dp) (d1 : dp ≤ m) (d6 : dp ≤ 6) (n0 : 1 ≤ n) (n1 : n ≤ 60) (q : ∀ r H' t (n' : Int), BxOk t → (t.dp : Int) ≤ dp → n' + t.mn = n → 0 ≤ n' → Wf ((r, spD t) :: F) H' (G n') → Q r H') : sp__law_tree m ([.ref b, .int dp, .ref rp, .int kd] ++ []) H Q E := ⟨F, G, b, rp, dp, n, kd, rfl, w, hb, hm, hf, d0, d1, d6, n0, n1, q⟩

theorem ok0__law_tree {f : Addr} {fd : FuncData} (F : Fun K "_law_tree" "_law_tree" s__law_tree f fd) : FnOk P wd K mg base CX0 4 f fd ["_law_bag_here", "_law_deep", "_law_room", "_law_kind"] (sp__law_tree 0) := F.ok sc__law_tree (fun vs H Q E h => (no0__law_tree h).elim) (fun cdv A outer s H vs Q E hr h => (no0__law_tree h).elim)
theorem ok__law_tree {dep : Nat} {f : Addr} {fd : FuncData} (F : Fun K "_law_tree" "_law_tree" s__law_tree f fd) (B : Bn mg) (c__law_weight : Cal P wd K mg base "_law_weight" 2 ["_law_bag_here"] [] sp__law_weight) (c__law_leaf : Cal P wd K mg base "_law_leaf" 3 ["_law_bag_here"] [] sp__law_leaf) (c__law_take : Cal P wd K mg base "_law_take" 1 ["_law_bag_here", "_law_many"] [] sp__law_take) (c__law_length : Cal P wd K mg base "_law_length" 2 ["_law_bag_here", "_law_most"] [] sp__law_length) (c__law_tree : Cal P wd K mg base "_law_tree" (4 + dep) ["_law_bag_here", "_law_deep", "_law_room", "_law_kind"] [] (sp__law_tree dep))  : FnOk P wd K mg base CX0 (4 + dep + 1) f fd ["_law_bag_here", "_law_deep", "_law_room", "_law_kind"] (sp__law_tree (dep + 1)) := by
  refine F.ok sc__law_tree (fun vs H Q E h => ?_) (fun cdv A outer s H vs Q E hr h => ?_)
  · obtain ⟨F, G, b, rp, dp, n, kd, rfl, w, hb, hm, hf, d0, d1, d6, n0, n1, k⟩ := h
    all_goals rfl
  · obtain ⟨F, G, b, rp, dp, n, kd, rfl, w, hb, hm, hf, d0, d1, d6, n0, n1, k⟩ := h
    refine ⟨_, (pss_cons (ps_augLS (pv 2) pe_int pe_int)
      (pss_cons (ps_if (pw_or (pt_cmpR op_lt (pv 1) pe_int (nomark _)) (pw_or (pt_cmpR op_lt (pe_ix (k_ix (K := K) rfl) (pv 2) pe_int (fun _ _ => rfl)) pe_int (nomark _)) (pw_or1 (pt_cmpR op_lt (pv 3) pe_int (nomark _))))).pt (pss_cons (ps_if (pt_cmpR (k_eq (K := K) rfl hr.units) (pv 3) pe_int (nomark _)) (pss_one (ps_ret (pe_tup (pa_cons pe_str (pa_cons (pe_lst pa_nil) (pa_cons (pe_tup (pa_cons (pe_cal c__law_weight (hr.mono (by omega)) (by rfl) (pa_cons (pv 0) pa_nil)) (pa_cons (pe_cal c__law_weight (hr.mono (by omega)) (by rfl) (pa_cons (pv 0) pa_nil)) pa_nil))) pa_nil)))))) pss_nil)
      (pss_one (ps_ret (pe_cal c__law_leaf (hr.mono (by omega)) (by rfl) (pa_cons (pv 0) pa_nil))))) pss_nil)
      (pss_cons (ps_if (pt_cmpR (k_eq (K := K) rfl hr.units) (pv 3) pe_int (nomark _)) (pss_cons (ps_set (i := 4) sc__law_tree.nd rfl (Or.inl rfl) (pe_cal c__law_tree (hr.mono (by omega)) (by rfl) (pa_cons (pv 0) (pa_cons (pe_op op_sub (pv 1) pe_int) (pa_cons (pv 2) (pa_cons (pe_cal c__law_take (hr.mono (by omega)) (by rfl) (pa_cons (pv 0) (pa_cons pe_int pa_nil))) pa_nil))))))
      (pss_one (ps_ret (pe_tup (pa_cons pe_str (pa_cons (pe_lst (pa_cons (pv 4) pa_nil)) (pa_cons (pe_tup (pa_cons (pe_cal c__law_length (hr.mono (by omega)) (by rfl) (pa_cons (pv 0) (pa_cons pe_int pa_nil))) (pa_cons (pe_cal c__law_weight (hr.mono (by omega)) (by rfl) (pa_cons (pv 0) pa_nil)) (pa_cons (pe_cal c__law_weight (hr.mono (by omega)) (by rfl) (pa_cons (pv 0) pa_nil)) pa_nil)))) pa_nil))))))) pss_nil)
      (pss_cons (ps_set (i := 5) sc__law_tree.nd rfl (Or.inl rfl) (pe_lst pa_nil))
      (pss_cons (ps_for PassesOwn.never rfl (pi_range1 (by rfl) B.range_ (pa_cons (pe_cal c__law_take (hr.mono (by omega)) (by rfl) (pa_cons (pv 0) (pa_cons pe_int pa_nil))) pa_nil)) (pg_name (i := 6) sc__law_tree.nd rfl (Or.inl rfl)) (pss_one (ps_if (pw_and (pt_cmpR op_gt (pe_ix (k_ix (K := K) rfl) (pv 2) pe_int (fun _ _ => rfl)) pe_int (nomark _)) (pw_and (pt_cmpR (k_ne (K := K) rfl hr.units) (pv 5) (pe_lst pa_nil) (nomark _)) (pw_and (pt_cmpR (k_eq (K := K) rfl hr.units) (pe_ix (k_ix (K := K) rfl) (pe_ix (k_ix (K := K) rfl) (pv 5) (pe_un un_neg pe_int) (fun _ _ => rfl)) pe_int (fun _ _ => rfl)) pe_str (nomark _)) (pw_and1 (pt_cmpR (k_eq (K := K) rfl hr.units) (pe_cal c__law_take (hr.mono (by omega)) (by rfl) (pa_cons (pv 0) (pa_cons pe_int pa_nil))) pe_int (nomark _)))))).pt (pss_cons (ps_augLS (pv 2) pe_int pe_int)
      (pss_one (ps_expr (pe_bm PySem.F.plainAttrs_list PySem.F.slot_list_append PySem.F.type_list_append mt_append (pv 5) (pa_cons (pe_ix (k_ix (K := K) rfl) (pv 5) (pe_un un_neg pe_int) (fun _ _ => rfl)) pa_nil))))) (pss_one (ps_if (pt_cmpR op_gt (pe_ix (k_ix (K := K) rfl) (pv 2) pe_int (fun _ _ => rfl)) pe_int (nomark _)) (pss_one (ps_expr (pe_bm PySem.F.plainAttrs_list PySem.F.slot_list_append PySem.F.type_list_append mt_append (pv 5) (pa_cons (pe_cal c__law_tree (hr.mono (by omega)) (by rfl) (pa_cons (pv 0) (pa_cons (pe_op op_sub (pv 1) pe_int) (pa_cons (pv 2) (pa_cons (pe_cal c__law_take (hr.mono (by omega)) (by rfl) (pa_cons (pv 0) (pa_cons pe_int pa_nil))) pa_nil))))) pa_nil)))) pss_nil)))))
      (pss_cons (ps_set (i := 7) sc__law_tree.nd rfl (Or.inl rfl) pe_str)
      (pss_cons (ps_if (pt_cmpR (k_eq (K := K) rfl hr.units) (pe_op op_mod (pv 3) pe_int) pe_int (nomark _)) (pss_one (ps_set (i := 7) sc__law_tree.nd rfl (Or.inl rfl) pe_str)) pss_nil)
      (pss_one (ps_ret (pe_tup (pa_cons (pv 7) (pa_cons (pv 5) (pa_cons (pe_tup (pa_cons (pe_cal c__law_length (hr.mono (by omega)) (by rfl) (pa_cons (pv 0) (pa_cons pe_int pa_nil))) (pa_cons (pe_cal c__law_weight (hr.mono (by omega)) (by rfl) (pa_cons (pv 0) pa_nil)) (pa_cons (pe_cal c__law_weight (hr.mono (by omega)) (by rfl) (pa_cons (pv 0) pa_nil)) pa_nil)))) pa_nil))))))))))))), ?_⟩
    try dsimp only [cxOf, Cx.nox, Cx.wish, Cx.blk]
    rw [show L2.start (["_law_bag_here", "_law_deep", "_law_room", "_law_kind", "_law_kid", "_law_kids", "_law_k", "_law_word"] : List Str) [.ref b, .int dp, .ref rp, .int kd] = [some (.ref b), some (.int dp), some (.ref rp), some (.int kd), none, none, none, none] from rfl]
    have hm0 := hm n
    wtm_at "n"
    refine n_ixLLi w (.ml hm0) rfl ?_
    wtm_at "n"
    refine n_set (k := 0) (j := 0) (d := .int (n - 1)) w (hf n (n - 1)) (Kn.int _) rfl fun H1 w => ?_
    have hm1 := hm (n - 1)
    by_cases h1 : dp < 2
    · wtm_at "no"
      wtm_at "fork"
      · wtm_at "n"
        rename_i p0 H5 w0
        have w := w0.frzL .here
        clear w0
        refine n_lwt w (hb _) fun p H7 hp w => ?_
        wtm_at "n"
        refine n_lwt w (hb _) fun s H8 hs w => ?_
        wtm_at "n"
        rename_i w
        exact k _ _ (.box p s) (n - 1) (.box hp hs) (by rw [Bx.dp]; omega) (by rw [Bx.mn]; omega) (by omega) (by rw [spD]; wtm_at "wf1")
      · wtm_at "n"
        refine n_lleaf w (hb _) fun r H' k' c l g p s ok w => ?_
        exact k _ _ _ (n - 1) ok (by rw [Bx.dp]; omega) (by rw [Bx.mn]; omega) (by omega) w
    
    by_cases h2 : n - 1 < 1
    · wtm_at "no"
      wtm_at "fork"
      · wtm_at "n"
        rename_i p0 H5 w0
        have w := w0.frzL .here
        clear w0
        refine n_lwt w (hb _) fun p H7 hp w => ?_
        wtm_at "n"
        refine n_lwt w (hb _) fun s H8 hs w => ?_
        wtm_at "n"
        rename_i w
        exact k _ _ (.box p s) (n - 1) (.box hp hs) (by rw [Bx.dp]; omega) (by rw [Bx.mn]; omega) (by omega) (by rw [spD]; wtm_at "wf1")
      · wtm_at "n"
        refine n_lleaf w (hb _) fun r H' k' c l g p s ok w => ?_
        exact k _ _ _ (n - 1) ok (by rw [Bx.dp]; omega) (by rw [Bx.mn]; omega) (by omega) w
    
    by_cases h3 : kd < 2
    · wtm_at "no"
      wtm_at "fork"
      · wtm_at "n"
        rename_i p0 H5 w0
        have w := w0.frzL .here
        clear w0
        refine n_lwt w (hb _) fun p H7 hp w => ?_
        wtm_at "n"
        refine n_lwt w (hb _) fun s H8 hs w => ?_
        wtm_at "n"
        rename_i w
        exact k _ _ (.box p s) (n - 1) (.box hp hs) (by rw [Bx.dp]; omega) (by rw [Bx.mn]; omega) (by omega) (by rw [spD]; wtm_at "wf1")
      · wtm_at "n"
        refine n_lleaf w (hb _) fun r H' k' c l g p s ok w => ?_
        exact k _ _ _ (n - 1) ok (by rw [Bx.dp]; omega) (by rw [Bx.mn]; omega) (by omega) w
    
    wtm_at "no"
    wtm_at "fork"
    · wtm_at "n"
      refine n_take w (hb _) (by omega) (by omega) fun c H6 c0 c1 w => ?_
      wtm_at "n"
      refine n_ltree w hb hm hf (by omega) (by omega) (by omega) (by omega) (by omega) fun r H7 t n3 ok hd hn h0 w => ?_
      wtm_at "n"
      rename_i p0 H8 w0
      have w := w0.frzL .here
      clear w0
      refine n_length w (hb _) (by omega) (by omega) fun c' H9 c0' c1' w => ?_
      wtm_at "n"
      refine n_lwt w (hb _) fun p H7 hp w => ?_
      wtm_at "n"
      refine n_lwt w (hb _) fun s H8 hs w => ?_
      wtm_at "n"
      rename_i w
      exact k _ _ (.pad t c' p s) n3 (.pad ok ⟨by omega, by omega⟩ hp hs) (by rw [Bx.dp]; omega) (by rw [Bx.mn]; omega) h0 (by rw [spD]; wtm_at "wf1")
    wtm_at "n"
    rename_i p0 H5 w0
    have w : Wf F H5 (.ml p0 (([] : List Bx).map spD) :: G (n - 1)) := w0
    clear w0
    refine n_take w (.tail _ (hb _)) (by omega) (by omega) fun c H6 c0 c1 w => ?_
    wtm_at "n"
    refine s_rng1' (by omega) (by omega) ?_
    refine n_forR w (fun i σ' F' M' => ∃ (ks : List Bx) (n2 : Int) (x4 x6 x7 : Option V), σ' = [some (.ref b), some (.int dp), some (.ref rp), some (.int kd), x4, some (.ref p0), x6, x7] ∧ F = F' ∧ M' = .ml p0 (ks.map spD) :: G n2 ∧ ks.length ≤ i ∧ n2 + (Bx.mns ks : Int) = n - 1 ∧ 0 ≤ n2 ∧ ∀ k ∈ ks, BxOk k ∧ (k.dp : Int) ≤ dp - 1) ⟨[], n - 1, _, _, _, rfl, rfl, rfl, Nat.le_refl _, by rw [Bx.mns]; omega, by omega, fun _ h => nomatch h⟩ ?_ ?_
    rotate_left
    · clear w
      rintro σ' H' F' M' ⟨ks, n2, x4, x6, x7, rfl, rfl, rfl, hl, hn, h0, hks⟩ w
      have w := w.frzL .here
      wtm_at "sq2"
      simp only [List.set_cons_succ, List.set_cons_zero]
      with_reducible refine s_midX (fun σ' H' => ∃ c : Bool, σ' = [some (.ref b), some (.int dp), some (.ref rp), some (.int kd), x4, some (.ref p0), x6, some (.str (if c then "column" else "row"))] ∧ Wf ((.ref p0, .lst (ks.map spD)) :: F) H' (G n2)) ?_ (fun N fin => ?_)
      rotate_left
      · wtm_at "no"
        wtm_at "fork"
        · wtm_at "n"
          exact fin _ _ ⟨true, rfl, w⟩
        · wtm_at "n"
          exact fin _ _ ⟨false, rfl, w⟩
      clear w
      rintro σ' H' ⟨cc, rfl, w⟩
      wtm_at "n"
      refine n_length w (hb _) (by omega) (by omega) fun c' H9 c0' c1' w => ?_
      wtm_at "n"
      refine n_lwt w (hb _) fun p H7 hp w => ?_
      wtm_at "n"
      refine n_lwt w (hb _) fun s H8 hs w => ?_
      wtm_at "n"
      rename_i w
      have e1 : (Bx.dps ks : Int) ≤ dp - 1 := by
        have := dps_bd (n := (dp - 1).toNat) fun k hk => by have := (hks k hk).2; omega
        omega
      exact k _ _ (.line cc ks c' p s) n2 (.line (fun k hk => (hks k hk).1) (by omega) ⟨by omega, by omega⟩ hp hs) (by rw [Bx.dp]; omega) (by rw [Bx.mn]; omega) h0 (by rw [spD, spDs_map]; wtm_at "wf1")
    clear w
    rintro i σ' H' F' M' hi ⟨ks, n2, x4, x6, x7, rfl, rfl, rfl, hl, hn, h0, hks⟩ w
    have hm2 := hm n2
    have hnb : NB 60 (.lst (ks.map spD)) := (nb_kids (n := 5) fun k hk => ⟨(hks k hk).1, by have := (hks k hk).2; omega⟩).mono (by decide)
    by_cases h4 : n2 > 0
    rotate_left
    · wtm_at "no"
      exact ⟨_, _, ⟨ks, n2, _, _, _, rfl, rfl, rfl, by omega, hn, h0, hks⟩, w⟩
    rcases List.eq_nil_or_concat ks with rfl | ⟨l, a, rfl⟩
    · wtm_at "no"
      rename_i pe He we
      refine n_ne we (.more (.ml List.mem_cons_self)) (.ml List.mem_cons_self) (hnb) (NB.lst (k := 1) fun _ h => nomatch h) (by decide) (by decide) (b := true) (by simp) ?_
      have w : Wf F He (.ml p0 (([] : List Bx).map spD) :: G n2) := we.sub (fun f hf => .mem hf) (List.sublist_cons_self _ _)
      clear we
      wtm_at "no"
      refine n_take w (.tail _ (hb _)) (by omega) (by omega) fun c H6 c0 c1 w => ?_
      wtm_at "n"
      refine n_ltree (G := fun n => .ml p0 (([] : List Bx).map spD) :: G n) w (fun n => .tail _ (hb n)) (fun n => .tail _ (hm n)) (fun n n' => .there (hf n n')) (by omega) (by omega) (by omega) (by omega) (by omega) fun r H7 t n3 ok hd hn h0 w => ?_
      wtm_at "n"
      rename_i w
      exact ⟨_, _, ⟨[] ++ [t], n3, _, _, _, rfl, rfl, rfl, by rw [List.length_append, List.length_singleton]; omega, by rw [mns_snoc]; omega, h0, fun k hk => by
        rcases List.mem_append.mp hk with h | h
        · exact hks k h
        · rw [List.mem_singleton.mp h]; exact ⟨ok, hd⟩⟩, by rw [List.map_append]; exact w.sub (fun f hf => .mem (by simp [hf])) (.refl _)⟩
    
    wtm_at "no"
    rename_i pe He we
    refine n_ne we (.more (.ml List.mem_cons_self)) (.ml List.mem_cons_self) hnb (NB.lst (k := 1) fun _ h => nomatch h) (by decide) (by decide) (b := false) (by simp) ?_
    have w : Wf F He (.ml p0 (l.map spD ++ [spD a]) :: G n2) := we.sub (fun f hf => .mem hf) (by rw [List.concat_eq_append, List.map_append]; exact List.sublist_cons_self _ _)
    clear we
    rw [List.concat_eq_append] at *
    have hl2 : l.length + 1 ≤ i := by simpa using hl
    wtm_at "no"
    rename_i u wu
    have wu : Wf ((u, .tup [.str a.tag, .lst (a.kids.map spD), .tup a.args]) :: F) He (.ml p0 (l.map spD ++ [spD a]) :: G n2) := by rw [← spD_eq]; exact wu
    wtm_at "no"
    rename_i u1 w1
    obtain ⟨rfl, w2⟩ := w1.str0
    clear w1 w2
    wtm_at "no"
    have back : ∀ {u : V} {d : D} {H : Hp}, Wf ((u, d) :: F) H (.ml p0 (l.map spD ++ [spD a]) :: G n2) → Wf F H (.ml p0 ((l ++ [a]).map spD) :: G n2) := fun w => by
      rw [List.map_append]
      exact w.tail
    wtm_at "fork"
    rotate_left
    · have w := back wu
      wtm_at "no"
      refine n_take w (.tail _ (hb _)) (by omega) (by omega) fun c H6 c0 c1 w => ?_
      wtm_at "n"
      refine n_ltree (G := fun n => .ml p0 ((l ++ [a]).map spD) :: G n) w (fun n => .tail _ (hb n)) (fun n => .tail _ (hm n)) (fun n n' => .there (hf n n')) (by omega) (by omega) (by omega) (by omega) (by omega) fun r H7 t n3 ok hd hn h0 w => ?_
      wtm_at "n"
      rename_i w
      exact ⟨_, _, ⟨l ++ [a] ++ [t], n3, _, _, _, rfl, rfl, rfl, by rw [List.length_append, List.length_singleton]; omega, by rw [mns_snoc]; omega, h0, fun k hk => by
        rcases List.mem_append.mp hk with h | h
        · exact hks k h
        · rw [List.mem_singleton.mp h]; exact ⟨ok, hd⟩⟩, by rw [List.map_append]; exact w.sub (fun f hf => .mem (by simp [hf])) (.refl _)⟩
    
    rename_i htag
    wtm_at "n"
    refine n_take wu (.tail _ (hb _)) (by omega) (by omega) fun c5 H6 c50 c51 wu => ?_
    wtm_at "n"
    wtm_at "fork"
    rotate_left
    · have w := back wu
      wtm_at "no"
      refine n_take w (.tail _ (hb _)) (by omega) (by omega) fun c H6 c0 c1 w => ?_
      wtm_at "n"
      refine n_ltree (G := fun n => .ml p0 ((l ++ [a]).map spD) :: G n) w (fun n => .tail _ (hb n)) (fun n => .tail _ (hm n)) (fun n n' => .there (hf n n')) (by omega) (by omega) (by omega) (by omega) (by omega) fun r H7 t n3 ok hd hn h0 w => ?_
      wtm_at "n"
      rename_i w
      exact ⟨_, _, ⟨l ++ [a] ++ [t], n3, _, _, _, rfl, rfl, rfl, by rw [List.length_append, List.length_singleton]; omega, by rw [mns_snoc]; omega, h0, fun k hk => by
        rcases List.mem_append.mp hk with h | h
        · exact hks k h
        · rw [List.mem_singleton.mp h]; exact ⟨ok, hd⟩⟩, by rw [List.map_append]; exact w.sub (fun f hf => .mem (by simp [hf])) (.refl _)⟩
    
    have w := wu.tail
    clear wu
    wtm_at "n"
    refine n_ixLLi w (.more (.ml hm2)) rfl ?_
    wtm_at "n"
    refine n_set (k := 0) (j := 0) (d := .int (n2 - 1)) w (.there (hf n2 (n2 - 1))) (Kn.int _) rfl fun H1 w => ?_
    wtm_at "n"
    rename_i w
    exact ⟨_, _, ⟨l ++ [a] ++ [a], n2 - 1, _, _, _, rfl, rfl, rfl, by rw [List.length_append, List.length_singleton]; omega, by rw [mns_snoc]; have := leaf_tag (V.str.inj htag); omega, by omega, fun k hk => by
      rcases List.mem_append.mp hk with h | h
      · exact hks k h
      · rw [List.mem_singleton.mp h]; exact hks a (by simp)⟩, by rw [List.map_append, List.map_append]; exact w.sub (fun f hf => .mem (by simp [hf])) (.refl _)⟩
abbrev s__law_made : Stmt := top 65
theorem sc__law_made : FnScope ["_law_spec", "_law_kind", "_law_kids", "_law_args", "_law_boxes", "_law_k"] ["_law_spec"] (defScope s__law_made) := ⟨rfl, rfl, rfl, by decide +kernel, rfl, by decide +kernel, by decide +kernel⟩
def sp__law_made (CB CL CR CC CP : Addr) (m : Nat) : Sp := fun vs H Q _ => ∃ F M v, ∃ t : Bx, vs = [v] ∧ Wf F H M ∧ Rk F M v (spD t) ∧ BxOk t ∧ t.dp ≤ m ∧ t.dp ≤ 6 ∧ t.mn ≤ 60 ∧ ∀ r H', Wf ((r, bxD CB CL CR CC CP t) :: F) H' M → Q r H'
theorem no0__law_made {CB CL CR CC CP : Addr} {vs : List V} {H : Hp} {Q : VK} {E : XK} : ¬ sp__law_made CB CL CR CC CP 0 vs H Q E := fun ⟨_, _, _, t, _, _, _, _, h, _⟩ => by have := dp_pos t; omega
theorem n_lmade {CB CL CR CC CP : Addr} {F : List (V × D)} {H : Hp} {M : List ME} {v : V} {t : Bx} {m : Nat} {Q : VK} {E : XK} (w : Wf F H M) (hv : Rk F M v (spD t)) (ok : BxOk t) (hd : t.dp ≤ m) (h6 : t.dp ≤ 6) (h60 : t.mn ≤ 60) (q : ∀ r H', Wf ((r, bxD CB CL CR CC CP t) :: F) H' M → Q r H') : sp__law_made CB CL CR CC CP m ([v] ++ []) H Q E := ⟨F, M, v, t, rfl, w, hv, ok, hd, h6, h60, q⟩

theorem ok0__law_made {f : Addr} {fd : FuncData} (F : Fun K "_law_made" "_law_made" s__law_made f fd) : FnOk P wd K mg base CX0 12 f fd ["_law_spec"] (sp__law_made C_Box C_Leaf C_Row C_Column C_Pad 0) := F.ok sc__law_made (fun vs H Q E h => (no0__law_made h).elim) (fun cdv A outer s H vs Q E hr h => (no0__law_made h).elim)
theorem ok__law_made {dep : Nat} {f : Addr} {fd : FuncData} (F : Fun K "_law_made" "_law_made" s__law_made f fd) (B : Bn mg) (m_Leaf : Mak P wd K mg base "Leaf" C_Leaf 4 ["self", "key", "base", "least", "greatest", "grow", "shrink"] [] (sp_Leaf___init__ C_Leaf)) (m_Pad : Mak P wd K mg base "Pad" C_Pad 4 ["self", "box", "by", "grow", "shrink"] [] (sp_Pad___init__ C_Box C_Leaf C_Row C_Column C_Pad)) (m_Row : Mak P wd K mg base "Row" C_Row 10 ["self", "boxes", "gap", "grow", "shrink"] [] (sp_Row___init__ C_Box C_Leaf C_Row C_Column C_Pad)) (m_Column : Mak P wd K mg base "Column" C_Column 10 ["self", "boxes", "gap", "grow", "shrink"] [] (sp_Column___init__ C_Box C_Leaf C_Row C_Column C_Pad)) (m_Box : Mak P wd K mg base "Box" C_Box 4 ["self", "grow", "shrink"] [] (sp_Box___init__ C_Box)) (o_Box : OwnC K C_Box) (n_Box : ∀ f ∈ (["grow", "shrink", "deep", "many"] : List Str), NoAttr K C_Box f) (o_Leaf : OwnC K C_Leaf) (n_Leaf : ∀ f ∈ (["key", "base", "least", "greatest", "grow", "shrink", "deep", "many"] : List Str), NoAttr K C_Leaf f) (o_Row : OwnC K C_Row) (n_Row : ∀ f ∈ (["boxes", "gap", "grow", "shrink", "deep", "many", "three"] : List Str), NoAttr K C_Row f) (o_Column : OwnC K C_Column) (n_Column : ∀ f ∈ (["boxes", "gap", "grow", "shrink", "deep", "many", "three"] : List Str), NoAttr K C_Column f) (o_Pad : OwnC K C_Pad) (n_Pad : ∀ f ∈ (["box", "by", "grow", "shrink", "deep", "many"] : List Str), NoAttr K C_Pad f) (c__law_made : Cal P wd K mg base "_law_made" (12 + dep) ["_law_spec"] [] (sp__law_made C_Box C_Leaf C_Row C_Column C_Pad dep))  : FnOk P wd K mg base CX0 (12 + dep + 1) f fd ["_law_spec"] (sp__law_made C_Box C_Leaf C_Row C_Column C_Pad (dep + 1)) := by
  refine F.ok sc__law_made (fun vs H Q E h => ?_) (fun cdv A outer s H vs Q E hr h => ?_)
  · obtain ⟨F, M, v, t, rfl, w, hv, ok, hd, h6, h60, k⟩ := h
    all_goals rfl
  · obtain ⟨F, M, v, t, rfl, w, hv, ok, hd, h6, h60, k⟩ := h
    refine ⟨_, (pss_cons (ps_asg (pv 0) (kpg_tup (K := K) (n := 3) rfl rfl (pgs_cons (pg_name (i := 1) sc__law_made.nd rfl (Or.inl rfl)) (pgs_cons (pg_name (i := 2) sc__law_made.nd rfl (Or.inl rfl)) (pgs_cons (pg_name (i := 3) sc__law_made.nd rfl (Or.inl rfl)) pgs_nil)))))
      (pss_cons (ps_set (i := 4) sc__law_made.nd rfl (Or.inl rfl) (pe_lst pa_nil))
      (pss_cons (ps_for PassesOwn.never rfl (pi_range1 (by rfl) B.range_ (pa_cons (pe_callB (k_len (K := K) rfl) (by rfl) B.len_ (by decide +kernel) (pa_cons (pv 2) pa_nil)) pa_nil)) (pg_name (i := 5) sc__law_made.nd rfl (Or.inl rfl)) (pss_one (ps_if (pw_and (pt_cmpR op_gt (pv 5) pe_int (nomark _)) (pw_and1 (pt_cmpR (k_eq (K := K) rfl hr.units) (pe_ix (k_ix (K := K) rfl) (pv 2) (pv 5) (fun _ _ => rfl)) (pe_ix (k_ix (K := K) rfl) (pv 2) (pe_op op_sub (pv 5) pe_int) (fun _ _ => rfl)) (nomark _)))).pt (pss_one (ps_expr (pe_bm PySem.F.plainAttrs_list PySem.F.slot_list_append PySem.F.type_list_append mt_append (pv 4) (pa_cons (pe_ix (k_ix (K := K) rfl) (pv 4) (pe_un un_neg pe_int) (fun _ _ => rfl)) pa_nil)))) (pss_one (ps_expr (pe_bm PySem.F.plainAttrs_list PySem.F.slot_list_append PySem.F.type_list_append mt_append (pv 4) (pa_cons (pe_cal c__law_made (hr.mono (by omega)) (by rfl) (pa_cons (pe_ix (k_ix (K := K) rfl) (pv 2) (pv 5) (fun _ _ => rfl)) pa_nil)) pa_nil)))))))
      (pss_cons (ps_if (pt_cmpR (k_eq (K := K) rfl hr.units) (pv 1) pe_str (nomark _)) (pss_one (ps_ret (pe_mk m_Leaf (hr.mono (by omega)) rfl (pa_cons (pe_ix (k_ix (K := K) rfl) (pv 3) pe_int (fun _ _ => rfl)) (pa_cons (pe_ix (k_ix (K := K) rfl) (pv 3) pe_int (fun _ _ => rfl)) (pa_cons (pe_ix (k_ix (K := K) rfl) (pv 3) pe_int (fun _ _ => rfl)) (pa_cons (pe_ix (k_ix (K := K) rfl) (pv 3) pe_int (fun _ _ => rfl)) (pa_cons (pe_ix (k_ix (K := K) rfl) (pv 3) pe_int (fun _ _ => rfl)) (pa_cons (pe_ix (k_ix (K := K) rfl) (pv 3) pe_int (fun _ _ => rfl)) pa_nil))))))))) pss_nil)
      (pss_cons (ps_if (pt_cmpR (k_eq (K := K) rfl hr.units) (pv 1) pe_str (nomark _)) (pss_one (ps_ret (pe_mk m_Pad (hr.mono (by omega)) rfl (pa_cons (pe_ix (k_ix (K := K) rfl) (pv 4) pe_int (fun _ _ => rfl)) (pa_cons (pe_ix (k_ix (K := K) rfl) (pv 3) pe_int (fun _ _ => rfl)) (pa_cons (pe_ix (k_ix (K := K) rfl) (pv 3) pe_int (fun _ _ => rfl)) (pa_cons (pe_ix (k_ix (K := K) rfl) (pv 3) pe_int (fun _ _ => rfl)) pa_nil))))))) pss_nil)
      (pss_cons (ps_if (pt_cmpR (k_eq (K := K) rfl hr.units) (pv 1) pe_str (nomark _)) (pss_one (ps_ret (pe_mk m_Row (hr.mono (by omega)) rfl (pa_cons (pv 4) (pa_cons (pe_ix (k_ix (K := K) rfl) (pv 3) pe_int (fun _ _ => rfl)) (pa_cons (pe_ix (k_ix (K := K) rfl) (pv 3) pe_int (fun _ _ => rfl)) (pa_cons (pe_ix (k_ix (K := K) rfl) (pv 3) pe_int (fun _ _ => rfl)) pa_nil))))))) pss_nil)
      (pss_cons (ps_if (pt_cmpR (k_eq (K := K) rfl hr.units) (pv 1) pe_str (nomark _)) (pss_one (ps_ret (pe_mk m_Column (hr.mono (by omega)) rfl (pa_cons (pv 4) (pa_cons (pe_ix (k_ix (K := K) rfl) (pv 3) pe_int (fun _ _ => rfl)) (pa_cons (pe_ix (k_ix (K := K) rfl) (pv 3) pe_int (fun _ _ => rfl)) (pa_cons (pe_ix (k_ix (K := K) rfl) (pv 3) pe_int (fun _ _ => rfl)) pa_nil))))))) pss_nil)
      (pss_one (ps_ret (pe_mk m_Box (hr.mono (by omega)) rfl (pa_cons (pe_ix (k_ix (K := K) rfl) (pv 3) pe_int (fun _ _ => rfl)) (pa_cons (pe_ix (k_ix (K := K) rfl) (pv 3) pe_int (fun _ _ => rfl)) pa_nil)))))))))))), ?_⟩
    try dsimp only [cxOf, Cx.nox, Cx.wish, Cx.blk]
    rw [show L2.start (["_law_spec", "_law_kind", "_law_kids", "_law_args", "_law_boxes", "_law_k"] : List Str) [v] = [some v, none, none, none, none, none] from rfl]
    rw [spD_eq] at hv
    have hk8 := ok.k8
    wtm_at "n"
    rename_i y1 y2 y3 w0 p0 H1 w
    have hm : Bx.mns t.kids + 1 ≤ 60 ∨ t.kids = [] := by
      cases t with
      | leaf => exact .inr rfl
      | box => exact .inr rfl
      | pad k0 => exact .inl (by rw [Bx.mn] at h60; rw [show (Bx.pad k0 _ _ _).kids = [k0] from rfl, mns_one]; exact h60)
      | line => exact .inl (by rw [Bx.mn] at h60; exact h60)
    have hnk : ∀ k ∈ t.kids, k.mn ≤ 60 := fun k hk => by
      have := mns_le hk
      rcases hm with h | h
      · omega
      · rw [h] at hk; cases hk
    clear w0
    rename_i w0
    have w : Wf ((y1, .str t.tag) :: (y2, .lst (t.kids.map spD)) :: (y3, .tup t.args) :: F) H1 (.ml p0 ((t.kids.take 0).map (bxD C_Box C_Leaf C_Row C_Column C_Pad)) :: M) := w
    obtain ⟨rfl, w1⟩ := w.str0
    clear w w0
    clear w
    rw [List.length_map]
    refine s_rng1' (by omega) (by omega) ?_
    refine n_forR w1 (fun i σ' F' M' => ∃ x5 : Option V, σ' = [some v, some (.str t.tag), some y2, some y3, some (.ref p0), x5] ∧ F' = (y2, .lst (t.kids.map spD)) :: (y3, .tup t.args) :: F ∧ M' = .ml p0 ((t.kids.take i).map (bxD C_Box C_Leaf C_Row C_Column C_Pad)) :: M) ⟨_, rfl, rfl, rfl⟩ ?_ ?_
    · clear w1
      rintro i σ' H' F' M' hi ⟨x5, rfl, rfl, rfl⟩ w
      have hi2 : i < t.kids.length := by omega
      have hi3 : (0 + (i : Int)).toNat = i := by omega
      obtain ⟨kd, hk⟩ : ∃ kd, t.kids[i]? = some kd := ⟨_, List.getElem?_eq_getElem hi2⟩
      have hkm := List.mem_of_getElem? hk
      have hkd := kid_dp hkm
      have hk6 := hnk kd hkm
      rw [take_snoc hk, List.map_append, List.map_singleton]
      wtm_at "n"
      by_cases h0 : i = 0
      · refine s_iteDn (by omega) ?_
        wtm_at "n"
        refine n_ixAny w (ds := t.kids.map spD) (.mem List.mem_cons_self) (by omega) (by rw [List.length_map]; omega) fun d u hd w => ?_
        rw [hi3, List.getElem?_map, hk] at hd
        cases hd
        wtm_at "n"
        refine n_lmade (t := kd) w (.mem List.mem_cons_self) (ok.kid hkm) (by omega) (by omega) hk6 fun r H2 w => ?_
        wtm_at "n"
        rename_i w
        exact ⟨_, _, ⟨_, rfl, rfl, rfl⟩, w.tail.tail⟩
    
      refine s_iteDp (by omega) ?_
      wtm_at "n"
      refine n_ixAny w (ds := t.kids.map spD) (.mem List.mem_cons_self) (by omega) (by rw [List.length_map]; omega) fun d u hd w => ?_
      rw [hi3, List.getElem?_map, hk] at hd
      cases hd
      wtm_at "n"
      obtain ⟨kp, hp⟩ : ∃ kp, t.kids[i - 1]? = some kp := ⟨_, List.getElem?_eq_getElem (by omega)⟩
      have hpm := List.mem_of_getElem? hp
      have hpd := kid_dp hpm
      refine n_ixAny w (ds := t.kids.map spD) (.mem (.tail _ (.head _))) (by omega) (by rw [List.length_map]; omega) fun d u' hd w => ?_
      rw [show (0 + (i : Int) - 1).toNat = i - 1 by omega, List.getElem?_map, hp] at hd
      cases hd
      by_cases he : kd = kp
      · refine n_eq (b := true) w (.mem (.tail _ (.head _))) (.mem List.mem_cons_self) ((nb_spD (n := 6) (ok.kid hkm) (by omega)).mono (k := 60) (by decide)) ((nb_spD (n := 6) (ok.kid hpm) (by omega)).mono (k := 60) (by decide)) (by decide) (by decide) (by rw [he]; simp) ?_
        replace w := w.tail.tail
        wtm_at "n"
        have w : Wf ((y2, .lst (t.kids.map spD)) :: (y3, .tup t.args) :: F) H' (.ml p0 ((t.kids.take (i - 1)).map (bxD C_Box C_Leaf C_Row C_Column C_Pad) ++ [bxD C_Box C_Leaf C_Row C_Column C_Pad kp]) :: M) := by
          have e : t.kids.take i = t.kids.take (i - 1) ++ [kp] := by
            have := take_snoc hp
            rwa [show i - 1 + 1 = i by omega] at this
          rw [e, List.map_append, List.map_singleton] at w
          exact w
        wtm_at "n"
        have hl1 : ((t.kids.take (i - 1)).map (bxD C_Box C_Leaf C_Row C_Column C_Pad)).length ≤ 100 := by rw [List.length_map, List.length_take]; omega
        wtm_at "n"
        rename_i w
        refine ⟨_, _, ⟨_, rfl, rfl, rfl⟩, ?_⟩
        have e : t.kids.take i = t.kids.take (i - 1) ++ [kp] := by
          have := take_snoc hp
          rwa [show i - 1 + 1 = i by omega] at this
        rw [e, List.map_append, List.map_singleton, he]
        exact w.tail
      refine n_eq (b := false) w (.mem (.tail _ (.head _))) (.mem List.mem_cons_self) ((nb_spD (n := 6) (ok.kid hkm) (by omega)).mono (k := 60) (by decide)) ((nb_spD (n := 6) (ok.kid hpm) (by omega)).mono (k := 60) (by decide)) (by decide) (by decide) (by simp only [Bool.false_eq_true, false_iff]; exact fun e => he (spD_inj e)) ?_
      replace w := w.tail.tail
      wtm_at "n"
      refine n_ixAny w (ds := t.kids.map spD) (.mem List.mem_cons_self) (by omega) (by rw [List.length_map]; omega) fun d u hd w => ?_
      rw [hi3, List.getElem?_map, hk] at hd
      cases hd
      wtm_at "n"
      refine n_lmade (t := kd) w (.mem List.mem_cons_self) (ok.kid hkm) (by omega) (by omega) hk6 fun r H2 w => ?_
      wtm_at "n"
      rename_i w
      exact ⟨_, _, ⟨_, rfl, rfl, rfl⟩, w.tail.tail⟩
    clear w1
    rintro σ' H' F' M' ⟨x5, rfl, rfl, rfl⟩ w
    rw [show ((t.kids.length : Int)).toNat = t.kids.length by omega, List.take_length] at w
    wtm_at "n"
    have hd1 : Bx.dps t.kids + 1 ≤ 6 := by
      have := dps_bd (ks := t.kids) (n := 5) fun k hk => by have := kid_dp hk; omega
      omega
    cases t with
    | leaf key b l g p s =>
      simp only [Bx.kids, Bx.args] at w
      rw [show (Bx.leaf key b l g p s).tag = "leaf" from rfl]
      refine s_iteDp rfl ?_
      wtm_at "n"
      rename_i u1 wa u2 wb
      obtain ⟨rfl, wc⟩ := wb.eqO
      obtain ⟨rfl, wd⟩ := wc.str0
      refine n_mkLeaf (CB := C_Box) (CR := C_Row) (CC := C_Column) (CP := C_Pad) wd ok fun x H2 w => ?_
      exact k _ _ (w.sub (KS.cons (Kn.mem List.mem_cons_self) (KS.drop (KS.drop (KS.drop KS.refl)))) (List.sublist_cons_self _ _))
    | box p s =>
      simp only [Bx.kids, Bx.args] at w
      rw [show (Bx.box p s).tag = "box" from rfl]
      refine s_iteDn (by decide +kernel) ?_
      wtm_at "n"
      refine s_iteDn (by decide +kernel) ?_
      wtm_at "n"
      refine s_iteDn (by decide +kernel) ?_
      wtm_at "n"
      refine s_iteDn (by decide +kernel) ?_
      wtm_at "n"
      refine n_mkBox (CL := C_Leaf) (CR := C_Row) (CC := C_Column) (CP := C_Pad) w ok.w ok.s fun x H2 w => ?_
      exact k _ _ (w.sub (KS.cons (Kn.mem List.mem_cons_self) (KS.drop (KS.drop (KS.drop KS.refl)))) (List.sublist_cons_self _ _))
    | pad k0 n p s =>
      simp only [Bx.kids, Bx.args, List.map_cons, List.map_nil] at w
      rw [show (Bx.pad k0 n p s).tag = "pad" from rfl]
      refine s_iteDn (by decide +kernel) ?_
      wtm_at "n"
      rename_i u w
      refine n_mkPad w (.mem List.mem_cons_self) ok (by rw [Bx.dp] at h6; exact h6) (by rw [Bx.mn] at h60; exact h60) fun x H2 w => ?_
      exact k _ _ (w.sub (KS.cons (Kn.mem List.mem_cons_self) (KS.drop (KS.drop (KS.drop (KS.drop KS.refl))))) (List.sublist_cons_self _ _))
    | line c ks n p s =>
      simp only [Bx.kids, Bx.args] at w hd1 hk8
      cases c with
      | false =>
        rw [show (Bx.line false ks n p s).tag = "row" from rfl]
        refine s_iteDn (by decide +kernel) ?_
        wtm_at "n"
        refine s_iteDn (by decide +kernel) ?_
        wtm_at "n"
        refine n_mkRow w (.ml List.mem_cons_self) ok hd1 (by rw [Bx.mn] at h60; exact h60) fun x H2 w => ?_
        exact k _ _ (w.sub (KS.cons (Kn.mem List.mem_cons_self) (KS.drop (KS.drop (KS.drop KS.refl)))) (List.sublist_cons_self _ _))
      | true =>
        rw [show (Bx.line true ks n p s).tag = "column" from rfl]
        refine s_iteDn (by decide +kernel) ?_
        wtm_at "n"
        refine s_iteDn (by decide +kernel) ?_
        wtm_at "n"
        refine s_iteDn (by decide +kernel) ?_
        wtm_at "n"
        refine n_mkColumn w (.ml List.mem_cons_self) ok hd1 (by rw [Bx.mn] at h60; exact h60) fun x H2 w => ?_
        exact k _ _ (w.sub (KS.cons (Kn.mem List.mem_cons_self) (KS.drop (KS.drop (KS.drop KS.refl)))) (List.sublist_cons_self _ _))
abbrev s__law_three : Stmt := top 66
theorem sc__law_three : FnScope ["_law_spec", "_law_inner", "_law_kind", "_law_kids", "_law_args", "_law_more", "_law_least", "_law_base", "_law_greatest", "_law_leasts", "_law_bases", "_law_tops", "_law_three_here", "_law_k"] ["_law_spec", "_law_inner"] (defScope s__law_three) := ⟨rfl, rfl, rfl, by decide +kernel, rfl, by decide +kernel, by decide +kernel⟩
def sp__law_three : Sp := fun vs H Q _ => ∃ F M v u, ∃ t : Bx, vs = [v, u] ∧ Wf F H M ∧ Rk F M v (spD t) ∧ Rk F M u (.lst (t.kids.map fun k => t3D k.acr)) ∧ BxOk t ∧ t.dp ≤ 6 ∧ ∀ r H', Wf ((r, t3D t.acr) :: F) H' M → Q r H'
theorem n_lthree {F : List (V × D)} {H : Hp} {M : List ME} {v u : V} {t : Bx} {Q : VK} {E : XK} (w : Wf F H M) (hv : Rk F M v (spD t)) (hu : Rk F M u (.lst (t.kids.map fun k => t3D k.acr))) (ok : BxOk t) (hd : t.dp ≤ 6) (q : ∀ r H', Wf ((r, t3D t.acr) :: F) H' M → Q r H') : sp__law_three ([v, u] ++ []) H Q E := ⟨F, M, v, u, t, rfl, w, hv, hu, ok, hd, q⟩

theorem ok__law_three {f : Addr} {fd : FuncData} (F : Fun K "_law_three" "_law_three" s__law_three f fd) (B : Bn mg)  : FnOk P wd K mg base CX0 1 f fd ["_law_spec", "_law_inner"] sp__law_three := by
  refine F.ok sc__law_three (fun vs H Q E h => ?_) (fun cdv A outer s H vs Q E hr h => ?_)
  · obtain ⟨F, M, v, u, t, rfl, w, hv, hu, ok, hd, k⟩ := h
    all_goals rfl
  · obtain ⟨F, M, v, u, t, rfl, w, hv, hu, ok, hd, k⟩ := h
    refine ⟨_, (pss_cons (ps_asg (pv 0) (kpg_tup (K := K) (n := 3) rfl rfl (pgs_cons (pg_name (i := 2) sc__law_three.nd rfl (Or.inl rfl)) (pgs_cons (pg_name (i := 3) sc__law_three.nd rfl (Or.inr rfl)) (pgs_cons (pg_name (i := 4) sc__law_three.nd rfl (Or.inl rfl)) pgs_nil)))))
      (pss_cons (ps_if (pt_cmpR (k_eq (K := K) rfl hr.units) (pv 2) pe_str (nomark _)) (pss_one (ps_ret (pe_tup (pa_cons (pe_ix (k_ix (K := K) rfl) (pv 4) pe_int (fun _ _ => rfl)) (pa_cons (pe_ix (k_ix (K := K) rfl) (pv 4) pe_int (fun _ _ => rfl)) (pa_cons (pe_ix (k_ix (K := K) rfl) (pv 4) pe_int (fun _ _ => rfl)) pa_nil)))))) pss_nil)
      (pss_cons (ps_if (pt_cmpR (k_eq (K := K) rfl hr.units) (pv 3) (pe_lst pa_nil) (nomark _)) (pss_one (ps_ret (pe_tup (pa_cons pe_int (pa_cons pe_int (pa_cons pe_non pa_nil)))))) pss_nil)
      (pss_cons (ps_if (pt_cmpR (k_eq (K := K) rfl hr.units) (pv 2) pe_str (nomark _)) (pss_cons (ps_set (i := 5) sc__law_three.nd rfl (Or.inl rfl) (pe_op uo_mul pe_int (pe_ix (k_ix (K := K) rfl) (pv 4) pe_int (fun _ _ => rfl))))
      (pss_cons (ps_asg (pe_ix (k_ix (K := K) rfl) (pv 1) pe_int (fun _ _ => rfl)) (kpg_tup (K := K) (n := 3) rfl rfl (pgs_cons (pg_name (i := 6) sc__law_three.nd rfl (Or.inl rfl)) (pgs_cons (pg_name (i := 7) sc__law_three.nd rfl (Or.inl rfl)) (pgs_cons (pg_name (i := 8) sc__law_three.nd rfl (Or.inl rfl)) pgs_nil)))))
      (pss_cons (ps_if (pt_cmp (pc_notN (pv 8))) (pss_one (ps_aug (i := 8) sc__law_three.nd rfl (Or.inl rfl) (pv 5) ip_add)) pss_nil)
      (pss_one (ps_ret (pe_tup (pa_cons (pe_op (k_add (K := K) rfl) (pv 6) (pv 5)) (pa_cons (pe_op (k_add (K := K) rfl) (pv 7) (pv 5)) (pa_cons (pv 8) pa_nil))))))))) pss_nil)
      (pss_cons (ps_set (i := 9) sc__law_three.nd rfl (Or.inr rfl) (pe_lc (own := [("_law_three_here", 12)]) (by rfl) sc__law_three.nd (kpi_list (K := K) rfl (pv 1)) (blkOk_by (own := [("_law_three_here", 12)]) (N := ["_law_spec", "_law_inner", "_law_kind", "_law_kids", "_law_args", "_law_more", "_law_least", "_law_base", "_law_greatest", "_law_leasts", "_law_bases", "_law_tops", "_law_three_here", "_law_k"]) (sc := defScope s__law_three) (by decide +kernel)) (fun _ _ _ _ _ => (pg_name (i := 12) sc__law_three.nd rfl (Or.inl rfl))) (fun _ _ _ _ _ => pts_nil) (fun _ _ _ _ _ => (pe_ix (k_ix (K := K) rfl) (pv 12) pe_int (fun _ _ => rfl)))))
      (pss_cons (ps_set (i := 10) sc__law_three.nd rfl (Or.inr rfl) (pe_lc (own := [("_law_three_here", 12)]) (by rfl) sc__law_three.nd (kpi_list (K := K) rfl (pv 1)) (blkOk_by (own := [("_law_three_here", 12)]) (N := ["_law_spec", "_law_inner", "_law_kind", "_law_kids", "_law_args", "_law_more", "_law_least", "_law_base", "_law_greatest", "_law_leasts", "_law_bases", "_law_tops", "_law_three_here", "_law_k"]) (sc := defScope s__law_three) (by decide +kernel)) (fun _ _ _ _ _ => (pg_name (i := 12) sc__law_three.nd rfl (Or.inl rfl))) (fun _ _ _ _ _ => pts_nil) (fun _ _ _ _ _ => (pe_ix (k_ix (K := K) rfl) (pv 12) pe_int (fun _ _ => rfl)))))
      (pss_cons (ps_set (i := 11) sc__law_three.nd rfl (Or.inr rfl) (pe_lc (own := [("_law_three_here", 12)]) (by rfl) sc__law_three.nd (kpi_list (K := K) rfl (pv 1)) (blkOk_by (own := [("_law_three_here", 12)]) (N := ["_law_spec", "_law_inner", "_law_kind", "_law_kids", "_law_args", "_law_more", "_law_least", "_law_base", "_law_greatest", "_law_leasts", "_law_bases", "_law_tops", "_law_three_here", "_law_k"]) (sc := defScope s__law_three) (by decide +kernel)) (fun _ _ _ _ _ => (pg_name (i := 12) sc__law_three.nd rfl (Or.inl rfl))) (fun _ _ _ _ _ => pts_nil) (fun _ _ _ _ _ => (pe_ix (k_ix (K := K) rfl) (pv 12) pe_int (fun _ _ => rfl)))))
      (pss_cons (ps_if (pt_cmpR (k_eq (K := K) rfl hr.units) (pv 2) pe_str (nomark _)) (pss_one (ps_ret (pe_tup (pa_cons (pe_callB (k_max (K := K) rfl rfl) (by rfl) B.max_ (by decide +kernel) (pa_cons (pv 9) pa_nil)) (pa_cons (pe_callB (k_max (K := K) rfl rfl) (by rfl) B.max_ (by decide +kernel) (pa_cons (pv 10) pa_nil)) (pa_cons (pe_ifExp (pt_cmpR (k_in (K := K) rfl) pe_non (pv 11) (by with_unfolding_all rfl)) pe_non (pe_callB (k_max (K := K) rfl rfl) (by rfl) B.max_ (by decide +kernel) (pa_cons (pv 11) pa_nil))) pa_nil)))))) pss_nil)
      (pss_cons (ps_set (i := 5) sc__law_three.nd rfl (Or.inl rfl) (pe_op uo_mul (pe_ix (k_ix (K := K) rfl) (pv 4) pe_int (fun _ _ => rfl)) (pe_op op_sub (pe_callB (k_len (K := K) rfl) (by rfl) B.len_ (by decide +kernel) (pa_cons (pv 3) pa_nil)) pe_int)))
      (pss_cons (ps_set (i := 9) sc__law_three.nd rfl (Or.inr rfl) (pe_lc (own := [("_law_k", 13)]) (by rfl) sc__law_three.nd (pi_range1 (by rfl) B.range_ (pa_cons (pe_callB (k_len (K := K) rfl) (by rfl) B.len_ (by decide +kernel) (pa_cons (pv 3) pa_nil)) pa_nil)) (blkOk_by (own := [("_law_k", 13)]) (N := ["_law_spec", "_law_inner", "_law_kind", "_law_kids", "_law_args", "_law_more", "_law_least", "_law_base", "_law_greatest", "_law_leasts", "_law_bases", "_law_tops", "_law_three_here", "_law_k"]) (sc := defScope s__law_three) (by decide +kernel)) (fun _ _ _ _ _ => (pg_name (i := 13) sc__law_three.nd rfl (Or.inl rfl))) (fun _ _ _ _ _ => pts_nil) (fun _ _ _ _ _ => (pe_ifExp (pt_cmpR (k_eq (K := K) rfl hr.units) (pe_ix (k_ix (K := K) rfl) (pe_ix (k_ix (K := K) rfl) (pe_ix (k_ix (K := K) rfl) (pv 3) (pv 13) (fun _ _ => rfl)) pe_int (fun _ _ => rfl)) (pe_un un_neg pe_int) (fun _ _ => rfl)) pe_int (nomark _)) (pe_ix (k_ix (K := K) rfl) (pv 10) (pv 13) (fun _ _ => rfl)) (pe_ix (k_ix (K := K) rfl) (pv 9) (pv 13) (fun _ _ => rfl))))))
      (pss_cons (ps_set (i := 11) sc__law_three.nd rfl (Or.inr rfl) (pe_lc (own := [("_law_k", 13)]) (by rfl) sc__law_three.nd (pi_range1 (by rfl) B.range_ (pa_cons (pe_callB (k_len (K := K) rfl) (by rfl) B.len_ (by decide +kernel) (pa_cons (pv 3) pa_nil)) pa_nil)) (blkOk_by (own := [("_law_k", 13)]) (N := ["_law_spec", "_law_inner", "_law_kind", "_law_kids", "_law_args", "_law_more", "_law_least", "_law_base", "_law_greatest", "_law_leasts", "_law_bases", "_law_tops", "_law_three_here", "_law_k"]) (sc := defScope s__law_three) (by decide +kernel)) (fun _ _ _ _ _ => (pg_name (i := 13) sc__law_three.nd rfl (Or.inl rfl))) (fun _ _ _ _ _ => pts_nil) (fun _ _ _ _ _ => (pe_ifExp (pt_cmpR (k_eq (K := K) rfl hr.units) (pe_ix (k_ix (K := K) rfl) (pe_ix (k_ix (K := K) rfl) (pe_ix (k_ix (K := K) rfl) (pv 3) (pv 13) (fun _ _ => rfl)) pe_int (fun _ _ => rfl)) (pe_un un_neg pe_int) (fun _ _ => rfl)) pe_int (nomark _)) (pe_ix (k_ix (K := K) rfl) (pv 10) (pv 13) (fun _ _ => rfl)) (pe_ix (k_ix (K := K) rfl) (pv 11) (pv 13) (fun _ _ => rfl))))))
      (pss_one (ps_ret (pe_tup (pa_cons (pe_op (k_add (K := K) rfl) (pe_callB (k_sum (K := K) rfl rfl) (by rfl) B.sum_ (by decide +kernel) (pa_cons (pv 9) pa_nil)) (pv 5)) (pa_cons (pe_op (k_add (K := K) rfl) (pe_callB (k_sum (K := K) rfl rfl) (by rfl) B.sum_ (by decide +kernel) (pa_cons (pv 10) pa_nil)) (pv 5)) (pa_cons (pe_ifExp (pt_cmpR (k_in (K := K) rfl) pe_non (pv 11) (by with_unfolding_all rfl)) pe_non (pe_op (k_add (K := K) rfl) (pe_callB (k_sum (K := K) rfl rfl) (by rfl) B.sum_ (by decide +kernel) (pa_cons (pv 11) pa_nil)) (pv 5))) pa_nil))))))))))))))))), ?_⟩
    try dsimp only [cxOf, Cx.nox, Cx.wish, Cx.blk]
    rw [show L2.start (["_law_spec", "_law_inner", "_law_kind", "_law_kids", "_law_args", "_law_more", "_law_least", "_law_base", "_law_greatest", "_law_leasts", "_law_bases", "_law_tops", "_law_three_here", "_law_k"] : List Str) [v, u] = [some v, some u, none, none, none, none, none, none, none, none, none, none, none, none] from rfl]
    have hnb : NB 60 (.lst (t.kids.map spD)) := (nb_kids (n := 6) fun k hk => ⟨ok.kid hk, by have := kid_dp hk; omega⟩).mono (by decide)
    have hn0 : NB 60 (.lst []) := (NB.lst (k := 1) (ds := []) fun _ h => nomatch h).mono (by decide)
    rw [spD_eq] at hv
    wtm_at "n"
    rename_i y1 y2 y3 w
    obtain ⟨rfl, w1⟩ := w.str0
    clear w
    have w := w1
    clear w1
    wtm_at "n"
    simp only [List.set_cons_succ, List.set_cons_zero]
    cases t with
    | leaf key b l g p s =>
      simp only [Bx.tag, Bx.kids, Bx.args] at w
      rw [show (Bx.leaf key b l g p s).tag = "leaf" from rfl]
      refine s_iteDp rfl ?_
      wtm_at "n"
      rename_i w
      rw [Bx.acr] at k
      exact k _ _ (by wtm_at "wf1")
    | box p s =>
      simp only [Bx.tag, Bx.kids, Bx.args] at w hnb
      rw [show (Bx.box p s).tag = "box" from rfl]
      refine s_iteDn (by decide +kernel) ?_
      wtm_at "n"
      rename_i pe He we
      refine n_eq we (.more (.mem List.mem_cons_self)) (.ml List.mem_cons_self) hn0 hn0 (by decide) (by decide) (b := true) (by simp) ?_
      wtm_at "n"
      rename_i w
      rw [Bx.acr] at k
      exact k _ _ (by wtm_at "wf1")
    | pad k0 n p s =>
      simp only [Bx.tag, Bx.kids, Bx.args, List.map_cons, List.map_nil] at w hnb hu
      rw [show (Bx.pad k0 n p s).tag = "pad" from rfl]
      have hn : Sm n := by cases ok; assumption
      obtain ⟨n0, n1⟩ := hn
      refine s_iteDn (by decide +kernel) ?_
      wtm_at "n"
      rename_i pe He we
      refine n_eq we (.more (.mem List.mem_cons_self)) (.ml List.mem_cons_self) hnb hn0 (by decide) (by decide) (b := false) (by simp) ?_
      have w := we.sub (fun f hf => .mem hf) (List.sublist_cons_self _ _)
      clear we
      wtm_at "n"
      refine s_mul (Bd.cm (Bd.of 2 (by decide) (by decide) : Bd 2 2) (Bd.of 1000000 (by omega) (by decide) : Bd 21 n)) ?_
      wtm_at "n"
      rw [Bx.acr] at k
      generalize k0.acr = T at *
      obtain ⟨tl, tb, tg⟩ := T
      rename_i z1 z2 z3 w
      obtain ⟨rfl, w1⟩ := w.eq0
      obtain ⟨rfl, w2⟩ := w1.eq0
      clear w w1
      obtain ⟨rfl, w⟩ := w2.eqO
      clear w2
      cases tg with
      | none =>
        rw [show oV none = V.non from rfl]
        wtm_at "n"
        rename_i w
        exact k _ _ (by wtm_at "wf1")
      | some g =>
        rw [show oV (some g) = V.int g from rfl]
        wtm_at "n"
        rename_i w
        exact k _ _ (by wtm_at "wf1")
    | line c ks n p s =>
      have hn : Sm n := by cases ok; assumption
      have hkl : ks.length ≤ 8 := by cases ok; assumption
      obtain ⟨n0, n1⟩ := hn
      replace w : Wf ((y2, .lst (ks.map spD)) :: (y3, .tup [.int n, .int p, .int s]) :: F) H M := w
      replace hu : Rk F M u (.lst (ks.map fun k => t3D k.acr)) := hu
      replace hnb : NB 60 (.lst (ks.map spD)) := hnb
      clear hv
      obtain ⟨tg, htg⟩ : ∃ tg : Str, tg = (Bx.line c ks n p s).tag := ⟨_, rfl⟩
      rw [← htg]
      have t1 : ¬ V.str tg = V.str "leaf" := by
        rw [htg]; cases c
        · exact (by decide +kernel : ¬ V.str "row" = V.str "leaf")
        · exact (by decide +kernel : ¬ V.str "column" = V.str "leaf")
      have t2 : ¬ V.str tg = V.str "pad" := by
        rw [htg]; cases c
        · exact (by decide +kernel : ¬ V.str "row" = V.str "pad")
        · exact (by decide +kernel : ¬ V.str "column" = V.str "pad")
      refine s_iteDn t1 ?_
      wtm_at "n"
      rename_i pe He we
      by_cases hk0 : ks = []
      · subst hk0
        refine n_eq we (.more (.mem List.mem_cons_self)) (.ml List.mem_cons_self) hnb hn0 (by decide) (by decide) (b := true) (by simp) ?_
        wtm_at "n"
        rename_i w
        rw [Bx.acr] at k
        exact k _ _ (by cases c <;> wtm_at "wf1")
      refine n_eq we (.more (.mem List.mem_cons_self)) (.ml List.mem_cons_self) hnb hn0 (by decide) (by decide) (b := false) (by simp [hk0]) ?_
      have w := we.sub (fun f hf => .mem hf) (List.sublist_cons_self _ _)
      clear we
      have hkp : 0 < ks.length := List.length_pos_iff.mpr hk0
      wtm_at "n"
      refine s_iteDn t2 ?_
      wtm_at "n"
      refine n_lcMapI (g := fun k : Bx => t3D k.acr) (f := fun k : Bx => k.acr.l) (l := ks) w (by ktf_call "rk") (by omega) (fun v => rfl) (fun x y D acc H0 C hx w kc => ?_) fun p1 H1 w => ?_
      · wtm_at "n"
        exact kc _ w.tail
      wtm_at "n"
      refine n_lcMapI (g := fun k : Bx => t3D k.acr) (f := fun k : Bx => k.acr.b) (l := ks) w (by ktf_call "rk") (by omega) (fun v => rfl) (fun x y D acc H0 C hx w kc => ?_) fun p2 H2 w => ?_
      · wtm_at "n"
        exact kc _ w.tail
      wtm_at "n"
      refine n_lcMap (g := fun k : Bx => t3D k.acr) (f := fun k : Bx => oD k.acr.g) (l := ks) w (by ktf_call "rk") (by omega) (fun v => rfl) (fun x y D acc H0 C hx w kc => ?_) fun p3 H3 w => ?_
      · wtm_at "n"
        rename_i w
        exact kc _ _ (w.sub (KS.cons (Kn.mem List.mem_cons_self) (KS.drop (KS.drop KS.refl))) (List.Sublist.refl _))
      rw [opts_map] at w
      wtm_at "n"
      cases c with
      | true =>
        rw [show (Bx.line true ks n p s).tag = "column" from rfl] at htg
        rw [htg]
        refine s_iteDp rfl ?_
        wtm_at "n"
        refine n_max w (ns := ks.map fun k => k.acr.l) (by ktf_call "rk") (by rw [List.length_map]; exact hkp) fun m1 m10 m11 => ?_
        wtm_at "n"
        refine n_max w (ns := ks.map fun k => k.acr.b) (by ktf_call "rk") (by rw [List.length_map]; exact hkp) fun m2 m20 m21 => ?_
        wtm_at "n"
        refine n_inO w (by ktf_call "rk") ?_
        have ecol : Bx.acr (.line true ks n p s) = colT (ks.map Bx.acr) := by rw [Bx.acr, acrs_map]; rfl
        have i1 : IsMax m1 ((ks.map Bx.acr).map (·.l)) := by rw [List.map_map]; exact ⟨m10, m11⟩
        have i2 : IsMax m2 ((ks.map Bx.acr).map (·.b)) := by rw [List.map_map]; exact ⟨m20, m21⟩
        have eg : (ks.map Bx.acr).map (·.g) = ks.map (fun k => k.acr.g) := by rw [List.map_map]; rfl
        by_cases hN : none ∈ ks.map fun k => k.acr.g
        · rw [decide_eq_true hN]
          wtm_at "n"
          rename_i w
          rw [ecol, colT_eq (acrs_ne hk0 _) i1 i2 (o := none) (fun _ => rfl) (fun h => absurd (by rw [eg]; exact hN) h)] at k
          exact k _ _ (w.sub (KS.cons (Kn.mem List.mem_cons_self) (KS.drop (KS.drop (KS.drop KS.refl)))) (by ktf_call "sl"))
        · rw [decide_eq_false hN]
          rw [opts_ints hN] at w
          wtm_at "n"
          refine n_max w (ns := (ks.map fun k => k.acr.g).map optN) (by ktf_call "rk") (by rw [List.length_map, List.length_map]; exact hkp) fun m3 m30 m31 => ?_
          wtm_at "n"
          rename_i w
          rw [ecol, colT_eq (acrs_ne hk0 _) i1 i2 (o := some m3) (fun h => absurd (by rw [← eg]; exact h) hN) (fun _ => ⟨m3, rfl, by rw [List.map_map] at m30 m31 ⊢; exact ⟨m30, m31⟩⟩)] at k
          exact k _ _ (w.sub (KS.cons (Kn.mem List.mem_cons_self) (KS.drop (KS.drop (KS.drop KS.refl)))) (by ktf_call "sl"))
      | false =>
        rw [show (Bx.line false ks n p s).tag = "row" from rfl] at htg
        rw [htg]
        refine s_iteDn (by decide +kernel) ?_
        wtm_at "n"
        refine s_mul (Bd.cm (Bd.of 1000000 (by omega) (by decide) : Bd 21 n) (Bd.of 8 (by rw [List.length_map]; omega) (by decide) : Bd 5 (((ks.map spD).length : Int) - 1))) ?_
        wtm_at "n"
        rw [List.length_map]
        refine s_rng1' (by omega) (by omega) ?_
        refine n_lcR w (fun i d => ∃ k, ks[i]? = some k ∧ d = .int k.eff.l) (by omega) (fun v => rfl) (fun i D acc H0 C hi w kc => ?_) fun p4 es H4 hes hP w => ?_
        · wtm_at "n"
          have hi2 : i < ks.length := by omega
          have hi3 : (0 + (i : Int)).toNat = i := by omega
          obtain ⟨k, hk⟩ : ∃ k, ks[i]? = some k := ⟨_, List.getElem?_eq_getElem hi2⟩
          refine n_ixAny w (ds := ks.map spD) (by ktf_call "rk") (by omega) (by rw [List.length_map]; omega) fun d u hd w => ?_
          rw [hi3, List.getElem?_map, hk] at hd
          cases hd
          rw [spD_eq] at w
          wtm_at "n"
          rename_i u2 w
          refine n_ixTi w (.mem List.mem_cons_self) (args_last k) ?_
          wtm_at "n"
          wtm_at "fork"
          · rename_i h0
            wtm_at "n"
            refine n_ixInts (ns := ks.map fun k => k.acr.b) w (by ktf_call "rk") (by omega) (by rw [List.length_map]; omega) fun n hn => ?_
            rw [hi3, List.getElem?_map, hk] at hn
            cases hn
            refine kc _ _ _ (w.tail.tail.add (.int _)) ⟨k, hk, ?_⟩
            rw [Bx.eff, T3.eff, h0]
            rfl
          · rename_i h0
            wtm_at "n"
            refine n_ixInts (ns := ks.map fun k => k.acr.l) w (by ktf_call "rk") (by omega) (by rw [List.length_map]; omega) fun n hn => ?_
            rw [hi3, List.getElem?_map, hk] at hn
            cases hn
            refine kc _ _ _ (w.tail.tail.add (.int _)) ⟨k, hk, ?_⟩
            rw [Bx.eff, T3.eff, if_neg h0]
        have ee : es = (ks.map fun k => k.eff.l).map D.int := by
          rw [List.map_map]
          exact map_of (by omega) hP
        rw [ee] at w
        wtm_at "n"
        rw [List.length_map]
        refine s_rng1' (by omega) (by omega) ?_
        refine n_lcR w (fun i d => ∃ k, ks[i]? = some k ∧ d = oD k.eff.g) (by omega) (fun v => rfl) (fun i D acc H0 C hi w kc => ?_) fun p5 es H5 hes hP w => ?_
        · wtm_at "n"
          have hi2 : i < ks.length := by omega
          have hi3 : (0 + (i : Int)).toNat = i := by omega
          obtain ⟨k, hk⟩ : ∃ k, ks[i]? = some k := ⟨_, List.getElem?_eq_getElem hi2⟩
          refine n_ixAny w (ds := ks.map spD) (by ktf_call "rk") (by omega) (by rw [List.length_map]; omega) fun d u hd w => ?_
          rw [hi3, List.getElem?_map, hk] at hd
          cases hd
          rw [spD_eq] at w
          wtm_at "n"
          rename_i u2 w
          refine n_ixTi w (.mem List.mem_cons_self) (args_last2 k) ?_
          wtm_at "n"
          wtm_at "fork"
          · rename_i h0
            wtm_at "n"
            refine n_ixInts (ns := ks.map fun k => k.acr.b) w (by ktf_call "rk") (by omega) (by rw [List.length_map]; omega) fun n hn => ?_
            rw [hi3, List.getElem?_map, hk] at hn
            cases hn
            refine kc _ _ _ (w.tail.tail.add (.int _)) ⟨k, hk, ?_⟩
            rw [Bx.eff, T3.eff, h0]
            rfl
          · rename_i h0
            wtm_at "n"
            refine n_ixAny w (ds := (ks.map fun k => k.acr.g).map oD) (by ktf_call "rk") (by omega) (by rw [List.length_map, List.length_map]; omega) fun d u hd w => ?_
            rw [hi3, List.getElem?_map, List.getElem?_map, hk] at hd
            cases hd
            refine kc _ _ _ (w.sub (KS.cons (Kn.mem List.mem_cons_self) (KS.drop (KS.drop (KS.drop KS.refl)))) (List.Sublist.refl _)) ⟨k, hk, ?_⟩
            rw [Bx.eff, T3.eff, if_neg h0]
        have ee : es = (ks.map fun k => k.eff.g).map oD := by
          rw [List.map_map]
          exact map_of (by omega) hP
        rw [ee] at w
        wtm_at "n"
        refine n_sum w (ns := ks.map fun k => k.eff.l) (by ktf_call "rk") ?_
        wtm_at "n"
        refine n_sum w (ns := ks.map fun k => k.acr.b) (by ktf_call "rk") ?_
        wtm_at "n"
        refine n_inO w (os := ks.map fun k => k.eff.g) (by ktf_call "rk") ?_
        have erow : Bx.acr (.line false ks n p s) = rowT n (ks.map Bx.eff) := by rw [Bx.acr, effs_map]; rfl
        have eg : (ks.map Bx.eff).map (·.g) = ks.map (fun k => k.eff.g) := by rw [List.map_map]; rfl
        rw [erow, rowT_eq (acrs_ne hk0 _), List.length_map, eg, List.map_map, List.map_map] at k
        by_cases hN : none ∈ ks.map fun k => k.eff.g
        · rw [decide_eq_true hN]
          rw [if_pos hN] at k
          wtm_at "n"
          rename_i w
          exact k _ _ (w.sub (KS.cons (Kn.mem List.mem_cons_self) (KS.drop (KS.drop (KS.drop KS.refl)))) (by ktf_call "sl"))
        · rw [decide_eq_false hN]
          rw [if_neg hN, List.map_map] at k
          rw [opts_ints hN] at w
          wtm_at "n"
          refine n_sum w (ns := (ks.map fun k => k.eff.g).map optN) (by ktf_call "rk") ?_
          rw [List.map_map]
          wtm_at "n"
          rename_i w
          exact k _ _ (w.sub (KS.cons (Kn.mem List.mem_cons_self) (KS.drop (KS.drop (KS.drop KS.refl)))) (by ktf_call "sl"))
abbrev s__law_across : Stmt := top 67
theorem sc__law_across : FnScope ["_law_spec", "_law_kid"] ["_law_spec"] (defScope s__law_across) := ⟨rfl, rfl, rfl, by decide +kernel, rfl, by decide +kernel, by decide +kernel⟩
def sp__law_across (m : Nat) : Sp := fun vs H Q _ => ∃ F M v, ∃ t : Bx, vs = [v] ∧ Wf F H M ∧ Rk F M v (spD t) ∧ BxOk t ∧ t.dp ≤ m ∧ t.dp ≤ 6 ∧ ∀ r H', Wf ((r, t3D t.acr) :: F) H' M → Q r H'
theorem no0__law_across {vs : List V} {H : Hp} {Q : VK} {E : XK} : ¬ sp__law_across 0 vs H Q E := fun ⟨_, _, _, t, _, _, _, _, h, _⟩ => by have := dp_pos t; omega
theorem n_lacross {F : List (V × D)} {H : Hp} {M : List ME} {v : V} {t : Bx} {m : Nat} {Q : VK} {E : XK} (w : Wf F H M) (hv : Rk F M v (spD t)) (ok : BxOk t) (hd : t.dp ≤ m) (h6 : t.dp ≤ 6) (q : ∀ r H', Wf ((r, t3D t.acr) :: F) H' M → Q r H') : sp__law_across m ([v] ++ []) H Q E := ⟨F, M, v, t, rfl, w, hv, ok, hd, h6, q⟩

theorem ok0__law_across {f : Addr} {fd : FuncData} (F : Fun K "_law_across" "_law_across" s__law_across f fd) : FnOk P wd K mg base CX0 2 f fd ["_law_spec"] (sp__law_across 0) := F.ok sc__law_across (fun vs H Q E h => (no0__law_across h).elim) (fun cdv A outer s H vs Q E hr h => (no0__law_across h).elim)
theorem ok__law_across {dep : Nat} {f : Addr} {fd : FuncData} (F : Fun K "_law_across" "_law_across" s__law_across f fd) (B : Bn mg) (c__law_three : Cal P wd K mg base "_law_three" 1 ["_law_spec", "_law_inner"] [] sp__law_three) (c__law_across : Cal P wd K mg base "_law_across" (2 + dep) ["_law_spec"] [] (sp__law_across dep))  : FnOk P wd K mg base CX0 (2 + dep + 1) f fd ["_law_spec"] (sp__law_across (dep + 1)) := by
  refine F.ok sc__law_across (fun vs H Q E h => ?_) (fun cdv A outer s H vs Q E hr h => ?_)
  · obtain ⟨F, M, v, t, rfl, w, hv0, ok, hd, h6, k⟩ := h
    all_goals rfl
  · obtain ⟨F, M, v, t, rfl, w, hv0, ok, hd, h6, k⟩ := h
    refine ⟨_, (pss_one (ps_ret (pe_cal c__law_three (hr.mono (by omega)) (by rfl) (pa_cons (pv 0) (pa_cons (pe_lc (own := [("_law_kid", 1)]) (by rfl) sc__law_across.nd (kpi_list (K := K) rfl (pe_ix (k_ix (K := K) rfl) (pv 0) pe_int (fun _ _ => rfl))) (blkOk_by (own := [("_law_kid", 1)]) (N := ["_law_spec", "_law_kid"]) (sc := defScope s__law_across) (by decide +kernel)) (fun _ _ _ _ _ => (pg_name (i := 1) sc__law_across.nd rfl (Or.inl rfl))) (fun _ _ _ _ _ => pts_nil) (fun _ _ _ _ _ => (pe_cal c__law_across (hr.mono (by omega)) (by rfl) (pa_cons (pv 1) pa_nil)))) pa_nil))))), ?_⟩
    try dsimp only [cxOf, Cx.nox, Cx.wish, Cx.blk]
    rw [show L2.start (["_law_spec", "_law_kid"] : List Str) [v] = [some v, none] from rfl]
    have hv := hv0
    rw [spD_eq] at hv
    have hk8 := ok.k8
    wtm_at "n"
    rename_i u w
    refine n_lcMap (g := spD) (f := fun k : Bx => t3D k.acr) (l := t.kids) w (.mem List.mem_cons_self) (by omega) (fun v => rfl) (fun x y D acc H0 C hx w kc => ?_) fun p H1 w => ?_
    · have := kid_dp hx
      wtm_at "n"
      refine n_lacross (t := x) w (.mem List.mem_cons_self) (ok.kid hx) (by omega) (by omega) fun r H2 w => ?_
      exact kc _ _ (w.sub (KS.cons (Kn.mem List.mem_cons_self) (KS.drop (KS.drop KS.refl))) (List.Sublist.refl _))
    wtm_at "n"
    refine n_lthree (t := t) w (.more (.moreF hv0)) (.ml List.mem_cons_self) ok h6 fun r H2 w => ?_
    exact k _ _ (w.sub (KS.cons (Kn.mem List.mem_cons_self) (KS.drop (KS.drop KS.refl))) (List.sublist_cons_self _ _))
abbrev s__law_wide : Stmt := top 68
theorem sc__law_wide : FnScope ["_law_bag_here", "_law_three_here", "_law_least", "_law_base", "_law_greatest", "_law_way", "_law_near"] ["_law_bag_here", "_law_three_here"] (defScope s__law_wide) := ⟨rfl, rfl, rfl, by decide +kernel, rfl, by decide +kernel, by decide +kernel⟩
def sp__law_wide : Sp := fun vs H Q _ => ∃ F M b v, ∃ t : T3, vs = [.ref b, v] ∧ Wf F H M ∧ .bag b ∈ M ∧ Rk F M v (t3D t) ∧ T3Ok t 1000000000 ∧ ∀ x H', 0 ≤ x → x ≤ 1000000000000 → Wf F H' M → Q (.int x) H'
theorem n_lwide {F : List (V × D)} {H : Hp} {M : List ME} {b : Addr} {v : V} {t : T3} {Q : VK} {E : XK} (w : Wf F H M) (hb : .bag b ∈ M) (hv : Rk F M v (t3D t)) (ok : T3Ok t 1000000000) (q : ∀ x H', 0 ≤ x → x ≤ 1000000000000 → Wf F H' M → Q (.int x) H') : sp__law_wide ([.ref b, v] ++ []) H Q E := ⟨F, M, b, v, t, rfl, w, hb, hv, ok, q⟩

theorem ok__law_wide {f : Addr} {fd : FuncData} (F : Fun K "_law_wide" "_law_wide" s__law_wide f fd) (B : Bn mg) (c__law_take : Cal P wd K mg base "_law_take" 1 ["_law_bag_here", "_law_many"] [] sp__law_take) (c__law_length : Cal P wd K mg base "_law_length" 2 ["_law_bag_here", "_law_most"] [] sp__law_length)  : FnOk P wd K mg base CX0 3 f fd ["_law_bag_here", "_law_three_here"] sp__law_wide := by
  refine F.ok sc__law_wide (fun vs H Q E h => ?_) (fun cdv A outer s H vs Q E hr h => ?_)
  · obtain ⟨F, M, b, v, t, rfl, w, hb, hv, ok, k⟩ := h
    all_goals rfl
  · obtain ⟨F, M, b, v, t, rfl, w, hb, hv, ok, k⟩ := h
    refine ⟨_, (pss_cons (ps_asg (pv 1) (kpg_tup (K := K) (n := 3) rfl rfl (pgs_cons (pg_name (i := 2) sc__law_wide.nd rfl (Or.inl rfl)) (pgs_cons (pg_name (i := 3) sc__law_wide.nd rfl (Or.inl rfl)) (pgs_cons (pg_name (i := 4) sc__law_wide.nd rfl (Or.inl rfl)) pgs_nil)))))
      (pss_cons (ps_set (i := 5) sc__law_wide.nd rfl (Or.inl rfl) (pe_cal c__law_take (hr.mono (by decide)) (by rfl) (pa_cons (pv 0) (pa_cons pe_int pa_nil))))
      (pss_cons (ps_if (pt_cmpR (k_eq (K := K) rfl hr.units) (pv 5) pe_int (nomark _)) (pss_one (ps_ret (pe_cal c__law_length (hr.mono (by decide)) (by rfl) (pa_cons (pv 0) (pa_cons pe_int pa_nil))))) pss_nil)
      (pss_cons (ps_if (pt_cmpR (k_eq (K := K) rfl hr.units) (pv 5) pe_int (nomark _)) (pss_one (ps_ret (pe_op (k_add (K := K) rfl) (pv 3) (pe_cal c__law_length (hr.mono (by decide)) (by rfl) (pa_cons (pv 0) (pa_cons pe_int pa_nil)))))) pss_nil)
      (pss_cons (ps_if (pt_cmpR (k_eq (K := K) rfl hr.units) (pv 5) pe_int (nomark _)) (pss_one (ps_ret (pe_op (k_add (K := K) rfl) (pv 2) (pe_cal c__law_take (hr.mono (by decide)) (by rfl) (pa_cons (pv 0) (pa_cons (pe_op (k_add (K := K) rfl) (pe_op op_sub (pv 3) (pv 2)) pe_int) pa_nil)))))) pss_nil)
      (pss_cons (ps_set (i := 6) sc__law_wide.nd rfl (Or.inl rfl) (pv 2))
      (pss_cons (ps_if (pt_cmpR (k_eq (K := K) rfl hr.units) (pv 5) pe_int (nomark _)) (pss_one (ps_set (i := 6) sc__law_wide.nd rfl (Or.inl rfl) (pv 3))) pss_nil)
      (pss_cons (ps_if (pw_and (pt_cmpR (k_eq (K := K) rfl hr.units) (pv 5) pe_int (nomark _)) (pw_and1 (pt_cmp (pc_notN (pv 4))))).pt (pss_one (ps_set (i := 6) sc__law_wide.nd rfl (Or.inl rfl) (pv 4))) pss_nil)
      (pss_one (ps_ret (pe_callB (k_max (K := K) rfl rfl) (by rfl) B.max_ (by decide +kernel) (pa_cons pe_int (pa_cons (pe_op (k_add (K := K) rfl) (pe_op op_sub (pv 6) pe_int) (pe_cal c__law_take (hr.mono (by decide)) (by rfl) (pa_cons (pv 0) (pa_cons pe_int pa_nil)))) pa_nil))))))))))))), ?_⟩
    try dsimp only [cxOf, Cx.nox, Cx.wish, Cx.blk]
    obtain ⟨tl, tb, tg⟩ := t
    obtain ⟨l0, lb, bm, hg⟩ := ok
    simp only at l0 lb bm hg
    replace hv : Rk F M v (.tup [.int tl, .int tb, oD tg]) := hv
    wtm_at "n"
    rename_i y1 y2 y3 w0
    obtain ⟨rfl, w1⟩ := w0.eq0
    obtain ⟨rfl, w2⟩ := w1.eq0
    obtain ⟨rfl, w3⟩ := w2.eqO
    clear w0 w1 w2 w
    have w := w3
    clear w3
    wtm_at "n"
    refine n_take w hb (by omega) (by omega) fun c H1 c0 c1 w => ?_
    wtm_at "n"
    wtm_at "fork"
    · wtm_at "n"
      refine n_length w hb (by omega) (by omega) fun x H2 x0 x1 w => ?_
      exact k _ _ x0 (by omega) w
    wtm_at "n"
    wtm_at "fork"
    · wtm_at "n"
      refine n_length w hb (by omega) (by omega) fun x H2 x0 x1 w => ?_
      wtm_at "n"
      exact k _ _ (by omega) (by omega) w
    wtm_at "n"
    wtm_at "fork"
    · wtm_at "n"
      refine n_take w hb (by omega) (by omega) fun x H2 x0 x1 w => ?_
      wtm_at "n"
      exact k _ _ (by omega) (by omega) w
    wtm_at "sq2"
    simp only [List.set_cons_succ, List.set_cons_zero]
    with_reducible refine s_midX (fun σ' H' => ∃ y : Int, σ' = [some (.ref b), some v, some (.int tl), some (.int tb), some (oV tg), some (.int c), some (.int y)] ∧ 0 ≤ y ∧ y ≤ 1000000000 ∧ Wf F H' M) ?_ (fun N fin => ?_)
    rotate_left
    · wtm_at "n"
      wtm_at "fork"
      · wtm_at "n"
        exact fin _ _ ⟨tb, rfl, by omega, by omega, w⟩
      · wtm_at "n"
        exact fin _ _ ⟨tl, rfl, by omega, by omega, w⟩
    clear w
    rintro σ' H' ⟨y, rfl, y0, y1, w⟩
    wtm_at "sq2"
    with_reducible refine s_midX (fun σ' H' => ∃ y : Int, σ' = [some (.ref b), some v, some (.int tl), some (.int tb), some (oV tg), some (.int c), some (.int y)] ∧ 0 ≤ y ∧ y ≤ 1000000000 ∧ Wf F H' M) ?_ (fun N fin => ?_)
    rotate_left
    · wtm_at "n"
      wtm_at "fork"
      · cases tg with
        | none =>
          rw [show oV none = V.non from rfl]
          wtm_at "n"
          exact fin _ _ ⟨y, rfl, y0, y1, w⟩
        | some g =>
          rw [show oV (some g) = V.int g from rfl]
          have := hg g rfl
          wtm_at "n"
          exact fin _ _ ⟨g, rfl, by omega, by omega, w⟩
      · wtm_at "n"
        exact fin _ _ ⟨y, rfl, y0, y1, w⟩
    clear w
    rintro σ' H' ⟨y, rfl, y0, y1, w⟩
    wtm_at "n"
    refine n_take w hb (by omega) (by omega) fun x H2 x0 x1 w => ?_
    wtm_at "n"
    exact k _ _ (by split <;> omega) (by split <;> omega) w
abbrev s__law_whole : Stmt := top 69
theorem sc__law_whole : FnScope ["_law_thing"] ["_law_thing"] (defScope s__law_whole) := ⟨rfl, rfl, rfl, by decide +kernel, rfl, by decide +kernel, by decide +kernel⟩
def sp__law_whole : Sp := fun vs H Q _ => ∃ I M v d a, vs = [v] ∧ W I H M ∧ Is I v d ∧ d.tn = some a ∧ Q (.bl d.whole) H
theorem use_wholeI {I H : Hp} {M : List (Addr × HO)} {n : Int} {Q : VK} {E : XK} (w : W I H M) (q : Q (.bl true) H) : sp__law_whole ([.int n] ++ []) H Q E := ⟨I, M, _, _, _, rfl, w, .int n, rfl, q⟩
theorem use_wholeN {I H : Hp} {M : List (Addr × HO)} {v : V} {d : D} {a : String} {Q : VK} {E : XK} (w : W I H M) (h : Is I v d) (ha : d.tn = some a) (hd : d.whole = false) (q : Q (.bl false) H) : sp__law_whole ([v] ++ []) H Q E := ⟨I, M, _, _, _, rfl, w, h, ha, by rw [hd]; exact q⟩
theorem n_wh {F : List (V × D)} {H : Hp} {M : List ME} {v : V} {d : D} {Q : VK} {E : XK} (w : Wf F H M) (hv : Rk F M v d) (ht : Ty d) (q : Q (.bl d.whole) H) : sp__law_whole ([v] ++ []) H Q E := by
  obtain ⟨a, ha⟩ := ht
  exact ⟨H, [], v, d, a, rfl, W.self, w.rd hv, ha, q⟩
theorem n_whI {n : Int} {H : Hp} {Q : VK} {E : XK} (q : Q (.bl true) H) : sp__law_whole ([.int n] ++ []) H Q E := ⟨H, [], .int n, .int n, _, rfl, W.self, .int n, rfl, q⟩
local macro_rules | `(tactic| wtm_at "c0") => `(tactic| with_reducible refine n_whI ?_)

theorem ok__law_whole {f : Addr} {fd : FuncData} (F : Fun K "_law_whole" "_law_whole" s__law_whole f fd) (B : Bn mg)  : FnOk P wd K mg base CX0 1 f fd ["_law_thing"] sp__law_whole := by
  refine F.ok sc__law_whole (fun vs H Q E h => ?_) (fun cdv A outer s H vs Q E hr h => ?_)
  · obtain ⟨I, M, v, d, a, rfl, w, hv, ha, k⟩ := h
    all_goals rfl
  · obtain ⟨I, M, v, d, a, rfl, w, hv, ha, k⟩ := h
    refine ⟨_, (pss_one (ps_ret (pe_and (pe_callB (k_isi (K := K) rfl) (by rfl) B.isinstance_ (by decide +kernel) (pa_cons (pv 0) (pa_cons (pe_bltn (v := .ty "int") (by rfl) B.int_ (by decide +kernel) rfl) pa_nil))) (pe_one (pe_not (pe_callB (k_isi (K := K) rfl) (by rfl) B.isinstance_ (by decide +kernel) (pa_cons (pv 0) (pa_cons (pe_bltn (v := .ty "bool") (by rfl) B.bool_ (by decide +kernel) rfl) pa_nil)))))))), ?_⟩
    try dsimp only [cxOf, Cx.nox, Cx.wish, Cx.blk]
    cases d with
    | int n => wtm_at "go"; exact k
    | bl n => wtm_at "go"; exact k
    | non => wtm_at "go"; exact k
    | str n => wtm_at "go"; exact k
    | tup n => wtm_at "go"; exact k
    | lst n => wtm_at "go"; exact k
    | ref n => cases ha
    | ty n => cases ha
    | obj n m => cases ha
    | fact _ => cases ha
    | dict => wtm_at "go"; exact k
abbrev s__law_wholes : Stmt := top 70
theorem sc__law_wholes : FnScope ["_law_found", "_law_due_here", "_law_one", "_law_other"] ["_law_found", "_law_due_here"] (defScope s__law_wholes) := ⟨rfl, rfl, rfl, by decide +kernel, rfl, by decide +kernel, by decide +kernel⟩
/-- d is a list of the whole numbers es -/
def Whs (d : D) (es : List D) : Prop := ∃ ns : List Int, d = .lst (ns.map D.int) ∧ es = ns.map D.int
structure WhOk (F : List (V × D)) (d : D) (es : List D) : Prop where
  ty : Ty d
  el : ∀ ds, d = .lst ds → ds.length ≤ 1000 ∧ (∀ x ∈ ds, TyF F x) ∧ ∀ (i : Nat) x y, ds[i]? = some x → es[i]? = some y → x.whole = true → y.whole = true
def sp__law_wholes : Sp := fun vs H Q _ => ∃ F M u v d es, vs = [u, v] ∧ Wf F H M ∧ Rk F M u d ∧ Rk F M v (.lst es) ∧ WhOk F d es ∧ ∀ (b : Bool) H', (b = true ↔ Whs d es) → Wf F H' M → Q (.bl b) H'
theorem n_wholes {F : List (V × D)} {H : Hp} {M : List ME} {u v : V} {d : D} {es : List D} {Q : VK} {E : XK} (w : Wf F H M) (hu : Rk F M u d) (hv : Rk F M v (.lst es)) (ok : WhOk F d es) (q : ∀ (b : Bool) H', (b = true ↔ Whs d es) → Wf F H' M → Q (.bl b) H') : sp__law_wholes ([u, v] ++ []) H Q E := ⟨F, M, u, v, d, es, rfl, w, hu, hv, ok, q⟩
theorem WhOk.ints {F : List (V × D)} {ns : List Int} (h : ns.length ≤ 1000) : WhOk F (.lst (ns.map D.int)) (ns.map D.int) := ⟨⟨_, rfl⟩, fun ds e => by
  cases e
  refine ⟨by simpa using h, fun x hx => ?_, fun i x y hx hy _ => ?_⟩
  · obtain ⟨n, _, rfl⟩ := List.mem_map.mp hx
    exact .inl ⟨_, rfl⟩
  · rw [hx] at hy
    cases hy
    obtain ⟨n, _, rfl⟩ := map_get hx
    rfl⟩
theorem Whs.ints (ns : List Int) : Whs (.lst (ns.map D.int)) (ns.map D.int) := ⟨ns, rfl, rfl⟩
theorem n_wholesT {F : List (V × D)} {H : Hp} {M : List ME} {u v : V} {ns : List Int} {Q : VK} {E : XK} (w : Wf F H M) (hu : Rk F M u (.lst (ns.map D.int))) (hv : Rk F M v (.lst (ns.map D.int))) (hl : ns.length ≤ 1000) (q : ∀ H', Wf F H' M → Q (.bl true) H') : sp__law_wholes ([u, v] ++ []) H Q E :=
  n_wholes w hu hv (.ints hl) fun b H' hb w' => by
    rw [hb.mpr (Whs.ints ns)]
    exact q H' w'
theorem whole_of {d : D} (h : d.whole = true) : ∃ n, d = .int n := by
  cases d with
  | int n => exact ⟨n, rfl⟩
  | _ => cases h

theorem ok__law_wholes {f : Addr} {fd : FuncData} (F : Fun K "_law_wholes" "_law_wholes" s__law_wholes f fd) (B : Bn mg) (c__law_whole : Cal P wd K mg base "_law_whole" 1 ["_law_thing"] [] sp__law_whole)  : FnOk P wd K mg base CX0 2 f fd ["_law_found", "_law_due_here"] sp__law_wholes := by
  refine F.ok sc__law_wholes (fun vs H Q E h => ?_) (fun cdv A outer s H vs Q E hr h => ?_)
  · obtain ⟨F, M, u, v, d, es, rfl, w, hu, hv, ok, k⟩ := h
    all_goals rfl
  · obtain ⟨F, M, u, v, d, es, rfl, w, hu, hv, ok, k⟩ := h
    refine ⟨_, (pss_cons (ps_if (pw_or (pt_not (pt_val (pe_callB (k_isi (K := K) rfl) (by rfl) B.isinstance_ (by decide +kernel) (pa_cons (pv 0) (pa_cons (pe_bltn (v := .ty "list") (by rfl) B.list_ (by decide +kernel) rfl) pa_nil))))) (pw_or1 (pt_cmpR (k_ne (K := K) rfl hr.units) (pe_callB (k_len (K := K) rfl) (by rfl) B.len_ (by decide +kernel) (pa_cons (pv 0) pa_nil)) (pe_callB (k_len (K := K) rfl) (by rfl) B.len_ (by decide +kernel) (pa_cons (pv 1) pa_nil)) (nomark _)))).pt (pss_one (ps_ret pe_bl)) pss_nil)
      (pss_cons (ps_for PassesOwn.never rfl (pi_zip (by rfl) B.zip_ (pa_cons (pv 0) (pa_cons (pv 1) pa_nil))) (kpg_tup (K := K) (n := 2) rfl rfl (pgs_cons (pg_name (i := 2) sc__law_wholes.nd rfl (Or.inl rfl)) (pgs_cons (pg_name (i := 3) sc__law_wholes.nd rfl (Or.inl rfl)) pgs_nil))) (pss_one (ps_if (pw_or (pt_not (pt_val (pe_cal c__law_whole (hr.mono (by decide)) (by rfl) (pa_cons (pv 2) pa_nil)))) (pw_or1 (pt_cmpR (k_ne (K := K) rfl hr.units) (pv 2) (pv 3) (nomark _)))).pt (pss_one (ps_ret pe_bl)) pss_nil)))
      (pss_one (ps_ret pe_bl)))), ?_⟩
    try dsimp only [cxOf, Cx.nox, Cx.wish, Cx.blk]
    obtain ⟨a, ha⟩ := ok.ty
    have no : (∀ ds, d ≠ .lst ds) → ∀ b : Bool, b = false → (b = true ↔ Whs d es) := fun h b hb => by
      subst hb
      exact ⟨fun q => (nomatch q), fun ⟨ns, e, _⟩ => absurd e (h _)⟩
    cases d with
    | lst ds =>
      obtain ⟨hl, hty, hwh⟩ := ok.el ds rfl
      wtm_at "n"
      wtm_at "fork"
      · rename_i hle
        have hle' : ds.length = es.length := by omega
        wtm_at "n"
        refine n_zip w (fun i σ' F' M' => (∃ x2 x3, σ' = [some u, some v, x2, x3]) ∧ F = F' ∧ M = M' ∧ ∃ ns : List Int, ds.take i = ns.map D.int ∧ es.take i = ns.map D.int) (by rintro i σ' F' M' ⟨_, rfl, rfl, _⟩; exact ⟨hu, hv⟩) ⟨⟨_, _, rfl⟩, rfl, rfl, [], rfl, rfl⟩ ?_ ?_
        · rintro i x y z σ' H' F' M' hx hy ⟨⟨x2, x3, rfl⟩, rfl, rfl, ns, e1, e2⟩ w
          have hxm := List.mem_of_getElem? hx
          wtm_at "n"
          rename_i a b w
          obtain ⟨ex, tx, rx, hex⟩ := TyF.go w (by ktf_call "kn") (hty x hxm).more.more.more
          refine n_wh w rx tx ?_
          rw [hex]
          cases hw : x.whole with
          | false =>
            wtm_at "n"
            refine k false _ ⟨fun q => (nomatch q), fun ⟨ms, e, _⟩ => ?_⟩ (by wtm_at "wf")
            cases e
            obtain ⟨n, _, rfl⟩ := map_get hx
            cases hw
          | true =>
            obtain ⟨n, rfl⟩ := whole_of hw
            obtain ⟨m, rfl⟩ := whole_of (hwh i _ _ hx hy hw)
            cases w.eq0.1
            cases w.eq0.2.eq0.1
            wtm_at "n"
            wtm_at "fork"
            · rename_i he
              subst he
              wtm_at "n"
              exact ⟨_, _, ⟨⟨_, _, rfl⟩, rfl, rfl, ns ++ [n], by rw [take_snoc hx, e1, List.map_append]; rfl, by rw [take_snoc hy, e2, List.map_append]; rfl⟩, by wtm_at "wf"⟩
            · rename_i he
              wtm_at "n"
              refine k false _ ⟨fun q => (nomatch q), fun ⟨ms, e, e'⟩ => ?_⟩ (by wtm_at "wf")
              cases e
              subst e'
              rw [hx] at hy
              cases hy
              exact absurd rfl he
        · rintro σ' H' F' M' ⟨⟨x2, x3, rfl⟩, rfl, rfl, ns, e1, e2⟩ w
          rw [List.take_of_length_le (by omega)] at e1 e2
          wtm_at "n"
          exact k true _ ⟨fun _ => ⟨ns, by rw [e1], e2⟩, fun _ => rfl⟩ w
      · rename_i hle
        wtm_at "n"
        refine k false _ ⟨fun q => (nomatch q), fun ⟨ms, e, e'⟩ => ?_⟩ w
        cases e
        subst e'
        exact absurd rfl hle
    | int n => wtm_at "n"; exact k false _ (no (fun _ h => (nomatch h)) _ rfl) w
    | bl n => wtm_at "n"; exact k false _ (no (fun _ h => (nomatch h)) _ rfl) w
    | non => wtm_at "n"; exact k false _ (no (fun _ h => (nomatch h)) _ rfl) w
    | str n => wtm_at "n"; exact k false _ (no (fun _ h => (nomatch h)) _ rfl) w
    | tup n => wtm_at "n"; exact k false _ (no (fun _ h => (nomatch h)) _ rfl) w
    | ref n => cases ha
    | ty n => cases ha
    | obj n m => cases ha
    | fact _ => cases ha
    | dict => wtm_at "n"; exact k false _ (no (fun _ h => (nomatch h)) _ rfl) w
/-! ### all times a number -/
def tmR (c : Int) (r : Row) : Row := ⟨r.b * c, r.l * c, r.g.map (· * c), r.w, r.s⟩
structure COk (r : Row) : Prop where
  ok : ROk r
  b6 : r.b ≤ 1000000
  g6 : ∀ g, r.g = some g → g ≤ 1000000
theorem pos_cast {c : Int} (h : 0 < c) : (0 : Rat) < (c : Rat) := by exact Rat.intCast_lt_intCast.mpr h
theorem tm_ok {c : Int} (c0 : 1 ≤ c) (c1 : c ≤ 1000000) {r : Row} (h : COk r) : ROk (tmR c r) := by
  have l0 := h.ok.l0; have lb := h.ok.lb; have b6 := h.b6
  refine ⟨Int.mul_nonneg l0 (by omega), Int.mul_le_mul_of_nonneg_right lb (by omega), ?_, ?_, h.ok.w0, h.ok.w1, h.ok.s0, h.ok.s1⟩
  · have := Int.mul_le_mul b6 c1 (by omega) (by decide)
    exact this
  · unfold tmR
    cases e : r.g with
    | none => exact .inl rfl
    | some g =>
      have h1 := (h.ok.g0 e).1
      have h2 := h.g6 g e
      exact .inr ⟨g * c, rfl, Int.mul_le_mul_of_nonneg_right h1 (by omega), Int.mul_le_mul h2 c1 (by omega) (by decide)⟩
theorem tm_siz {c : Int} (c0 : 1 ≤ c) (r : Row) (p : Rat) : sizR (tmR c r) (p * c) = sizR r p * c := by
  have hc : (0 : Rat) < (c : Rat) := pos_cast (by omega)
  have neg : p * (c : Rat) < 0 ↔ p < 0 := by
    have := Rat.mul_lt_mul_right (a := p) (b := 0) hc
    rw [Rat.zero_mul] at this
    exact this
  have lt : ∀ x y : Rat, x * c < y * c ↔ x < y := fun x y => Rat.mul_lt_mul_right hc
  by_cases hp : p < 0
  · rw [siz_neg hp, siz_neg (neg.mpr hp)]
    have e : ((tmR c r).b : Rat) + (tmR c r).s * (p * c) = ((r.b : Rat) + r.s * p) * c := by
      show ((r.b * c : Int) : Rat) + (r.s : Rat) * (p * c) = _
      rw [Rat.intCast_mul]
      grind
    have e2 : ((tmR c r).l : Rat) = (r.l : Rat) * c := by
      show ((r.l * c : Int) : Rat) = _
      rw [Rat.intCast_mul]
    rw [e, e2]
    by_cases hl : (r.b : Rat) + r.s * p < r.l
    · rw [if_pos hl, if_pos ((lt _ _).mpr hl)]
    · rw [if_neg hl, if_neg (fun z => hl ((lt _ _).mp z))]
  · have hp' : ¬ p * (c : Rat) < 0 := fun z => hp (neg.mp z)
    have e : ((tmR c r).b : Rat) + (tmR c r).w * (p * c) = ((r.b : Rat) + r.w * p) * c := by
      show ((r.b * c : Int) : Rat) + (r.w : Rat) * (p * c) = _
      rw [Rat.intCast_mul]
      grind
    cases hg : r.g with
    | none => rw [siz_pos_none hp hg, siz_pos_none hp' (by simp [tmR, hg]), e]
    | some g =>
      rw [siz_pos_some hp hg, siz_pos_some hp' (g := g * c) (by simp [tmR, hg]), e, Rat.intCast_mul]
      by_cases hl : (g : Rat) < (r.b : Rat) + r.w * p
      · rw [if_pos hl, if_pos ((lt _ _).mpr hl)]
      · rw [if_neg hl, if_neg (fun z => hl ((lt _ _).mp z))]
theorem tm_end {c : Int} (up : Bool) (r : Row) : endI up (tmR c r) = endI up r * c := by
  unfold endI tmR
  dsimp only
  split
  · split
    · cases r.g <;> simp
    · rfl
  · split <;> rfl
theorem rs_mul {α : Type} {f : α → Rat} (c : Rat) (xs : List α) : rs (xs.map fun x => f x * c) = rs (xs.map f) * c := by
  induction xs with
  | nil => simp only [List.map_nil, rs_nil]; grind
  | cons x xs ih => rw [List.map_cons, List.map_cons, rs_cons, rs_cons, ih]; grind
theorem tm_bsum {c : Int} (rows : List Row) : bsum (rows.map (tmR c)) = bsum rows * c := by
  induction rows with
  | nil => simp [bsum]
  | cons r rows ih =>
    rw [List.map_cons, bsum_cons, bsum_cons, ih, Int.add_mul]
    rfl
theorem tm_sh {c : Int} (c0 : 1 ≤ c) {rows : List Row} {R : Rat} {o : Option Rat} (h : ShR rows R o) : ShR (rows.map (tmR c)) (R * c) (o.map (· * (c : Rat))) := by
  have hc : (0 : Rat) < (c : Rat) := pos_cast (by omega)
  have lt : ∀ x y : Rat, x * c < y * c ↔ x < y := fun x y => Rat.mul_lt_mul_right hc
  have ends : ∀ up, rs ((rows.map (tmR c)).map fun r => (endI up r : Rat)) = rs (rows.map fun r => (endI up r : Rat)) * c := fun up => by
    rw [← rs_mul, List.map_map]
    exact rs_congr fun r _ => by show ((endI up (tmR c r) : Int) : Rat) = _; rw [tm_end, Rat.intCast_mul]
  have hb : ((bsum (rows.map (tmR c)) : Int) : Rat) = (bsum rows : Rat) * c := by rw [tm_bsum, Rat.intCast_mul]
  cases o with
  | some p =>
    refine ⟨?_, ?_⟩
    · rw [List.map_map, ← h.1, ← rs_mul]
      exact rs_congr fun r _ => tm_siz c0 r p
    · rcases h.2 with rfl | ⟨hp, r, hr, hw, hg⟩ | ⟨hp, r, hr, hs, hl⟩
      · exact .inl (by show (0 : Rat) * c = 0; grind)
      · refine .inr (.inl ⟨Rat.mul_pos hp hc, tmR c r, List.mem_map_of_mem hr, hw, fun g hgg => ?_⟩)
        unfold tmR at hgg
        cases e : r.g with
        | none => rw [e] at hgg; cases hgg
        | some g0 =>
          rw [e] at hgg
          have e2 : g0 * c = g := by simpa using hgg
          have h1 := hg g0 e
          have h2 := Rat.mul_le_mul_of_nonneg_right h1 (Rat.le_of_lt hc)
          rw [← e2]
          show ((r.b * c : Int) : Rat) + (r.w : Rat) * (p * c) ≤ ((g0 * c : Int) : Rat)
          rw [Rat.intCast_mul, Rat.intCast_mul]
          grind
      · have hn : p * (c : Rat) < 0 := by
          have := (lt p 0).mpr hp
          rw [Rat.zero_mul] at this
          exact this
        refine .inr (.inr ⟨hn, tmR c r, List.mem_map_of_mem hr, hs, ?_⟩)
        have h2 := Rat.mul_le_mul_of_nonneg_right hl (Rat.le_of_lt hc)
        show ((r.l * c : Int) : Rat) ≤ ((r.b * c : Int) : Rat) + (r.s : Rat) * (p * c)
        rw [Rat.intCast_mul, Rat.intCast_mul]
        grind
  | none =>
    rcases h with ⟨h1, h2, h3⟩ | ⟨h1, h2⟩
    · refine .inl ⟨by rw [hb]; exact (lt _ _).mpr h1, fun r' hr' hw => ?_, by rw [ends]; exact (lt _ _).mpr h3⟩
      obtain ⟨r, hr, rfl⟩ := List.mem_map.mp hr'
      have := h2 r hr hw
      unfold tmR
      cases e : r.g with
      | none => exact absurd e this
      | some g => simp
    · exact .inr ⟨by rw [hb]; exact (lt _ _).mpr h1, by rw [ends]; exact (lt _ _).mpr h2⟩
theorem tm_up {c : Int} (c0 : 1 ≤ c) (rows : List Row) (R : Rat) : shUp (rows.map (tmR c)) (R * c) = shUp rows R := by
  have hc : (0 : Rat) < (c : Rat) := pos_cast (by omega)
  unfold shUp
  rw [decide_eq_decide, tm_bsum, Rat.intCast_mul]
  exact Rat.mul_lt_mul_right hc
theorem tm_shL {c : Int} (c0 : 1 ≤ c) (rows : List Row) (R : Rat) (o : Option Rat) : shL (rows.map (tmR c)) (R * c) (o.map (· * (c : Rat))) = (shL rows R o).map (· * (c : Rat)) := by
  cases o with
  | some p =>
    show (rows.map (tmR c)).map (sizR · (p * c)) = _
    rw [shL, List.map_map, List.map_map]
    exact List.map_congr_left fun r _ => tm_siz c0 r p
  | none =>
    show (rows.map (tmR c)).map (fun r => ((endI (shUp (rows.map (tmR c)) (R * c)) r : Int) : Rat)) = _
    rw [shL, List.map_map, List.map_map, tm_up c0]
    exact List.map_congr_left fun r _ => by show ((endI _ (tmR c r) : Int) : Rat) = _; rw [tm_end, Rat.intCast_mul]; rfl
theorem tm_all {c : Int} (c0 : 1 ≤ c) {rows : List Row} {R : Rat} {o u : Option Rat} (ok : ∀ r ∈ rows.map (tmR c), ROk r) (h : ShR rows R o) (hu : ShR (rows.map (tmR c)) (R * c) u) : u = o.map (· * (c : Rat)) ∧ shL (rows.map (tmR c)) (R * c) u = (shL rows R o).map (· * (c : Rat)) ∧ R * c - rs (shL (rows.map (tmR c)) (R * c) u) = (R - rs (shL rows R o)) * c := by
  have e := one_room ok hu (tm_sh c0 h)
  subst e
  refine ⟨rfl, tm_shL c0 rows R o, ?_⟩
  rw [tm_shL c0]
  have := rs_mul (f := fun x : Rat => x) (c : Rat) (shL rows R o)
  rw [List.map_id'] at this
  rw [this]
  grind
theorem tm_dv (q : Rat) (c : Int) : Rat.divInt (q.num * c) q.den = q * c := by
  have e := Rat.num_divInt_den q
  rw [Rat.divInt_eq_div, Rat.div_def] at e
  rw [Rat.divInt_eq_div, Rat.div_def, Rat.intCast_mul]
  conv => rhs; rw [← e]
  grind

/-! ### the law's own sums: sizes over the price's bottom -/
def sizI (r : Row) (p : Rat) : Int :=
  if p.num < 0 then max (r.l * p.den) (r.b * p.den + r.s * p.num)
  else match r.g with
    | none => r.b * p.den + r.w * p.num
    | some g => min (r.b * p.den + r.w * p.num) (g * p.den)
theorem num_mul (p : Rat) : (p.num : Rat) = p * ((p.den : Int) : Rat) := by
  have hd0 : (0 : Int) < (p.den : Int) := Int.natCast_pos.mpr p.den_pos
  have hd : (0 : Rat) < ((p.den : Int) : Rat) := by exact Rat.intCast_lt_intCast.mpr hd0
  have q := Rat.num_divInt_den p
  rw [Rat.divInt_eq_div] at q
  have q2 := congrArg (· * ((p.den : Int) : Rat)) q
  have hne : ((p.den : Int) : Rat) ≠ 0 := by grind
  simp only [Rat.div_mul_cancel hne] at q2
  exact q2
theorem lin_den (b w : Int) (p : Rat) : ((b * p.den + w * p.num : Int) : Rat) = ((b : Rat) + (w : Rat) * p) * ((p.den : Int) : Rat) := by
  rw [Rat.intCast_add, Rat.intCast_mul, Rat.intCast_mul, num_mul]
  grind
theorem den_lt {x y : Rat} {p : Rat} : x * ((p.den : Int) : Rat) < y * ((p.den : Int) : Rat) ↔ x < y := by
  have hd0 : (0 : Int) < (p.den : Int) := Int.natCast_pos.mpr p.den_pos
  have hd : (0 : Rat) < ((p.den : Int) : Rat) := by exact Rat.intCast_lt_intCast.mpr hd0
  constructor
  · intro h
    rcases Rat.le_total (a := y) (b := x) with h1 | h1
    · have := Rat.mul_le_mul_of_nonneg_right h1 (Rat.le_of_lt hd)
      grind
    · grind
  · intro h
    exact Rat.mul_lt_mul_of_pos_right h hd
theorem sizI_eq (r : Row) (p : Rat) : ((sizI r p : Int) : Rat) = sizR r p * ((p.den : Int) : Rat) := by
  obtain ⟨b, l, g, w, s⟩ := r
  unfold sizI sizR sizQ
  by_cases hp : p < 0
  · rw [if_pos hp, if_pos (lt_zero.mp hp)]
    simp only
    have e1 := lin_den b s p
    have e2 : ((l * p.den : Int) : Rat) = (l : Rat) * ((p.den : Int) : Rat) := Rat.intCast_mul _ _
    by_cases h : (b : Rat) + s * p < l
    · rw [if_pos h, ← e2]
      have h2 := den_lt (p := p).mpr h
      rw [← e1, ← e2] at h2
      have h3 := Rat.intCast_lt_intCast.mp h2
      rw [Int.max_eq_left (by omega)]
    · rw [if_neg h, ← e1]
      have h2 : ¬ ((b * p.den + s * p.num : Int) : Rat) < ((l * p.den : Int) : Rat) := fun q => h (den_lt (p := p).mp (by rw [← e1, ← e2]; exact q))
      have h3 : ¬ b * (p.den : Int) + s * p.num < l * p.den := fun q => h2 (Rat.intCast_lt_intCast.mpr q)
      rw [Int.max_eq_right (by omega)]
  · rw [if_neg hp, if_neg fun q => hp (lt_zero.mpr q)]
    simp only
    have e1 := lin_den b w p
    cases g with
    | none =>
      simp only
      rw [e1]
      rfl
    | some g =>
      have e2 : ((g * p.den : Int) : Rat) = (g : Rat) * ((p.den : Int) : Rat) := Rat.intCast_mul _ _
      simp only
      by_cases h : (g : Rat) < (b : Rat) + w * p
      · rw [show capG (oD (some g)) ((b : Rat) + w * p) = (g : Rat) from if_pos h, ← e2]
        have h2 := den_lt (p := p).mpr h
        rw [← e1, ← e2] at h2
        have h3 := Rat.intCast_lt_intCast.mp h2
        rw [Int.min_eq_right (by omega)]
      · rw [show capG (oD (some g)) ((b : Rat) + w * p) = (b : Rat) + w * p from if_neg h, ← e1]
        have h2 : ¬ ((g * p.den : Int) : Rat) < ((b * p.den + w * p.num : Int) : Rat) := fun q => h (den_lt (p := p).mp (by rw [← e1, ← e2]; exact q))
        have h3 : ¬ g * (p.den : Int) < b * p.den + w * p.num := fun q => h2 (Rat.intCast_lt_intCast.mpr q)
        rw [Int.min_eq_left (by omega)]
def flo (d : Int) (ns : List Int) : List Int := (List.range ns.length).map fun i => (ns.take (i + 1)).sum / d - (ns.take i).sum / d
theorem rs_sizI (rows : List Row) (p : Rat) : rs (rows.map (sizR · p)) = Rat.divInt (rows.map (sizI · p)).sum p.den := by
  have hd0 : (0 : Int) < (p.den : Int) := Int.natCast_pos.mpr p.den_pos
  have hd : (0 : Rat) < ((p.den : Int) : Rat) := by exact Rat.intCast_lt_intCast.mpr hd0
  have hne : ((p.den : Int) : Rat) ≠ 0 := by grind
  have h := rs_mul (f := fun r : Row => sizR r p) ((p.den : Int) : Rat) rows
  rw [rs_congr (g := fun r : Row => ((sizI r p : Int) : Rat)) (fun r _ => (sizI_eq r p).symm), rs_int] at h
  rw [Rat.divInt_eq_div, h, Rat.mul_div_cancel hne]
theorem sum_sizI {rows : List Row} {p : Rat} {m : Int} (h : rs (rows.map (sizR · p)) = (m : Rat)) : (rows.map (sizI · p)).sum = m * p.den := by
  have h2 := rs_mul (f := fun r : Row => sizR r p) ((p.den : Int) : Rat) rows
  rw [rs_congr (g := fun r : Row => ((sizI r p : Int) : Rat)) (fun r _ => (sizI_eq r p).symm), rs_int, h, ← Rat.intCast_mul] at h2
  exact Rat.intCast_inj.mp h2
theorem whl_flo (rows : List Row) (p : Rat) : whl (rows.map (sizR · p)) = flo p.den (rows.map (sizI · p)) := by
  have hd0 : (0 : Int) < (p.den : Int) := Int.natCast_pos.mpr p.den_pos
  unfold whl flo
  rw [List.length_map, List.length_map]
  apply List.map_congr_left
  intro i _
  rw [← List.map_take, ← List.map_take, ← List.map_take, ← List.map_take, rs_sizI, rs_sizI, floor_dv hd0, floor_dv hd0]
theorem whl_ints (ns : List Int) : whl (ns.map fun n : Int => (n : Rat)) = ns := by
  have e : ∀ xs : List Int, (rs (xs.map fun n : Int => (n : Rat))).floor = xs.sum := fun xs => by
    have h := rs_int (f := fun n : Int => n) xs
    rw [List.map_id'] at h
    rw [h, Rat.floor_intCast]
  unfold whl
  rw [List.length_map]
  apply List.ext_getElem (by rw [List.length_map, List.length_range])
  intro i h1 h2
  rw [List.getElem_map, List.getElem_range, ← List.map_take, ← List.map_take, e, e, List.take_add_one, List.getElem?_eq_getElem h2, List.sum_append]
  simp
  omega
theorem whl_ends (rows : List Row) (up : Bool) : whl (rows.map fun r => (endI up r : Rat)) = rows.map (endI up) := by
  have := whl_ints (rows.map (endI up))
  rw [List.map_map] at this
  exact this
def lrD (r : Row) : D := .tup [.int r.l, .int r.b, oD r.g, .int r.w, .int r.s]
/-- the last sizes upwards, as told -/
def tpO (r : Row) : Option Int := if r.w = 0 then some r.b else r.g
def lowI (r : Row) : Int := if r.s = 0 then r.b else r.l
theorem tpO_end {r : Row} (ok : ROk r) (h : tpO r ≠ none) : tpO r = some (endI true r) := by
  have := ok.w0
  unfold tpO endI at *
  simp only [if_true]
  by_cases hw : r.w = 0
  · rw [if_pos hw, if_neg (by omega)]
  · rw [if_neg hw] at h ⊢
    rw [if_pos (by omega)]
    cases hg : r.g with
    | none => exact absurd hg h
    | some g => rfl
theorem lowI_end {r : Row} (ok : ROk r) : lowI r = endI false r := by
  have := ok.s0
  unfold lowI endI
  simp only [Bool.false_eq_true, if_false]
  by_cases hs : r.s = 0
  · rw [if_pos hs, if_neg (by omega)]
  · rw [if_neg hs, if_pos (by omega)]
theorem tops_some {rows : List Row} (ok : ∀ r ∈ rows, ROk r) (h : none ∉ rows.map tpO) : (rows.map tpO).map oD = (rows.map (endI true)).map D.int ∧ (rows.map tpO).map optN = rows.map (endI true) := by
  have e : rows.map tpO = (rows.map (endI true)).map some := by
    rw [List.map_map]
    exact List.map_congr_left fun r hr => tpO_end (ok r hr) fun q => h (List.mem_map.mpr ⟨r, hr, q⟩)
  rw [e]
  refine ⟨by rw [List.map_map, List.map_map, List.map_map]; rfl, by rw [List.map_map, List.map_map]; rfl⟩
theorem tops_none {rows : List Row} (h : ∀ r ∈ rows, 0 < r.w → r.g ≠ none) (ok : ∀ r ∈ rows, ROk r) : none ∉ rows.map tpO := fun q => by
  obtain ⟨r, hr, e⟩ := List.mem_map.mp q
  have := (ok r hr).w0
  unfold tpO at e
  by_cases hw : r.w = 0
  · rw [if_pos hw] at e; cases e
  · rw [if_neg hw] at e
    exact h r hr (by omega) e
theorem ends_ge {rows : List Row} (ok : ∀ r ∈ rows, ROk r) (h : none ∉ rows.map tpO) : bsum rows ≤ (rows.map (endI true)).sum := by
  induction rows with
  | nil => exact Int.le_refl _
  | cons r rows ih =>
    have h1 := ih (fun x hx => ok x (List.mem_cons_of_mem _ hx)) fun q => h (List.mem_cons_of_mem _ q)
    have h2 : r.b ≤ endI true r := by
      have h3 : tpO r ≠ none := fun q => h (List.mem_map.mpr ⟨r, List.mem_cons_self, q⟩)
      unfold tpO at h3
      unfold endI
      simp only [if_true]
      by_cases hw : 0 < r.w
      · rw [if_pos hw]
        rw [if_neg (by omega)] at h3
        cases hg : r.g with
        | none => exact absurd hg h3
        | some g => exact ((ok r List.mem_cons_self).g0 hg).1
      · rw [if_neg hw]; exact Int.le_refl _
    rw [bsum_cons, List.map_cons, List.sum_cons]
    omega
/-- which way the ends lie -/
theorem ends_case {rows : List Row} {m : Int} (ok : ∀ r ∈ rows, ROk r) (h : ShR rows (m : Rat) none) :
    (none ∉ rows.map tpO ∧ (rows.map (endI true)).sum < m ∧ whl (shL rows (m : Rat) none) = rows.map (endI true)) ∨ ((none ∉ rows.map tpO → ¬ (rows.map (endI true)).sum < m) ∧ (rows.map (endI false)).sum > m ∧ whl (shL rows (m : Rat) none) = rows.map (endI false)) := by
  rcases h with ⟨h1, h2, h3⟩ | ⟨h1, h2⟩
  · left
    rw [rs_int] at h3
    have e : shUp rows (m : Rat) = true := decide_eq_true h1
    refine ⟨tops_none h2 ok, Rat.intCast_lt_intCast.mp h3, ?_⟩
    show whl (rows.map fun r => (endI (shUp rows (m : Rat)) r : Rat)) = _
    rw [e, whl_ends]
  · right
    have h1' := Rat.intCast_lt_intCast.mp h1
    rw [rs_int] at h2
    have e : shUp rows (m : Rat) = false := decide_eq_false fun q => by
      have := Rat.intCast_lt_intCast.mp q
      omega
    refine ⟨fun hn q => by have := ends_ge ok hn; omega, Rat.intCast_lt_intCast.mp h2, ?_⟩
    show whl (rows.map fun r => (endI (shUp rows (m : Rat)) r : Rat)) = _
    rw [e, whl_ends]

abbrev s__law_floors : Stmt := top 71
theorem sc__law_floors : FnScope ["_law_sizes", "_law_bottom", "_law_wides_here", "_law_total", "_law_size"] ["_law_sizes", "_law_bottom"] (defScope s__law_floors) := ⟨rfl, rfl, rfl, by decide +kernel, rfl, by decide +kernel, by decide +kernel⟩
def sp__law_floors : Sp := fun vs H Q _ => ∃ F M v, ∃ (ns : List Int) (d : Int), vs = [v, .int d] ∧ Wf F H M ∧ Rk F M v (.lst (ns.map D.int)) ∧ 0 < d ∧ Bd 1000 d ∧ ns.length ≤ 100 ∧ ∀ p H', Wf F H' (.ml p ((flo d ns).map D.int) :: M) → Q (.ref p) H'
theorem n_floors {F : List (V × D)} {H : Hp} {M : List ME} {v : V} {ns : List Int} {d : Int} {Q : VK} {E : XK} (w : Wf F H M) (hv : Rk F M v (.lst (ns.map D.int))) (hd : 0 < d) (hB : Bd 1000 d) (hl : ns.length ≤ 100) (q : ∀ p H', Wf F H' (.ml p ((flo d ns).map D.int) :: M) → Q (.ref p) H') : sp__law_floors ([v, .int d] ++ []) H Q E := ⟨F, M, v, ns, d, rfl, w, hv, hd, hB, hl, q⟩

theorem ok__law_floors {f : Addr} {fd : FuncData} (F : Fun K "_law_floors" "_law_floors" s__law_floors f fd) (B : Bn mg)  : FnOk P wd K mg base CX0 1 f fd ["_law_sizes", "_law_bottom"] sp__law_floors := by
  refine F.ok sc__law_floors (fun vs H Q E h => ?_) (fun cdv A outer s H vs Q E hr h => ?_)
  · obtain ⟨F, M, v, ns, d, rfl, w, hv, hd, hB, hl, k⟩ := h
    all_goals rfl
  · obtain ⟨F, M, v, ns, d, rfl, w, hv, hd, hB, hl, k⟩ := h
    refine ⟨_, (pss_cons (ps_set (i := 2) sc__law_floors.nd rfl (Or.inl rfl) (pe_lst pa_nil))
      (pss_cons (ps_set (i := 3) sc__law_floors.nd rfl (Or.inl rfl) pe_int)
      (pss_cons (ps_for PassesOwn.never rfl (kpi_list (K := K) rfl (pv 0)) (pg_name (i := 4) sc__law_floors.nd rfl (Or.inl rfl)) (pss_cons (ps_expr (pe_bm PySem.F.plainAttrs_list PySem.F.slot_list_append PySem.F.type_list_append mt_append (pv 2) (pa_cons (pe_op op_sub (pe_op op_fdivW (pe_op (k_add (K := K) rfl) (pv 3) (pv 4)) (pv 1)) (pe_op op_fdivW (pv 3) (pv 1))) pa_nil)))
      (pss_one (ps_aug (i := 3) sc__law_floors.nd rfl (Or.inl rfl) (pv 4) ip_add))))
      (pss_one (ps_ret (pv 2)))))), ?_⟩
    try dsimp only [cxOf, Cx.nox, Cx.wish, Cx.blk]
    rw [show L2.start (["_law_sizes", "_law_bottom", "_law_wides_here", "_law_total", "_law_size"] : List Str) [v, .int d] = [some v, some (.int d), none, none, none] from rfl]
    wtm_at "n"
    rename_i p0 H1 w
    have w : Wf F H1 (.ml p0 (((List.range 0).map fun j => (ns.take (j + 1)).sum / d - (ns.take j).sum / d).map D.int) :: M) := w
    refine n_forL w (fun i σ' F' M' => ∃ x4, σ' = [some v, some (.int d), some (.ref p0), some (.int (ns.take i).sum), x4] ∧ F' = F ∧ M' = .ml p0 (((List.range i).map fun j => (ns.take (j + 1)).sum / d - (ns.take j).sum / d).map D.int) :: M) (fun i σ F' M' h => by
      obtain ⟨_, _, rfl, rfl⟩ := h
      exact .more hv) ⟨_, rfl, rfl, rfl⟩ ?_ ?_
    rotate_left
    · clear w
      rintro σ' H' F' M' ⟨x4, rfl, rfl, rfl⟩ w
      rw [List.length_map] at w
      wtm_at "n"
      exact k _ _ w
    clear w
    rintro i d' x σ' H' F' M' hd' ⟨x4, rfl, rfl, rfl⟩ w
    obtain ⟨n, hn, rfl⟩ := map_get hd'
    obtain ⟨rfl, w⟩ := w.eq0
    have hi : i < ns.length := (List.getElem?_eq_some_iff.mp hn).1
    wtm_at "no"
    refine s_I (hB.cd hd) ?_
    wtm_at "n"
    refine s_I (hB.cd hd) ?_
    wtm_at "n"
    rename_i w
    have es : (ns.take (i + 1)).sum = (ns.take i).sum + n := by rw [take_snoc hn, List.sum_append]; simp
    rw [← es] at w ⊢
    refine ⟨_, _, ⟨_, rfl, rfl, rfl⟩, ?_⟩
    rw [List.range_succ, List.map_append, List.map_append]
    exact w.tail
abbrev s__law_ends : Stmt := top 72
theorem sc__law_ends : FnScope ["_law_rows", "_law_room", "_law_tops", "_law_lows", "_law_row"] ["_law_rows", "_law_room"] (defScope s__law_ends) := ⟨rfl, rfl, rfl, by decide +kernel, rfl, by decide +kernel, by decide +kernel⟩
def sp__law_ends : Sp := fun vs H Q _ => ∃ F M v, ∃ (rows : List Row) (m : Int), vs = [v, .int m] ∧ Wf F H M ∧ Rk F M v (.lst (rows.map lrD)) ∧ (∀ r ∈ rows, ROk r) ∧ rows.length ≤ 100 ∧ ShR rows (m : Rat) none ∧ ∀ p H', Wf F H' (.ml p ((whl (shL rows (m : Rat) none)).map D.int) :: M) → Q (.ref p) H'
theorem n_lends2 {F : List (V × D)} {H : Hp} {M : List ME} {v : V} {rows : List Row} {m : Int} {Q : VK} {E : XK} (w : Wf F H M) (hv : Rk F M v (.lst (rows.map lrD))) (ok : ∀ r ∈ rows, ROk r) (hl : rows.length ≤ 100) (hs : ShR rows (m : Rat) none) (q : ∀ p H', Wf F H' (.ml p ((whl (shL rows (m : Rat) none)).map D.int) :: M) → Q (.ref p) H') : sp__law_ends ([v, .int m] ++ []) H Q E := ⟨F, M, v, rows, m, rfl, w, hv, ok, hl, hs, q⟩

theorem ok__law_ends {f : Addr} {fd : FuncData} (F : Fun K "_law_ends" "_law_ends" s__law_ends f fd) (B : Bn mg)  : FnOk P wd K mg base CX0 1 f fd ["_law_rows", "_law_room"] sp__law_ends := by
  refine F.ok sc__law_ends (fun vs H Q E h => ?_) (fun cdv A outer s H vs Q E hr h => ?_)
  · obtain ⟨F, M, v, rows, m, rfl, w, hv, ok, hl, hs, k⟩ := h
    all_goals rfl
  · obtain ⟨F, M, v, rows, m, rfl, w, hv, ok, hl, hs, k⟩ := h
    refine ⟨_, (pss_cons (ps_setLc (i := 2) (own := [("_law_row", 4)]) (by rfl) sc__law_ends.nd rfl rfl (sw_true rfl rfl rfl (by decide +kernel)) (kpi_list (K := K) rfl (pv 0)) (blkOk_by (own := [("_law_row", 4)]) (N := ["_law_rows", "_law_room", "_law_tops", "_law_lows", "_law_row"]) (sc := defScope s__law_ends) (by decide +kernel)) (fun _ _ _ _ _ => (pg_name (i := 4) sc__law_ends.nd rfl (Or.inl rfl))) (fun _ _ _ _ _ => pts_nil) (fun _ _ _ _ _ => (pe_ifExp (pt_cmpR (k_eq (K := K) rfl hr.units) (pe_ix (k_ix (K := K) rfl) (pv 4) pe_int (fun _ _ => rfl)) pe_int (nomark _)) (pe_ix (k_ix (K := K) rfl) (pv 4) pe_int (fun _ _ => rfl)) (pe_ix (k_ix (K := K) rfl) (pv 4) pe_int (fun _ _ => rfl)))))
      (pss_cons (ps_setLc (i := 3) (own := [("_law_row", 4)]) (by rfl) sc__law_ends.nd rfl rfl (sw_true rfl rfl rfl (by decide +kernel)) (kpi_list (K := K) rfl (pv 0)) (blkOk_by (own := [("_law_row", 4)]) (N := ["_law_rows", "_law_room", "_law_tops", "_law_lows", "_law_row"]) (sc := defScope s__law_ends) (by decide +kernel)) (fun _ _ _ _ _ => (pg_name (i := 4) sc__law_ends.nd rfl (Or.inl rfl))) (fun _ _ _ _ _ => pts_nil) (fun _ _ _ _ _ => (pe_ifExp (pt_cmpR (k_eq (K := K) rfl hr.units) (pe_ix (k_ix (K := K) rfl) (pv 4) pe_int (fun _ _ => rfl)) pe_int (nomark _)) (pe_ix (k_ix (K := K) rfl) (pv 4) pe_int (fun _ _ => rfl)) (pe_ix (k_ix (K := K) rfl) (pv 4) pe_int (fun _ _ => rfl)))))
      (pss_cons (ps_if (pw_and (pt_cmpR (k_notin (K := K) rfl) pe_non (pv 2) (by with_unfolding_all rfl)) (pw_and1 (pt_cmpR op_lt (pe_callB (k_sum (K := K) rfl rfl) (by rfl) B.sum_ (by decide +kernel) (pa_cons (pv 2) pa_nil)) (pv 1) (nomark _)))).pt (pss_one (ps_ret (pv 2))) pss_nil)
      (pss_cons (ps_if (pt_cmpR op_gt (pe_callB (k_sum (K := K) rfl rfl) (by rfl) B.sum_ (by decide +kernel) (pa_cons (pv 3) pa_nil)) (pv 1) (nomark _)) (pss_one (ps_ret (pv 3))) pss_nil)
      (pss_one (ps_ret pe_non)))))), ?_⟩
    try dsimp only [cxOf, Cx.nox, Cx.wish, Cx.blk]
    rw [show L2.start (["_law_rows", "_law_room", "_law_tops", "_law_lows", "_law_row"] : List Str) [v, .int m] = [some v, some (.int m), none, none, none] from rfl]
    wtm_at "n"
    refine n_lcMap (g := lrD) (f := fun r : Row => oD (tpO r)) (l := rows) w hv (by omega) (fun v => rfl) (fun r y D acc H0 C hr w kc => ?_) fun p1 H1 w => ?_
    · have w : Wf ((y, .tup [.int r.l, .int r.b, oD r.g, .int r.w, .int r.s]) :: F) H0 (.ml D acc :: M) := w
      wtm_at "n"
      wtm_at "fork"
      · rename_i h0
        wtm_at "n"
        refine kc _ _ (w.tail.add ?_)
        rw [tpO, if_pos h0]
        exact .int _
      · rename_i h0
        wtm_at "n"
        rename_i u w
        refine kc _ _ (w.sub (KS.cons (Kn.mem ?_) (KS.drop (KS.drop KS.refl))) (List.Sublist.refl _))
        rw [tpO, if_neg h0]
        exact List.mem_cons_self
    rw [show rows.map (fun r : Row => oD (tpO r)) = (rows.map tpO).map oD by rw [List.map_map]; rfl] at w
    wtm_at "n"
    refine n_lcMapI (g := lrD) (f := fun r : Row => lowI r) (l := rows) w hv.more (by omega) (fun v => rfl) (fun r y D acc H0 C hr w kc => ?_) fun p2 H2 w => ?_
    · have w : Wf ((y, .tup [.int r.l, .int r.b, oD r.g, .int r.w, .int r.s]) :: F) H0 (.ml D acc :: .ml p1 ((rows.map tpO).map oD) :: M) := w
      wtm_at "n"
      wtm_at "fork"
      · rename_i h0
        wtm_at "n"
        rw [lowI, if_pos h0] at kc
        exact kc _ w.tail
      · rename_i h0
        wtm_at "n"
        rw [lowI, if_neg h0] at kc
        exact kc _ w.tail
    rw [show (rows.map fun r : Row => lowI r) = rows.map (endI false) from List.map_congr_left fun r hr => lowI_end (ok r hr)] at w
    wtm_at "n"
    refine n_notinO w (os := rows.map tpO) (.ml (.tail _ (.head _))) ?_
    rcases ends_case ok hs with ⟨h1, h2, h3⟩ | ⟨h1, h2, h3⟩
    · rw [decide_eq_false h1]
      rw [h3] at k
      rw [(tops_some ok h1).1] at w
      wtm_at "n"
      refine n_sum w (ns := rows.map (endI true)) (.ml (.tail _ (.head _))) ?_
      wtm_at "n"
      refine s_iteDp h2 ?_
      wtm_at "n"
      exact k _ _ (w.sub (fun f hf => .mem hf) (by ktf_call "sl"))
    rw [h3] at k
    have fin : ∀ {H' : Hp} {ds : List D}, Wf F H' (.ml p2 ((rows.map (endI false)).map D.int) :: .ml p1 ds :: M) → Wf F H' (.ml p2 ((rows.map (endI false)).map D.int) :: M) := fun w => w.sub (fun f hf => .mem hf) (by ktf_call "sl")
    by_cases hN : none ∈ rows.map tpO
    · rw [decide_eq_true hN]
      wtm_at "n"
      refine n_sum w (ns := rows.map (endI false)) (.ml (.head _)) ?_
      wtm_at "n"
      refine s_iteDp h2 ?_
      wtm_at "n"
      exact k _ _ (fin w)
    rw [decide_eq_false hN]
    rw [(tops_some ok hN).1] at w
    wtm_at "n"
    refine n_sum w (ns := rows.map (endI true)) (.ml (.tail _ (.head _))) ?_
    wtm_at "n"
    refine s_iteDn (h1 hN) ?_
    wtm_at "n"
    refine n_sum w (ns := rows.map (endI false)) (.ml (.head _)) ?_
    wtm_at "n"
    refine s_iteDp h2 ?_
    wtm_at "n"
    exact k _ _ (fin w)
abbrev s__law_due : Stmt := top 73
theorem sc__law_due : FnScope ["_law_rows", "_law_room", "_law_price", "_law_top", "_law_bottom", "_law_sizes", "_law_least", "_law_base", "_law_greatest", "_law_grow", "_law_shrink", "_law_size"] ["_law_rows", "_law_room", "_law_price"] (defScope s__law_due) := ⟨rfl, rfl, rfl, by decide +kernel, rfl, by decide +kernel, by decide +kernel⟩
def sp__law_due : Sp := fun vs H Q _ => ∃ F M v u, ∃ (rows : List Row) (m : Int) (o : Option Rat), vs = [v, .int m, u] ∧ Wf F H M ∧ Rk F M v (.lst (rows.map lrD)) ∧ Kn F u (shD o) ∧ (∀ r ∈ rows, ROk r) ∧ rows.length ≤ 60 ∧ 0 ≤ m ∧ m ≤ 1000000000000 ∧ ShR rows (m : Rat) o ∧ (∀ p, o = some p → Sz 140 p) ∧ ∀ q H', Wf F H' (.ml q ((whl (shL rows (m : Rat) o)).map D.int) :: M) → Q (.ref q) H'
theorem n_ldue2 {F : List (V × D)} {H : Hp} {M : List ME} {v u : V} {rows : List Row} {m : Int} {o : Option Rat} {Q : VK} {E : XK} (w : Wf F H M) (hv : Rk F M v (.lst (rows.map lrD))) (hu : Kn F u (shD o)) (ok : ∀ r ∈ rows, ROk r) (hl : rows.length ≤ 60) (m0 : 0 ≤ m) (m1 : m ≤ 1000000000000) (hs : ShR rows (m : Rat) o) (hz : ∀ p, o = some p → Sz 140 p) (q : ∀ q H', Wf F H' (.ml q ((whl (shL rows (m : Rat) o)).map D.int) :: M) → Q (.ref q) H') : sp__law_due ([v, .int m, u] ++ []) H Q E := ⟨F, M, v, u, rows, m, o, rfl, w, hv, hu, ok, hl, m0, m1, hs, hz, q⟩

theorem ok__law_due {f : Addr} {fd : FuncData} (F : Fun K "_law_due" "_law_due" s__law_due f fd) (B : Bn mg) (c__law_ends : Cal P wd K mg base "_law_ends" 1 ["_law_rows", "_law_room"] [] sp__law_ends) (c__law_whole : Cal P wd K mg base "_law_whole" 1 ["_law_thing"] [] sp__law_whole) (c__law_floors : Cal P wd K mg base "_law_floors" 1 ["_law_sizes", "_law_bottom"] [] sp__law_floors)  : FnOk P wd K mg base CX0 2 f fd ["_law_rows", "_law_room", "_law_price"] sp__law_due := by
  refine F.ok sc__law_due (fun vs H Q E h => ?_) (fun cdv A outer s H vs Q E hr h => ?_)
  · obtain ⟨F, M, v, u, rows, m, o, rfl, w, hv, hu, ok, hl, m0, m1, hs, hz, k⟩ := h
    all_goals rfl
  · obtain ⟨F, M, v, u, rows, m, o, rfl, w, hv, hu, ok, hl, m0, m1, hs, hz, k⟩ := h
    refine ⟨_, (pss_cons (ps_if (pt_cmp (pc_isN (pv 2))) (pss_one (ps_ret (pe_cal c__law_ends (hr.mono (by decide)) (by rfl) (pa_cons (pv 0) (pa_cons (pv 1) pa_nil))))) pss_nil)
      (pss_cons (ps_if (pw_or (pt_not (pt_val (pe_callB (k_isi (K := K) rfl) (by rfl) B.isinstance_ (by decide +kernel) (pa_cons (pv 2) (pa_cons (pe_bltn (v := .ty "tuple") (by rfl) B.tuple_ (by decide +kernel) rfl) pa_nil))))) (pw_or (pt_cmpR (k_ne (K := K) rfl hr.units) (pe_callB (k_len (K := K) rfl) (by rfl) B.len_ (by decide +kernel) (pa_cons (pv 2) pa_nil)) pe_int (nomark _)) (pw_or (pt_not (pt_val (pe_cal c__law_whole (hr.mono (by decide)) (by rfl) (pa_cons (pe_ix (k_ix (K := K) rfl) (pv 2) pe_int (fun _ _ => rfl)) pa_nil)))) (pw_or1 (pt_not (pt_val (pe_cal c__law_whole (hr.mono (by decide)) (by rfl) (pa_cons (pe_ix (k_ix (K := K) rfl) (pv 2) pe_int (fun _ _ => rfl)) pa_nil)))))))).pt (pss_one (ps_ret pe_non)) pss_nil)
      (pss_cons (ps_asg (pv 2) (kpg_tup (K := K) (n := 2) rfl rfl (pgs_cons (pg_name (i := 3) sc__law_due.nd rfl (Or.inl rfl)) (pgs_cons (pg_name (i := 4) sc__law_due.nd rfl (Or.inl rfl)) pgs_nil))))
      (pss_cons (ps_if (pt_cmpR op_lt (pv 4) pe_int (nomark _)) (pss_one (ps_ret pe_non)) pss_nil)
      (pss_cons (ps_set (i := 5) sc__law_due.nd rfl (Or.inl rfl) (pe_lst pa_nil))
      (pss_cons (ps_for PassesOwn.never rfl (kpi_list (K := K) rfl (pv 0)) (kpg_tup (K := K) (n := 5) rfl rfl (pgs_cons (pg_name (i := 6) sc__law_due.nd rfl (Or.inl rfl)) (pgs_cons (pg_name (i := 7) sc__law_due.nd rfl (Or.inl rfl)) (pgs_cons (pg_name (i := 8) sc__law_due.nd rfl (Or.inl rfl)) (pgs_cons (pg_name (i := 9) sc__law_due.nd rfl (Or.inl rfl)) (pgs_cons (pg_name (i := 10) sc__law_due.nd rfl (Or.inl rfl)) pgs_nil)))))) (pss_cons (ps_set (i := 11) sc__law_due.nd rfl (Or.inl rfl) (pe_op (k_add (K := K) rfl) (pe_op uo_mul (pv 7) (pv 4)) (pe_op uo_mul (pv 9) (pv 3))))
      (pss_cons (ps_if (pt_cmp (pc_notN (pv 8))) (pss_one (ps_set (i := 11) sc__law_due.nd rfl (Or.inl rfl) (pe_callB (k_min (K := K) rfl rfl) (by rfl) B.min_ (by decide +kernel) (pa_cons (pv 11) (pa_cons (pe_op uo_mul (pv 8) (pv 4)) pa_nil))))) pss_nil)
      (pss_cons (ps_if (pt_cmpR op_lt (pv 3) pe_int (nomark _)) (pss_one (ps_set (i := 11) sc__law_due.nd rfl (Or.inl rfl) (pe_callB (k_max (K := K) rfl rfl) (by rfl) B.max_ (by decide +kernel) (pa_cons (pe_op uo_mul (pv 6) (pv 4)) (pa_cons (pe_op (k_add (K := K) rfl) (pe_op uo_mul (pv 7) (pv 4)) (pe_op uo_mul (pv 10) (pv 3))) pa_nil))))) pss_nil)
      (pss_one (ps_expr (pe_bm PySem.F.plainAttrs_list PySem.F.slot_list_append PySem.F.type_list_append mt_append (pv 5) (pa_cons (pv 11) pa_nil))))))))
      (pss_cons (ps_if (pt_cmpR (k_ne (K := K) rfl hr.units) (pe_callB (k_sum (K := K) rfl rfl) (by rfl) B.sum_ (by decide +kernel) (pa_cons (pv 5) pa_nil)) (pe_op uo_mul (pv 1) (pv 4)) (nomark _)) (pss_one (ps_ret pe_non)) pss_nil)
      (pss_one (ps_ret (pe_cal c__law_floors (hr.mono (by decide)) (by rfl) (pa_cons (pv 5) (pa_cons (pv 4) pa_nil)))))))))))), ?_⟩
    try dsimp only [cxOf, Cx.nox, Cx.wish, Cx.blk]
    rw [show L2.start (["_law_rows", "_law_room", "_law_price", "_law_top", "_law_bottom", "_law_sizes", "_law_least", "_law_base", "_law_greatest", "_law_grow", "_law_shrink", "_law_size"] : List Str) [v, .int m, u] = [some v, some (.int m), some u, none, none, none, none, none, none, none, none, none] from rfl]
    cases o with
    | none =>
      obtain ⟨rfl, _⟩ := (w.add hu).non0
      wtm_at "n"
      refine n_lends2 w hv ok (by omega) hs fun q H1 w => ?_
      exact k _ _ w
    | some p =>
    obtain ⟨ap, rfl⟩ := (w.add (d := .tup [.int p.num, .int p.den]) hu).tup0
    have w : Wf ((.ref ap, .tup [.int p.num, .int p.den]) :: F) H M := w.add hu
    have sp := hz p rfl
    have hd : 0 < (p.den : Int) := den_pos' p
    have bd := sp.d
    have bn := sp.n
    have bm : Bd 41 m := Bd.of 1000000000000 (by omega) (by decide)
    have hsum := sum_sizI (show rs (rows.map (sizR · p)) = (m : Rat) from hs.1)
    have ewh : whl (shL rows (m : Rat) (some p)) = flo p.den (rows.map (sizI · p)) := whl_flo rows p
    wtm_at "n"
    refine s_iteDn (by omega) ?_
    wtm_at "n"
    rename_i ps H1 w
    have w : Wf ((.ref ap, .tup [.int p.num, .int p.den]) :: F) H1 (.ml ps (((rows.take 0).map (sizI · p)).map D.int) :: M) := w
    refine n_forL w (fun i σ' F' M' => ∃ x6 x7 x8 x9 x10 x11, σ' = [some v, some (.int m), some (.ref ap), some (.int p.num), some (.int p.den), some (.ref ps), x6, x7, x8, x9, x10, x11] ∧ F' = (.ref ap, .tup [.int p.num, .int p.den]) :: F ∧ M' = .ml ps (((rows.take i).map (sizI · p)).map D.int) :: M) (fun i σ F' M' h => by
      obtain ⟨_, _, _, _, _, _, _, rfl, rfl⟩ := h
      exact .more (.moreF hv)) ⟨_, _, _, _, _, _, rfl, rfl, rfl⟩ ?_ ?_
    rotate_left
    · clear w
      rintro σ' H' F' M' ⟨x6, x7, x8, x9, x10, x11, rfl, rfl, rfl⟩ w
      rw [List.length_map, List.take_length] at w
      wtm_at "n"
      refine n_sum w (ns := rows.map (sizI · p)) (.ml (.head _)) ?_
      wtm_at "n"
      refine s_mul (Bd.cm bm bd) ?_
      wtm_at "n"
      refine s_iteDp (by rw [hsum]) ?_
      wtm_at "n"
      refine n_floors (ns := rows.map (sizI · p)) w (.ml (.head _)) hd (bd.mono (by decide)) (by rw [List.length_map]; omega) fun q H2 w => ?_
      rw [ewh] at k
      exact k _ _ (w.sub (KS.drop KS.refl) (by ktf_call "sl"))
    clear w
    rintro i d x σ' H' F' M' hd' ⟨x6, x7, x8, x9, x10, x11, rfl, rfl, rfl⟩ w
    obtain ⟨r, hr, rfl⟩ := map_get hd'
    have ro := ok r (List.mem_of_getElem? hr)
    have hi : i < rows.length := (List.getElem?_eq_some_iff.mp hr).1
    have bb : Bd 41 r.b := Bd.of 1000000000000 (by have := ro.bm; have := ro.l0; have := ro.lb; omega) (by decide)
    have bl : Bd 41 r.l := Bd.of 1000000000000 (by have := ro.bm; have := ro.l0; have := ro.lb; omega) (by decide)
    have bw : Bd 41 r.w := Bd.of 1000000000000 (by have := ro.w0; have := ro.w1; omega) (by decide)
    have bs : Bd 41 r.s := Bd.of 1000000000000 (by have := ro.s0; have := ro.s1; omega) (by decide)
    refine n_gtupRow w (b := r.l) (l := r.b) (g := oD r.g) (w := r.w) (s := r.s) (.mem List.mem_cons_self) fun ug w0 => ?_
    obtain ⟨rfl, w1⟩ := w0.eqO
    clear w0 w
    have w := w1.tail
    clear w1
    wtm_at "n"
    refine s_mul (Bd.cm bb bd) ?_
    wtm_at "n"
    refine s_mul (Bd.cm bw bn) ?_
    wtm_at "sq2"
    simp only [List.set_cons_succ, List.set_cons_zero]
    have w : Wf ((.ref ap, .tup [.int p.num, .int p.den]) :: F) H' (.ml ps (((rows.take i).map (sizI · p)).map D.int) :: M) := w
    with_reducible refine s_midX (fun σ' H' => σ' = [some v, some (.int m), some (.ref ap), some (.int p.num), some (.int p.den), some (.ref ps), some (.int r.l), some (.int r.b), some (oV r.g), some (.int r.w), some (.int r.s), some (.int (match r.g with | none => r.b * p.den + r.w * p.num | some g => min (r.b * p.den + r.w * p.num) (g * p.den)))] ∧ Wf ((.ref ap, .tup [.int p.num, .int p.den]) :: F) H' (.ml ps (((rows.take i).map (sizI · p)).map D.int) :: M)) ?_ (fun N fin => ?_)
    rotate_left
    · cases hg : r.g with
      | none =>
        rw [show oV none = V.non from rfl]
        wtm_at "n"
        exact fin _ _ ⟨by rw [hg]; rfl, w⟩
      | some g =>
        rw [show oV (some g) = V.int g from rfl]
        have bg : Bd 41 g := Bd.of 1000000000000 (by have := ro.g0 hg; have := ro.bm; have := ro.l0; have := ro.lb; omega) (by decide)
        wtm_at "n"
        refine s_mul (Bd.cm bg bd) ?_
        wtm_at "n"
        rw [show (if g * (p.den : Int) < r.b * p.den + r.w * p.num then g * (p.den : Int) else r.b * p.den + r.w * p.num) = min (r.b * p.den + r.w * p.num) (g * p.den) by split <;> omega]
        exact fin _ _ ⟨by rw [hg]; rfl, w⟩
    clear w
    rintro σ' H' ⟨rfl, w⟩
    generalize hS : (match r.g with | none => r.b * p.den + r.w * p.num | some g => min (r.b * p.den + r.w * p.num) (g * p.den)) = S
    wtm_at "sq2"
    with_reducible refine s_midX (fun σ' H' => σ' = [some v, some (.int m), some (.ref ap), some (.int p.num), some (.int p.den), some (.ref ps), some (.int r.l), some (.int r.b), some (oV r.g), some (.int r.w), some (.int r.s), some (.int (sizI r p))] ∧ Wf ((.ref ap, .tup [.int p.num, .int p.den]) :: F) H' (.ml ps (((rows.take i).map (sizI · p)).map D.int) :: M)) ?_ (fun N fin => ?_)
    rotate_left
    · by_cases hp : p.num < 0
      · wtm_at "n"
        refine s_iteDp hp ?_
        wtm_at "n"
        refine s_mul (Bd.cm bl bd) ?_
        wtm_at "n"
        refine s_mul (Bd.cm bb bd) ?_
        wtm_at "n"
        refine s_mul (Bd.cm bs bn) ?_
        wtm_at "n"
        rw [show (if r.b * (p.den : Int) + r.s * p.num > r.l * p.den then r.b * (p.den : Int) + r.s * p.num else r.l * p.den) = sizI r p by rw [sizI, if_pos hp]; split <;> omega]
        exact fin _ _ ⟨rfl, w⟩
      · wtm_at "n"
        refine s_iteDn hp ?_
        wtm_at "n"
        exact fin _ _ ⟨by rw [sizI, if_neg hp, ← hS] <;> (cases hgg : r.g <;> rfl), w⟩
    clear w
    rintro σ' H' ⟨rfl, w⟩
    have hl1 : (((rows.take i).map (sizI · p)).map D.int).length ≤ 100000 := by rw [List.length_map, List.length_map, List.length_take]; omega
    wtm_at "n"
    rename_i w
    refine ⟨_, _, ⟨_, _, _, _, _, _, rfl, rfl, rfl⟩, ?_⟩
    rw [take_snoc hr, List.map_append, List.map_append]
    exact w
/-- the breadths of the boxes straight within -/
def WidesR : Bx → Int → List Int → Prop
  | .leaf .., _, ns => ns = []
  | .box .., _, ns => ns = []
  | .pad k y _ _, w, ns => ns = [heldW k.acr (max 0 (w - 2 * y))]
  | .line true ks _ _ _, w, ns => ns = ks.map fun k => heldW k.acr w
  | .line false ks n _ _, w, ns => ∃ o, ShR (ks.map bRow) ((max 0 (w - gapsN n ks) : Int) : Rat) o ∧ ns = whl (shL (ks.map bRow) ((max 0 (w - gapsN n ks) : Int) : Rat) o)
theorem WidesR.uniq {b : Bx} {w : Int} {ms ns : List Int} (ok : BxOk b) (hm : b.mn ≤ 60) (h : WidesR b w ms) (h' : WidesR b w ns) : ms = ns := by
  cases b with
  | leaf => exact h.trans h'.symm
  | box => exact h.trans h'.symm
  | pad => exact h.trans h'.symm
  | line c ks n p s =>
    cases c with
    | true => exact h.trans h'.symm
    | false =>
      obtain ⟨o, h1, rfl⟩ := h
      obtain ⟨u, h2, rfl⟩ := h'
      rw [one_room (fun r hr => by
        obtain ⟨k, hk, rfl⟩ := List.mem_map.mp hr
        exact bRow_ok (ok.kid hk) (by have := mns_le hk; rw [Bx.mn] at hm; omega)) h1 h2]
theorem WidesR.len {b : Bx} {w : Int} {ns : List Int} (h : WidesR b w ns) : ns.length = b.kids.length := by
  cases b with
  | leaf => rw [show ns = [] from h]; rfl
  | box => rw [show ns = [] from h]; rfl
  | pad => rw [show ns = [_] from h]; rfl
  | line c ks n p s =>
    cases c with
    | true => rw [show ns = ks.map _ from h, List.length_map]; rfl
    | false =>
      obtain ⟨o, _, rfl⟩ := h
      unfold whl
      rw [List.length_map, List.length_range]
      cases o <;> simp only [shL, List.length_map, Bx.kids]

abbrev s__law_wides : Stmt := top 74
theorem sc__law_wides : FnScope ["_law_spec", "_law_wide_here", "_law_rows", "_law_kid", "_law_least", "_law_base", "_law_greatest", "_law_room", "_law_parts", "_law_row"] ["_law_spec", "_law_wide_here"] (defScope s__law_wides) := ⟨rfl, rfl, rfl, by decide +kernel, rfl, by decide +kernel, by decide +kernel⟩
def sp__law_wides (CP_ : Addr) : Sp := fun vs H Q _ => ∃ F M v, ∃ (ks : List Bx) (n p s x : Int), vs = [v, .int x] ∧ Wf F H M ∧ Rk F M v (spD (.line false ks n p s)) ∧ BxOk (.line false ks n p s) ∧ (Bx.line false ks n p s).mn ≤ 60 ∧ (Bx.line false ks n p s).dp ≤ 6 ∧ 0 ≤ x ∧ x ≤ 1000000000000 ∧ ∀ q H' ns, WidesR (.line false ks n p s) x ns → Wf F H' (.ml q (ns.map D.int) :: M) → Q (.ref q) H'
theorem n_lwides {CP_ : Addr} {F : List (V × D)} {H : Hp} {M : List ME} {v : V} {ks : List Bx} {n p s x : Int} {Q : VK} {E : XK} (w : Wf F H M) (hv : Rk F M v (spD (.line false ks n p s))) (ok : BxOk (.line false ks n p s)) (hm : (Bx.line false ks n p s).mn ≤ 60) (h6 : (Bx.line false ks n p s).dp ≤ 6) (x0 : 0 ≤ x) (x1 : x ≤ 1000000000000) (q : ∀ q H' ns, WidesR (.line false ks n p s) x ns → Wf F H' (.ml q (ns.map D.int) :: M) → Q (.ref q) H') : sp__law_wides CP_ ([v, .int x] ++ []) H Q E := ⟨F, M, v, ks, n, p, s, x, rfl, w, hv, ok, hm, h6, x0, x1, q⟩

theorem ok__law_wides {f : Addr} {fd : FuncData} (F : Fun K "_law_wides" "_law_wides" s__law_wides f fd) (B : Bn mg) (c__law_across : Cal P wd K mg base "_law_across" 8 ["_law_spec"] [] (sp__law_across 6)) (c__law_due : Cal P wd K mg base "_law_due" 2 ["_law_rows", "_law_room", "_law_price"] [] sp__law_due) (c_share : Cal P wd K mg base "share" 7 ["parts", "room"] [] (sp_share C_Part)) (m_Part : Mak P wd K mg base "Part" C_Part 3 ["self", "base", "least", "greatest", "grow", "shrink"] [] (sp_Part___init__ C_Part)) (o_Part : OwnC K C_Part) (n_Part : ∀ f ∈ (["base", "least", "greatest", "grow", "shrink"] : List Str), NoAttr K C_Part f)  : FnOk P wd K mg base CX0 9 f fd ["_law_spec", "_law_wide_here"] (sp__law_wides C_Part) := by
  refine F.ok sc__law_wides (fun vs H Q E h => ?_) (fun cdv A outer s H vs Q E hr h => ?_)
  · obtain ⟨F, M, v, ks, n, p, s, x, rfl, w, hv, ok, hm, h6, x0, x1, k⟩ := h
    all_goals rfl
  · obtain ⟨F, M, v, ks, n, p, s, x, rfl, w, hv, ok, hm, h6, x0, x1, k⟩ := h
    refine ⟨_, (pss_cons (ps_set (i := 2) sc__law_wides.nd rfl (Or.inl rfl) (pe_lst pa_nil))
      (pss_cons (ps_for PassesOwn.never rfl (kpi_list (K := K) rfl (pe_ix (k_ix (K := K) rfl) (pv 0) pe_int (fun _ _ => rfl))) (pg_name (i := 3) sc__law_wides.nd rfl (Or.inl rfl)) (pss_cons (ps_asg (pe_cal c__law_across (hr.mono (by decide)) (by rfl) (pa_cons (pv 3) pa_nil)) (kpg_tup (K := K) (n := 3) rfl rfl (pgs_cons (pg_name (i := 4) sc__law_wides.nd rfl (Or.inl rfl)) (pgs_cons (pg_name (i := 5) sc__law_wides.nd rfl (Or.inl rfl)) (pgs_cons (pg_name (i := 6) sc__law_wides.nd rfl (Or.inl rfl)) pgs_nil)))))
      (pss_one (ps_expr (pe_bm PySem.F.plainAttrs_list PySem.F.slot_list_append PySem.F.type_list_append mt_append (pv 2) (pa_cons (pe_tup (pa_cons (pv 4) (pa_cons (pv 5) (pa_cons (pv 6) (pa_cons (pe_ix (k_ix (K := K) rfl) (pe_ix (k_ix (K := K) rfl) (pv 3) pe_int (fun _ _ => rfl)) (pe_un un_neg pe_int) (fun _ _ => rfl)) (pa_cons (pe_ix (k_ix (K := K) rfl) (pe_ix (k_ix (K := K) rfl) (pv 3) pe_int (fun _ _ => rfl)) (pe_un un_neg pe_int) (fun _ _ => rfl)) pa_nil)))))) pa_nil))))))
      (pss_cons (ps_set (i := 7) sc__law_wides.nd rfl (Or.inl rfl) (pe_callB (k_max (K := K) rfl rfl) (by rfl) B.max_ (by decide +kernel) (pa_cons pe_int (pa_cons (pe_op op_sub (pv 1) (pe_op uo_mul (pe_ix (k_ix (K := K) rfl) (pe_ix (k_ix (K := K) rfl) (pv 0) pe_int (fun _ _ => rfl)) pe_int (fun _ _ => rfl)) (pe_callB (k_max (K := K) rfl rfl) (by rfl) B.max_ (by decide +kernel) (pa_cons pe_int (pa_cons (pe_op op_sub (pe_callB (k_len (K := K) rfl) (by rfl) B.len_ (by decide +kernel) (pa_cons (pv 2) pa_nil)) pe_int) pa_nil))))) pa_nil))))
      (pss_cons (ps_setLc (i := 8) (own := [("_law_row", 9)]) (by rfl) sc__law_wides.nd rfl rfl (sw_true rfl rfl rfl (by decide +kernel)) (kpi_list (K := K) rfl (pv 2)) (blkOk_by (own := [("_law_row", 9)]) (N := ["_law_spec", "_law_wide_here", "_law_rows", "_law_kid", "_law_least", "_law_base", "_law_greatest", "_law_room", "_law_parts", "_law_row"]) (sc := defScope s__law_wides) (by decide +kernel)) (fun _ _ _ _ _ => (pg_name (i := 9) sc__law_wides.nd rfl (Or.inl rfl))) (fun _ _ _ _ _ => pts_nil) (fun _ _ _ _ _ => (pe_mk m_Part (hr.mono (by decide)) rfl (pa_cons (pe_ix (k_ix (K := K) rfl) (pv 9) pe_int (fun _ _ => rfl)) (pa_cons (pe_ix (k_ix (K := K) rfl) (pv 9) pe_int (fun _ _ => rfl)) (pa_cons (pe_ix (k_ix (K := K) rfl) (pv 9) pe_int (fun _ _ => rfl)) (pa_cons (pe_ix (k_ix (K := K) rfl) (pv 9) pe_int (fun _ _ => rfl)) (pa_cons (pe_ix (k_ix (K := K) rfl) (pv 9) pe_int (fun _ _ => rfl)) pa_nil))))))))
      (pss_one (ps_ret (pe_cal c__law_due (hr.mono (by decide)) (by rfl) (pa_cons (pv 2) (pa_cons (pv 7) (pa_cons (pe_ix (k_ix (K := K) rfl) (pe_cal c_share (hr.mono (by decide)) (by rfl) (pa_cons (pv 8) (pa_cons (pe_tup (pa_cons (pv 7) (pa_cons pe_int pa_nil))) pa_nil))) pe_int (fun _ _ => rfl)) pa_nil)))))))))), ?_⟩
    try dsimp only [cxOf, Cx.nox, Cx.wish, Cx.blk]
    rw [show L2.start (["_law_spec", "_law_wide_here", "_law_rows", "_law_kid", "_law_least", "_law_base", "_law_greatest", "_law_room", "_law_parts", "_law_row"] : List Str) [v, .int x] = [some v, some (.int x), none, none, none, none, none, none, none, none] from rfl]
    obtain ⟨hks, hl, hn⟩ : (∀ k ∈ ks, BxOk k) ∧ ks.length ≤ 8 ∧ Sm n := by
      cases ok with
      | line hk hl hn hw hs => exact ⟨hk, hl, hn⟩
    rw [Bx.mn] at hm
    rw [Bx.dp] at h6
    rw [spD_eq] at hv
    simp only [Bx.tag, Bx.kids, Bx.args, if_true, Bool.false_eq_true, if_false] at hv
    obtain ⟨n0, n1⟩ := id hn
    wtm_at "n"
    rename_i pr H1 w1 u w
    have w : Wf ((u, .lst (ks.map spD)) :: F) H1 (.ml pr ((ks.take 0).map (fun k => lrD (bRow k))) :: M) := w
    refine n_forL w (fun i σ' F' M' => ∃ x3 x4 x5 x6 x7 x8 x9, σ' = [some v, some (.int x), some (.ref pr), x3, x4, x5, x6, x7, x8, x9] ∧ F' = (u, .lst (ks.map spD)) :: F ∧ M' = .ml pr ((ks.take i).map (fun k => lrD (bRow k))) :: M) (fun i σ F' M' h => by
      obtain ⟨_, _, _, _, _, _, _, _, rfl, rfl⟩ := h
      exact .mem List.mem_cons_self) ⟨_, _, _, _, _, _, _, rfl, rfl, rfl⟩ ?_ ?_
    · clear w w1
      rintro i d y σ' H' F' M' hd' ⟨x3, x4, x5, x6, x7, x8, x9, rfl, rfl, rfl⟩ w
      obtain ⟨b, hb, rfl⟩ := map_get hd'
      have hbm : b ∈ ks := List.mem_of_getElem? hb
      have hdb := dps_le hbm
      wtm_at "n"
      refine n_lacross (t := b) (m := 6) w (.mem List.mem_cons_self) (hks b hbm) (by omega) (by omega) fun r H1 w => ?_
      have eb : ∀ T, b.acr = T → bRow b = ⟨T.b, T.l, T.g, b.w, b.s⟩ := fun T h => by rw [bRow, h]
      generalize hT : b.acr = T at w
      obtain ⟨tl, tb, tg⟩ := T
      have eb := eb _ hT
      replace w : Wf ((r, .tup [.int tl, .int tb, oD tg]) :: (y, .tup [.str b.tag, .lst (b.kids.map spD), .tup b.args]) :: (u, .lst (ks.map spD)) :: F) H1 (.ml pr ((ks.take i).map (fun k => lrD (bRow k))) :: M) := by rw [← spD_eq]; exact w
      wtm_at "n"
      rename_i y1 y2 y3 w0 u2 w4
      have ea : y1 = .int tl ∧ y2 = .int tb ∧ y3 = oV tg := by
        obtain ⟨e1, w1⟩ := w0.eq0
        obtain ⟨e2, w2⟩ := w1.eq0
        exact ⟨e1, e2, w2.eqO.1⟩
      obtain ⟨rfl, rfl, rfl⟩ := ea
      refine n_ixTi w4 (.mem List.mem_cons_self) (args_last2 b) ?_
      wtm_at "n"
      rename_i u3 w5
      refine n_ixTi w5 (.mem List.mem_cons_self) (args_last b) ?_
      wtm_at "n"
      rename_i w
      refine ⟨_, _, ⟨_, _, _, _, _, _, _, rfl, rfl, rfl⟩, ?_⟩
      rw [take_snoc hb, List.map_append, List.map_singleton, eb]
      exact w.sub (KS.drop (KS.drop (KS.drop (KS.drop (KS.drop (KS.drop (KS.drop (KS.drop KS.refl)))))))) (List.Sublist.refl _)
    clear w w1
    rintro σ' H' F' M' ⟨x3, x4, x5, x6, x7, x8, x9, rfl, rfl, rfl⟩ w
    rw [List.length_map, List.take_length] at w
    wtm_at "n"
    rw [List.length_map]
    have hgp : Bd 5 (if (ks.length : Int) - 1 > 0 then (ks.length : Int) - 1 else 0) := Bd.of 8 (by split <;> omega) (by decide)
    refine s_mul (Bd.cm (Bd.of 1000000 (by omega) (by decide) : Bd 21 n) hgp) ?_
    have eg : n * (if (ks.length : Int) - 1 > 0 then (ks.length : Int) - 1 else 0) = gapsN n ks := rfl
    rw [eg]
    have g0 : 0 ≤ gapsN n ks := Int.mul_nonneg hn.1 (by split <;> omega)
    wtm_at "n"
    rw [show (if x - gapsN n ks > 0 then x - gapsN n ks else 0) = max 0 (x - gapsN n ks) by split <;> omega]
    have hmm : WidesR (.line false ks n p s) x = WidesR (.line false ks n p s) x := rfl
    generalize hR : max 0 (x - gapsN n ks) = m
    have m0 : 0 ≤ m := by omega
    have m1 : m ≤ 1000000000000 := by omega
    have okr : ∀ r ∈ ks.map bRow, ROk r := fun r hr => by
      obtain ⟨b, hb, rfl⟩ := List.mem_map.mp hr
      exact bRow_ok (hks b hb) (by have := mns_le hb; omega)
    rw [show ks.map (fun k => lrD (bRow k)) = (ks.map bRow).map lrD by rw [List.map_map]; rfl] at w
    refine n_lcMap (g := lrD) (f := prtR C_Part) (l := ks.map bRow) w (.ml List.mem_cons_self) (by rw [List.length_map]; omega) (fun v => rfl) (fun r y D acc H0 C hr w kc => ?_) fun pp H2 w => ?_
    · have w : Wf ((y, .tup [.int r.l, .int r.b, oD r.g, .int r.w, .int r.s]) :: (u, .lst (ks.map spD)) :: F) H0 (.ml D acc :: .ml pr ((ks.map bRow).map lrD) :: M) := w
      wtm_at "n"
      rename_i ug w1
      obtain ⟨rfl, w2⟩ := w1.eqO
      refine n_mkPart w2 (.oV r.g) (okr r hr) fun r2 H3 w => ?_
      exact kc _ _ (w.sub (KS.cons (Kn.mem List.mem_cons_self) (KS.drop (KS.drop KS.refl))) (List.Sublist.refl _))
    wtm_at "n"
    rename_i pt H3 w
    have bm : Bd 41 m := Bd.of 1000000000000 (by omega) (by decide)
    refine n_share (k := 70) (R := (m : Rat)) w (.ml List.mem_cons_self) (.mem (by rw [frq_int]; exact List.mem_cons_self)) okr (by rw [List.length_map]; omega) ⟨by rw [Rat.num_intCast]; exact bm.mono (by decide), by rw [Rat.den_intCast]; exact Bd.of 1 (by decide) (by decide)⟩ (by decide) (by decide) (by exact Rat.intCast_le_intCast.mpr m0) fun o t ps H4 ho hp w => ?_
    wtm_at "n"
    rename_i up w
    have hpo : ∀ p, o = some p → Sz 140 p := hp
    refine n_ldue2 (rows := ks.map bRow) w (.ml (.tail _ (.tail _ (.head _)))) (.mem List.mem_cons_self) okr (by rw [List.length_map]; omega) m0 m1 ho hpo fun q H5 w => ?_
    exact k q _ _ ⟨o, by rw [hR]; exact ⟨ho, rfl⟩⟩ (w.sub (KS.drop (KS.drop (KS.drop (KS.drop KS.refl)))) (by ktf_call "sl"))
theorem bx_nmW {CB CL CR CC CP : Addr} {b : Bx} : ∀ C fs, bxD CB CL CR CC CP b = .obj C fs → ("wides_for" : Str) ∉ fs.map (·.1) := fun C fs e => by
  cases b <;> rw [bxD] at e <;> cases e <;> simp only [List.map_cons, List.map_nil] <;> decide +kernel
theorem n_dynWid {CP_ CB CL CR CC CP : Addr} {F : List (V × D)} {H : Hp} {M : List ME} {v : V} {b : Bx} {x : Int} {Q : VK} {E : XK} (w : Wf F H M) (hv : Rk F M v (bxD CB CL CR CC CP b)) (ok : BxOk b) (hm : b.mn ≤ 60) (h6 : b.dp ≤ 6) (x0 : 0 ≤ x) (x1 : x ≤ 1000000000000) {t : TA} {σ : L2.St} (ht : ∀ R : List V → Hp → Prop, R [.int x] H → t σ H R) (q : ∀ ns p H', WidesR b x ns → Wf F H' (.ml p (ns.map D.int) :: M) → Q (.ref p) H') :
    ∃ p ∈ ([(CB, sp_Box_wides_for), (CL, sp_Box_wides_for), (CR, sp_Row_wides_for CP_ CB CL CR CC CP), (CC, sp_Column_wides_for CB CL CR CC CP), (CP, sp_Pad_wides_for CB CL CR CC CP)] : List (Addr × Sp)), MethQ p.1 "wides_for" v H (t σ H fun vs H2 => p.2 (v :: vs) H2 Q E) := by
  have nm := bx_nmW (CB := CB) (CL := CL) (CR := CR) (CC := CC) (CP := CP) (b := b)
  cases b with
  | box p s =>
    have hv' := hv
    rw [bxD] at hv'
    exact ⟨_, .head _, n_meth w hv' (nm _ _ (by rw [bxD])) (ht _ ⟨F, M, v, _, rfl, w, fun p H' w' => q [] p H' rfl w'⟩)⟩
  | leaf key b l g p s =>
    have hv' := hv
    rw [bxD] at hv'
    exact ⟨_, .tail _ (.head _), n_meth w hv' (nm _ _ (by rw [bxD])) (ht _ ⟨F, M, v, _, rfl, w, fun p H' w' => q [] p H' rfl w'⟩)⟩
  | pad k n p s =>
    have hv' := hv
    rw [bxD] at hv'
    exact ⟨_, .tail _ (.tail _ (.tail _ (.tail _ (.head _)))), n_meth w hv' (nm _ _ (by rw [bxD])) (ht _ ⟨F, M, v, k, n, p, s, x, rfl, w, hv, ok, h6, fun p H' w' => q _ p H' rfl w'⟩)⟩
  | line c ks n p s =>
    have hv' := hv
    rw [bxD] at hv'
    cases c
    · exact ⟨_, .tail _ (.tail _ (.head _)), n_meth w hv' (nm _ _ (by rw [bxD])) (ht _ ⟨F, M, v, ks, n, p, s, x, rfl, w, hv, ok, hm, h6, x0, x1, fun o p H' ho w' => q _ p H' ⟨o, ho, rfl⟩ w'⟩)⟩
    · exact ⟨_, .tail _ (.tail _ (.tail _ (.head _))), n_meth w hv' (nm _ _ (by rw [bxD])) (ht _ ⟨F, M, v, ks, n, p, s, x, rfl, w, hv, ok, h6, fun p H' w' => q _ p H' rfl w'⟩)⟩

def sp_law (K : PySem.W.Frag) : Sp := fun vs H Q _ => ∃ a, ∃ ns : List Int, vs = [.ref a] ∧ SqL K H a (ns.map V.int) ∧ Only H ∧ ns.length ≤ 63 ∧ (∀ z ∈ ns, Builtin.Int.intBits z ≤ 1048576) ∧ ∀ H', Q (.bl true) H'

abbrev s_law : Stmt := top 75
theorem sc_law : FnScope ["_law_script", "_law_bag_here", "_law_room", "_law_deep", "_law_kids", "_law_k", "_law_spec", "_law_row", "_law_one", "_law_other", "_law_due_here", "_law_beside", "_law_told", "_law_again"] ["_law_script"] (defScope s_law) := ⟨rfl, rfl, rfl, by decide +kernel, rfl, by decide +kernel, by decide +kernel⟩

theorem ok_law {f : Addr} {fd : FuncData} (F : Fun K "law" "law" s_law f fd) (B : Bn mg) (c__law_bag : Cal P wd K mg base "_law_bag" 1 ["_law_script"] [] (sp__law_bag K)) (c__law_take : Cal P wd K mg base "_law_take" 1 ["_law_bag_here", "_law_many"] [] sp__law_take) (c__law_tree : Cal P wd K mg base "_law_tree" 10 ["_law_bag_here", "_law_deep", "_law_room", "_law_kind"] [] (sp__law_tree 6)) (c__law_weight : Cal P wd K mg base "_law_weight" 2 ["_law_bag_here"] [] sp__law_weight) (c__law_length : Cal P wd K mg base "_law_length" 2 ["_law_bag_here", "_law_most"] [] sp__law_length) (c__law_made : Cal P wd K mg base "_law_made" 18 ["_law_spec"] [] (sp__law_made C_Box C_Leaf C_Row C_Column C_Pad 6)) (c__law_wide : Cal P wd K mg base "_law_wide" 3 ["_law_bag_here", "_law_three_here"] [] sp__law_wide) (c__law_across : Cal P wd K mg base "_law_across" 8 ["_law_spec"] [] (sp__law_across 6)) (c__law_wides : Cal P wd K mg base "_law_wides" 9 ["_law_spec", "_law_wide_here"] [] (sp__law_wides C_Part)) (c__law_wholes : Cal P wd K mg base "_law_wholes" 2 ["_law_found", "_law_due_here"] [] sp__law_wholes) (t_Pad_wides_for : Met P wd K mg base "wides_for" C_Pad 9 ["self", "wide"] [] (sp_Pad_wides_for C_Box C_Leaf C_Row C_Column C_Pad)) (t_Column_wides_for : Met P wd K mg base "wides_for" C_Column 9 ["self", "wide"] [] (sp_Column_wides_for C_Box C_Leaf C_Row C_Column C_Pad)) (t_Row_wides_for : Met P wd K mg base "wides_for" C_Row 9 ["self", "wide"] [] (sp_Row_wides_for C_Part C_Box C_Leaf C_Row C_Column C_Pad)) (t_Leaf_wides_for : Met P wd K mg base "wides_for" C_Leaf 1 ["self", "wide"] [] sp_Box_wides_for) (t_Box_wides_for : Met P wd K mg base "wides_for" C_Box 1 ["self", "wide"] [] sp_Box_wides_for) (o_Part : OwnC K C_Part) (n_Part : ∀ f ∈ (["base", "least", "greatest", "grow", "shrink"] : List Str), NoAttr K C_Part f) (o_Box : OwnC K C_Box) (n_Box : ∀ f ∈ (["grow", "shrink", "deep", "many"] : List Str), NoAttr K C_Box f) (o_Leaf : OwnC K C_Leaf) (n_Leaf : ∀ f ∈ (["key", "base", "least", "greatest", "grow", "shrink", "deep", "many"] : List Str), NoAttr K C_Leaf f) (o_Row : OwnC K C_Row) (n_Row : ∀ f ∈ (["boxes", "gap", "grow", "shrink", "deep", "many", "three"] : List Str), NoAttr K C_Row f) (o_Column : OwnC K C_Column) (n_Column : ∀ f ∈ (["boxes", "gap", "grow", "shrink", "deep", "many", "three"] : List Str), NoAttr K C_Column f) (o_Pad : OwnC K C_Pad) (n_Pad : ∀ f ∈ (["box", "by", "grow", "shrink", "deep", "many"] : List Str), NoAttr K C_Pad f)  : FnOk P wd K mg base CX0 19 f fd ["_law_script"] (sp_law K) := by
  refine F.ok sc_law (fun vs H Q E h => ?_) (fun cdv A outer s H vs Q E hr h => ?_)
  · obtain ⟨a, ns, rfl, hS, hO, hl, hbits, k⟩ := h
    all_goals rfl
  · obtain ⟨a, ns, rfl, hS, hO, hl, hbits, k⟩ := h
    refine ⟨_, (pss_cons (ps_set (i := 1) sc_law.nd rfl (Or.inl rfl) (pe_cal c__law_bag (hr.mono (by decide)) (by rfl) (pa_cons (pv 0) pa_nil)))
      (pss_cons (ps_set (i := 2) sc_law.nd rfl (Or.inl rfl) (pe_lst (pa_cons pe_int pa_nil)))
      (pss_cons (ps_set (i := 3) sc_law.nd rfl (Or.inl rfl) (pe_op (k_add (K := K) rfl) pe_int (pe_cal c__law_take (hr.mono (by decide)) (by rfl) (pa_cons (pv 1) (pa_cons pe_int pa_nil)))))
      (pss_cons (ps_if (pt_cmpR (k_eq (K := K) rfl hr.units) (pe_cal c__law_take (hr.mono (by decide)) (by rfl) (pa_cons (pv 1) (pa_cons pe_int pa_nil))) pe_int (nomark _)) (pss_one (ps_set (i := 2) sc_law.nd rfl (Or.inl rfl) (pe_lst (pa_cons pe_int pa_nil)))) pss_nil)
      (pss_cons (ps_set (i := 4) sc_law.nd rfl (Or.inl rfl) (pe_lst pa_nil))
      (pss_cons (ps_for PassesOwn.never rfl (pi_range1 (by rfl) B.range_ (pa_cons (pe_cal c__law_take (hr.mono (by decide)) (by rfl) (pa_cons (pv 1) (pa_cons pe_int pa_nil))) pa_nil)) (pg_name (i := 5) sc_law.nd rfl (Or.inl rfl)) (pss_one (ps_if (pt_cmpR op_gt (pe_ix (k_ix (K := K) rfl) (pv 2) pe_int (fun _ _ => rfl)) pe_int (nomark _)) (pss_one (ps_expr (pe_bm PySem.F.plainAttrs_list PySem.F.slot_list_append PySem.F.type_list_append mt_append (pv 4) (pa_cons (pe_cal c__law_tree (hr.mono (by decide)) (by rfl) (pa_cons (pv 1) (pa_cons (pv 3) (pa_cons (pv 2) (pa_cons (pe_cal c__law_take (hr.mono (by decide)) (by rfl) (pa_cons (pv 1) (pa_cons pe_int pa_nil))) pa_nil))))) pa_nil)))) pss_nil)))
      (pss_cons (ps_set (i := 6) sc_law.nd rfl (Or.inl rfl) (pe_tup (pa_cons pe_str (pa_cons (pv 4) (pa_cons (pe_tup (pa_cons (pe_cal c__law_length (hr.mono (by decide)) (by rfl) (pa_cons (pv 1) (pa_cons pe_int pa_nil))) (pa_cons (pe_cal c__law_weight (hr.mono (by decide)) (by rfl) (pa_cons (pv 1) pa_nil)) (pa_cons (pe_cal c__law_weight (hr.mono (by decide)) (by rfl) (pa_cons (pv 1) pa_nil)) pa_nil)))) pa_nil)))))
      (pss_cons (ps_set (i := 7) sc_law.nd rfl (Or.inl rfl) (pe_cal c__law_made (hr.mono (by decide)) (by rfl) (pa_cons (pv 6) pa_nil)))
      (pss_cons (ps_set (i := 8) sc_law.nd rfl (Or.inl rfl) (pe_cal c__law_wide (hr.mono (by decide)) (by rfl) (pa_cons (pv 1) (pa_cons (pe_cal c__law_across (hr.mono (by decide)) (by rfl) (pa_cons (pv 6) pa_nil)) pa_nil))))
      (pss_cons (ps_set (i := 9) sc_law.nd rfl (Or.inl rfl) (pe_cal c__law_wide (hr.mono (by decide)) (by rfl) (pa_cons (pv 1) (pa_cons (pe_cal c__law_across (hr.mono (by decide)) (by rfl) (pa_cons (pv 6) pa_nil)) pa_nil))))
      (pss_cons (ps_set (i := 10) sc_law.nd rfl (Or.inl rfl) (pe_cal c__law_wides (hr.mono (by decide)) (by rfl) (pa_cons (pv 6) (pa_cons (pv 8) pa_nil))))
      (pss_cons (ps_set (i := 11) sc_law.nd rfl (Or.inl rfl) (pe_cal c__law_wides (hr.mono (by decide)) (by rfl) (pa_cons (pv 6) (pa_cons (pv 9) pa_nil))))
      (pss_cons (ps_if (pw_or (pt_cmp (pc_isN (pv 10))) (pw_or1 (pt_cmp (pc_isN (pv 11))))).pt (pss_one (ps_ret pe_bl)) pss_nil)
      (pss_cons (ps_set (i := 12) sc_law.nd rfl (Or.inl rfl) (pe_dyn (pv 7) (dyn_cons t_Box_wides_for (hr.mono (by decide)) (dyn_cons t_Leaf_wides_for (hr.mono (by decide)) (dyn_cons t_Row_wides_for (hr.mono (by decide)) (dyn_cons t_Column_wides_for (hr.mono (by decide)) (dyn_cons t_Pad_wides_for (hr.mono (by decide)) dyn_nil))))) (pa_cons (pv 8) pa_nil)))
      (pss_cons (ps_if (pt_not (pt_val (pe_cal c__law_wholes (hr.mono (by decide)) (by rfl) (pa_cons (pv 12) (pa_cons (pv 10) pa_nil))))) (pss_one (ps_ret pe_bl)) pss_nil)
      (pss_cons (ps_set (i := 13) sc_law.nd rfl (Or.inl rfl) (pe_dyn (pv 7) (dyn_cons t_Box_wides_for (hr.mono (by decide)) (dyn_cons t_Leaf_wides_for (hr.mono (by decide)) (dyn_cons t_Row_wides_for (hr.mono (by decide)) (dyn_cons t_Column_wides_for (hr.mono (by decide)) (dyn_cons t_Pad_wides_for (hr.mono (by decide)) dyn_nil))))) (pa_cons (pv 9) pa_nil)))
      (pss_cons (ps_if (pt_not (pt_val (pe_cal c__law_wholes (hr.mono (by decide)) (by rfl) (pa_cons (pv 13) (pa_cons (pv 11) pa_nil))))) (pss_one (ps_ret pe_bl)) pss_nil)
      (pss_cons (ps_expr (pe_bm PySem.F.plainAttrs_list PySem.F.slot_list_append PySem.F.type_list_append mt_append (pv 12) (pa_cons pe_int pa_nil)))
      (pss_one (ps_ret (pe_and (pe_cal c__law_wholes (hr.mono (by decide)) (by rfl) (pa_cons (pe_dyn (pv 7) (dyn_cons t_Box_wides_for (hr.mono (by decide)) (dyn_cons t_Leaf_wides_for (hr.mono (by decide)) (dyn_cons t_Row_wides_for (hr.mono (by decide)) (dyn_cons t_Column_wides_for (hr.mono (by decide)) (dyn_cons t_Pad_wides_for (hr.mono (by decide)) dyn_nil))))) (pa_cons (pv 8) pa_nil)) (pa_cons (pv 10) pa_nil))) (pe_one (pe_cal c__law_wholes (hr.mono (by decide)) (by rfl) (pa_cons (pv 13) (pa_cons (pv 11) pa_nil))))))))))))))))))))))))), ?_⟩
    try dsimp only [cxOf, Cx.nox, Cx.wish, Cx.blk]
    rw [show L2.start (["_law_script", "_law_bag_here", "_law_room", "_law_deep", "_law_kids", "_law_k", "_law_spec", "_law_row", "_law_one", "_law_other", "_law_due_here", "_law_beside", "_law_told", "_law_again"] : List Str) [.ref a] = [some (.ref a), none, none, none, none, none, none, none, none, none, none, none, none, none] from rfl]
    wtm_at "n"
    refine n_bag hS fun b H0 w => ?_
    wtm_at "n"
    rename_i rp0 H1 w
    refine n_take w (by ktf_call "mem") (by omega) (by omega) fun dp H2 dp0 dp1 w => ?_
    wtm_at "sq2"
    simp only [List.set_cons_succ, List.set_cons_zero]
    with_reducible refine s_midX (fun σ' H' => ∃ (rp : Addr) (m : Int), σ' = [some (.ref a), some (.ref b), some (.ref rp), some (.int (1 + dp)), none, none, none, none, none, none, none, none, none, none] ∧ 1 ≤ m ∧ m ≤ 59 ∧ Wf [] H' [.ml rp [.int m], .bag b]) ?_ (fun N fin => ?_)
    rotate_left
    · wtm_at "n"
      refine n_take w (by ktf_call "mem") (by omega) (by omega) fun c H2 c0 c1 w => ?_
      wtm_at "n"
      wtm_at "fork"
      · wtm_at "n"
        rename_i rp1 H3 w
        exact fin _ _ ⟨rp1, 59, rfl, by decide, by decide, w.sub (KS.refl) (by ktf_call "sl")⟩
      · wtm_at "n"
        exact fin _ _ ⟨rp0, 20, rfl, by decide, by decide, w⟩
    clear w
    rintro σ' H' ⟨rp, m, rfl, hm0, hm1, w⟩
    wtm_at "n"
    rename_i p0 H5 w
    have w : Wf [] H5 (.ml p0 (([] : List Bx).map spD) :: [.ml rp [.int m], .bag b]) := w
    refine n_take w (by ktf_call "mem") (by omega) (by omega) fun c H6 c0 c1 w => ?_
    wtm_at "n"
    refine s_rng1' (by omega) (by omega) ?_
    refine n_forR w (fun i σ' F' M' => ∃ (ks : List Bx) (n2 : Int) (x5 : Option V), σ' = [some (.ref a), some (.ref b), some (.ref rp), some (.int (1 + dp)), some (.ref p0), x5, none, none, none, none, none, none, none, none] ∧ F' = [] ∧ M' = .ml p0 (ks.map spD) :: [.ml rp [.int n2], .bag b] ∧ ks.length ≤ i ∧ n2 + (Bx.mns ks : Int) = m ∧ 0 ≤ n2 ∧ ∀ k ∈ ks, BxOk k ∧ (k.dp : Int) ≤ 1 + dp) ⟨[], m, _, rfl, rfl, rfl, Nat.le_refl _, by rw [Bx.mns]; omega, by omega, fun _ h => nomatch h⟩ ?_ ?_
    · clear w
      rintro i σ' H' F' M' hi ⟨ks, n2, x5, rfl, rfl, rfl, hl, hn, h0, hks⟩ w
      by_cases h4 : n2 > 0
      rotate_left
      · wtm_at "no"
        exact ⟨_, _, ⟨ks, n2, _, rfl, rfl, rfl, by omega, hn, h0, hks⟩, w⟩
      wtm_at "no"
      refine n_take w (by ktf_call "mem") (by omega) (by omega) fun kd H6 kd0 kd1 w => ?_
      wtm_at "n"
      refine n_ltree (G := fun n => .ml p0 (ks.map spD) :: [.ml rp [.int n], .bag b]) w (fun n => .tail _ (.tail _ (.head _))) (fun n => .tail _ (.head _)) (fun n n' => .there .here) (by omega) (by omega) (by omega) (by omega) (by omega) fun r H7 t n3 ok hd hn' h0' w => ?_
      wtm_at "n"
      rename_i w
      exact ⟨_, _, ⟨ks ++ [t], n3, _, rfl, rfl, rfl, by rw [List.length_append, List.length_singleton]; omega, by rw [mns_snoc]; omega, h0', fun k hk => by
        rcases List.mem_append.mp hk with h | h
        · exact hks k h
        · rw [List.mem_singleton.mp h]; exact ⟨ok, hd⟩⟩, by rw [List.map_append]; exact w.tail⟩
    clear w
    rintro σ' H' F' M' ⟨ks, n2, x5, rfl, rfl, rfl, hkl, hkn, h0, hks⟩ w
    have w := w.frzL .here
    wtm_at "n"
    refine n_length w (by ktf_call "mem") (by omega) (by omega) fun n H9 n0 n1 w => ?_
    wtm_at "n"
    refine n_lwt w (by ktf_call "mem") fun p H7 hp w => ?_
    wtm_at "n"
    refine n_lwt w (by ktf_call "mem") fun s H8 hs w => ?_
    wtm_at "n"
    rename_i sp H10 w
    have e1 : (Bx.dps ks : Int) ≤ 1 + dp := by
      have := dps_bd (n := (1 + dp).toNat) fun k hk => by have := (hks k hk).2; omega
      omega
    have hok : BxOk (.line false ks n p s) := .line (fun k hk => (hks k hk).1) (by omega) ⟨n0, by omega⟩ hp hs
    have hm60 : (Bx.line false ks n p s).mn ≤ 60 := by rw [Bx.mn]; omega
    have hd6 : (Bx.line false ks n p s).dp ≤ 6 := by rw [Bx.dp]; omega
    have hT : T3Ok (Bx.line false ks n p s).acr 1000000000 := (acr_ok hok (Nat.le_refl _)).mono (by unfold capB; omega)
    have w : Wf [(.ref sp, spD (.line false ks n p s))] H10 [.ml rp [.int n2], .bag b] := by
      rw [spD_eq]
      exact w.sub (KS.cons (Kn.mem List.mem_cons_self) (KS.drop (KS.drop (KS.drop KS.refl)))) (List.Sublist.refl _)
    refine n_lmade (t := .line false ks n p s) (m := 6) w (.mem List.mem_cons_self) hok hd6 hd6 hm60 fun x H11 w => ?_
    wtm_at "n"
    refine n_lacross (t := .line false ks n p s) (m := 6) w (.mem (.tail _ (.head _))) hok hd6 hd6 fun r1 H12 w => ?_
    wtm_at "n"
    refine n_lwide w (by ktf_call "mem") (.mem List.mem_cons_self) hT fun one H13 o0 o1 w => ?_
    have w := w.tail
    wtm_at "n"
    refine n_lacross (t := .line false ks n p s) (m := 6) w (.mem (.tail _ (.head _))) hok hd6 hd6 fun r2 H14 w => ?_
    wtm_at "n"
    refine n_lwide w (by ktf_call "mem") (.mem List.mem_cons_self) hT fun oth H15 q0 q1 w => ?_
    have w := w.tail
    wtm_at "n"
    refine n_lwides (ks := ks) (n := n) (p := p) (s := s) w (.mem (.tail _ (.head _))) hok hm60 hd6 o0 o1 fun pd H16 nd hwd w => ?_
    wtm_at "n"
    refine n_lwides (ks := ks) (n := n) (p := p) (s := s) w (.mem (.tail _ (.head _))) hok hm60 hd6 q0 q1 fun pe H17 ne hwe w => ?_
    wtm_at "n"
    refine s_dyn ?_
    wtm_at "n"
    refine n_dynWid (b := .line false ks n p s) (x := one) w (.mem List.mem_cons_self) hok hm60 hd6 o0 o1 (fun R h => ?_) fun nt ptd H30 hw1 w => ?_
    · wtm_at "n"
      exact h
    wtm_at "n"
    
    obtain rfl := hw1.uniq hok hm60 hwd
    have hlen := hw1.len
    have hk8 := hok.k8
    refine n_wholes w (.ml List.mem_cons_self) (.ml (.tail _ (.tail _ (.head _)))) (WhOk.ints (by omega)) fun c1 H18 hc1 w => ?_
    rw [hc1.2 ⟨nt, rfl, rfl⟩]
    wtm_at "n"
    refine s_dyn ?_
    wtm_at "n"
    refine n_dynWid (b := .line false ks n p s) (x := oth) w (.mem List.mem_cons_self) hok hm60 hd6 q0 q1 (fun R h => ?_) fun na pa H31 hw2 w => ?_
    · wtm_at "n"
      exact h
    wtm_at "n"
    
    obtain rfl := hw2.uniq hok hm60 hwe
    have hlen2 := hw2.len
    refine n_wholes w (.ml List.mem_cons_self) (.ml (.tail _ (.tail _ (.head _)))) (WhOk.ints (by omega)) fun c2 H19 hc2 w => ?_
    rw [hc2.2 ⟨na, rfl, rfl⟩]
    wtm_at "n"
    rename_i w
    refine s_dyn ?_
    wtm_at "n"
    refine n_dynWid (b := .line false ks n p s) (x := one) w (.mem List.mem_cons_self) hok hm60 hd6 o0 o1 (fun R h => ?_) fun n3 p3 H32 hw3 w => ?_
    · wtm_at "n"
      exact h
    wtm_at "n"
    
    obtain rfl := hw3.uniq hok hm60 hw1
    refine n_wholes w (.ml List.mem_cons_self) (.ml (.tail _ (.tail _ (.tail _ (.tail _ (.head _)))))) (WhOk.ints (by omega)) fun c3 H21 hc3 w => ?_
    rw [hc3.2 ⟨_, rfl, rfl⟩]
    wtm_at "n"
    refine n_wholes w (.ml (.tail _ (.head _))) (.ml (.tail _ (.tail _ (.tail _ (.head _))))) (WhOk.ints (by omega)) fun c4 H22 hc4 w => ?_
    rw [hc4.2 ⟨_, rfl, rfl⟩]
    exact k _
end
theorem all_mk {l : PySem.W.OpenLaw} {w : World} {K : PySem.W.Frag} {h : Heap} {mg : Str → Option Value} {fa : Addr} (X : K.In h) (G : h.Ns mainGlobals mg) (hfa : mg "law" = some (.ref fa))
    {f_is_whole : Addr} {od_is_whole an_is_whole : Option Addr} {sl_is_whole : Array (Option Value)} {oc_is_whole kV_is_whole dc_is_whole pm_is_whole cd_is_whole ct_is_whole : Value}
    (a_is_whole : PySem.W.nsIn K mainGlobals "is_whole" = some (some (.ref f_is_whole)))
    (l_is_whole : K.lookup f_is_whole = some ⟨oc_is_whole, od_is_whole, .func (PySem.W.fnOf "is_whole" "is_whole" (defArgs s_is_whole) (defBody s_is_whole) (defScope s_is_whole) .none kV_is_whole dc_is_whole pm_is_whole an_is_whole cd_is_whole ct_is_whole), sl_is_whole⟩)
    (cc_is_whole : PySem.W.codeIn K cd_is_whole "is_whole" = true) (k_is_whole : PySem.W.keepIn K (.ref f_is_whole) = true)
    {f_is_length : Addr} {od_is_length an_is_length : Option Addr} {sl_is_length : Array (Option Value)} {oc_is_length kV_is_length dc_is_length pm_is_length cd_is_length ct_is_length : Value}
    (a_is_length : PySem.W.nsIn K mainGlobals "is_length" = some (some (.ref f_is_length)))
    (l_is_length : K.lookup f_is_length = some ⟨oc_is_length, od_is_length, .func (PySem.W.fnOf "is_length" "is_length" (defArgs s_is_length) (defBody s_is_length) (defScope s_is_length) .none kV_is_length dc_is_length pm_is_length an_is_length cd_is_length ct_is_length), sl_is_length⟩)
    (cc_is_length : PySem.W.codeIn K cd_is_length "is_length" = true) (k_is_length : PySem.W.keepIn K (.ref f_is_length) = true)
    {f_is_small : Addr} {od_is_small an_is_small : Option Addr} {sl_is_small : Array (Option Value)} {oc_is_small kV_is_small dc_is_small pm_is_small cd_is_small ct_is_small : Value}
    (a_is_small : PySem.W.nsIn K mainGlobals "is_small" = some (some (.ref f_is_small)))
    (l_is_small : K.lookup f_is_small = some ⟨oc_is_small, od_is_small, .func (PySem.W.fnOf "is_small" "is_small" (defArgs s_is_small) (defBody s_is_small) (defScope s_is_small) .none kV_is_small dc_is_small pm_is_small an_is_small cd_is_small ct_is_small), sl_is_small⟩)
    (cc_is_small : PySem.W.codeIn K cd_is_small "is_small" = true) (k_is_small : PySem.W.keepIn K (.ref f_is_small) = true)
    {f_is_weight : Addr} {od_is_weight an_is_weight : Option Addr} {sl_is_weight : Array (Option Value)} {oc_is_weight kV_is_weight dc_is_weight pm_is_weight cd_is_weight ct_is_weight : Value}
    (a_is_weight : PySem.W.nsIn K mainGlobals "is_weight" = some (some (.ref f_is_weight)))
    (l_is_weight : K.lookup f_is_weight = some ⟨oc_is_weight, od_is_weight, .func (PySem.W.fnOf "is_weight" "is_weight" (defArgs s_is_weight) (defBody s_is_weight) (defScope s_is_weight) .none kV_is_weight dc_is_weight pm_is_weight an_is_weight cd_is_weight ct_is_weight), sl_is_weight⟩)
    (cc_is_weight : PySem.W.codeIn K cd_is_weight "is_weight" = true) (k_is_weight : PySem.W.keepIn K (.ref f_is_weight) = true)
    {f_is_name : Addr} {od_is_name an_is_name : Option Addr} {sl_is_name : Array (Option Value)} {oc_is_name kV_is_name dc_is_name pm_is_name cd_is_name ct_is_name : Value}
    (a_is_name : PySem.W.nsIn K mainGlobals "is_name" = some (some (.ref f_is_name)))
    (l_is_name : K.lookup f_is_name = some ⟨oc_is_name, od_is_name, .func (PySem.W.fnOf "is_name" "is_name" (defArgs s_is_name) (defBody s_is_name) (defScope s_is_name) .none kV_is_name dc_is_name pm_is_name an_is_name cd_is_name ct_is_name), sl_is_name⟩)
    (cc_is_name : PySem.W.codeIn K cd_is_name "is_name" = true) (k_is_name : PySem.W.keepIn K (.ref f_is_name) = true)
    {f_divisor : Addr} {od_divisor an_divisor : Option Addr} {sl_divisor : Array (Option Value)} {oc_divisor kV_divisor dc_divisor pm_divisor cd_divisor ct_divisor : Value}
    (a_divisor : PySem.W.nsIn K mainGlobals "divisor" = some (some (.ref f_divisor)))
    (l_divisor : K.lookup f_divisor = some ⟨oc_divisor, od_divisor, .func (PySem.W.fnOf "divisor" "divisor" (defArgs s_divisor) (defBody s_divisor) (defScope s_divisor) .none kV_divisor dc_divisor pm_divisor an_divisor cd_divisor ct_divisor), sl_divisor⟩)
    (cc_divisor : PySem.W.codeIn K cd_divisor "divisor" = true) (k_divisor : PySem.W.keepIn K (.ref f_divisor) = true)
    {f_is_fraction : Addr} {od_is_fraction an_is_fraction : Option Addr} {sl_is_fraction : Array (Option Value)} {oc_is_fraction kV_is_fraction dc_is_fraction pm_is_fraction cd_is_fraction ct_is_fraction : Value}
    (a_is_fraction : PySem.W.nsIn K mainGlobals "is_fraction" = some (some (.ref f_is_fraction)))
    (l_is_fraction : K.lookup f_is_fraction = some ⟨oc_is_fraction, od_is_fraction, .func (PySem.W.fnOf "is_fraction" "is_fraction" (defArgs s_is_fraction) (defBody s_is_fraction) (defScope s_is_fraction) .none kV_is_fraction dc_is_fraction pm_is_fraction an_is_fraction cd_is_fraction ct_is_fraction), sl_is_fraction⟩)
    (cc_is_fraction : PySem.W.codeIn K cd_is_fraction "is_fraction" = true) (k_is_fraction : PySem.W.keepIn K (.ref f_is_fraction) = true)
    {T_fraction : Addr} {to_fraction : Value} {td_fraction : Option Addr} {tn_fraction : Nat} {ts_fraction : Array (Option Value)} {tk_fraction_0 : Tok}
    {f_fraction : Addr} {od_fraction an_fraction : Option Addr} {sl_fraction : Array (Option Value)} {oc_fraction kV_fraction dc_fraction pm_fraction cd_fraction ct_fraction : Value}
    (a_fraction : PySem.W.nsIn K mainGlobals "fraction" = some (some (.ref f_fraction)))
    (l_fraction : K.lookup f_fraction = some ⟨oc_fraction, od_fraction, .func (PySem.W.fnOf "fraction" "fraction" (defArgs s_fraction) (defBody s_fraction) (defScope s_fraction) (.ref T_fraction) kV_fraction dc_fraction pm_fraction an_fraction cd_fraction ct_fraction), sl_fraction⟩)
    (cc_fraction : PySem.W.codeIn K cd_fraction "fraction" = true) (k_fraction : PySem.W.keepIn K (.ref f_fraction) = true)
    (dt_fraction : K.lookup T_fraction = some ⟨to_fraction, td_fraction, .seq [Value.int 1 tk_fraction_0].toArray tn_fraction, ts_fraction⟩)
    {f_plus : Addr} {od_plus an_plus : Option Addr} {sl_plus : Array (Option Value)} {oc_plus kV_plus dc_plus pm_plus cd_plus ct_plus : Value}
    (a_plus : PySem.W.nsIn K mainGlobals "plus" = some (some (.ref f_plus)))
    (l_plus : K.lookup f_plus = some ⟨oc_plus, od_plus, .func (PySem.W.fnOf "plus" "plus" (defArgs s_plus) (defBody s_plus) (defScope s_plus) .none kV_plus dc_plus pm_plus an_plus cd_plus ct_plus), sl_plus⟩)
    (cc_plus : PySem.W.codeIn K cd_plus "plus" = true) (k_plus : PySem.W.keepIn K (.ref f_plus) = true)
    {f_minus : Addr} {od_minus an_minus : Option Addr} {sl_minus : Array (Option Value)} {oc_minus kV_minus dc_minus pm_minus cd_minus ct_minus : Value}
    (a_minus : PySem.W.nsIn K mainGlobals "minus" = some (some (.ref f_minus)))
    (l_minus : K.lookup f_minus = some ⟨oc_minus, od_minus, .func (PySem.W.fnOf "minus" "minus" (defArgs s_minus) (defBody s_minus) (defScope s_minus) .none kV_minus dc_minus pm_minus an_minus cd_minus ct_minus), sl_minus⟩)
    (cc_minus : PySem.W.codeIn K cd_minus "minus" = true) (k_minus : PySem.W.keepIn K (.ref f_minus) = true)
    {f_together : Addr} {od_together an_together : Option Addr} {sl_together : Array (Option Value)} {oc_together kV_together dc_together pm_together cd_together ct_together : Value}
    (a_together : PySem.W.nsIn K mainGlobals "together" = some (some (.ref f_together)))
    (l_together : K.lookup f_together = some ⟨oc_together, od_together, .func (PySem.W.fnOf "together" "together" (defArgs s_together) (defBody s_together) (defScope s_together) .none kV_together dc_together pm_together an_together cd_together ct_together), sl_together⟩)
    (cc_together : PySem.W.codeIn K cd_together "together" = true) (k_together : PySem.W.keepIn K (.ref f_together) = true)
    {f_is_below : Addr} {od_is_below an_is_below : Option Addr} {sl_is_below : Array (Option Value)} {oc_is_below kV_is_below dc_is_below pm_is_below cd_is_below ct_is_below : Value}
    (a_is_below : PySem.W.nsIn K mainGlobals "is_below" = some (some (.ref f_is_below)))
    (l_is_below : K.lookup f_is_below = some ⟨oc_is_below, od_is_below, .func (PySem.W.fnOf "is_below" "is_below" (defArgs s_is_below) (defBody s_is_below) (defScope s_is_below) .none kV_is_below dc_is_below pm_is_below an_is_below cd_is_below ct_is_below), sl_is_below⟩)
    (cc_is_below : PySem.W.codeIn K cd_is_below "is_below" = true) (k_is_below : PySem.W.keepIn K (.ref f_is_below) = true)
    {f_floor_of : Addr} {od_floor_of an_floor_of : Option Addr} {sl_floor_of : Array (Option Value)} {oc_floor_of kV_floor_of dc_floor_of pm_floor_of cd_floor_of ct_floor_of : Value}
    (a_floor_of : PySem.W.nsIn K mainGlobals "floor_of" = some (some (.ref f_floor_of)))
    (l_floor_of : K.lookup f_floor_of = some ⟨oc_floor_of, od_floor_of, .func (PySem.W.fnOf "floor_of" "floor_of" (defArgs s_floor_of) (defBody s_floor_of) (defScope s_floor_of) .none kV_floor_of dc_floor_of pm_floor_of an_floor_of cd_floor_of ct_floor_of), sl_floor_of⟩)
    (cc_floor_of : PySem.W.codeIn K cd_floor_of "floor_of" = true) (k_floor_of : PySem.W.keepIn K (.ref f_floor_of) = true)
    {C_Part : Addr} (aC_Part : PySem.W.nsIn K mainGlobals "Part" = some (some (.ref C_Part)))
    (pg_Part : PySem.W.plainGet K C_Part Str.empty = true)
    (hd_Part : PySem.W.hasDictIn K C_Part = true)
    (po_Part : PySem.W.plainOver K C_Part = true)
    (sa_Part : PySem.W.findIn K (.ref C_Part) "__setattr__" = some (some (.builtin "object.__setattr__")))
    (mk_Part : PySem.W.makesIn K C_Part = true)
    (kc_Part : PySem.W.keepIn K (.ref C_Part) = true)
    (ha_Part : PySem.W.findIn K (.ref C_Part) "__class__" = some (some (.builtin "object.__class__")))
    (hn_Part : PySem.W.specialIn K (.builtin "object.__class__") "__get__" = some (some (.builtin "getset_descriptor.__get__")))
    (htk_Part : PySem.W.takesIn K (.builtin "object.__class__") = some true)
    (hm_Part : PySem.W.mroIn K C_Part (.type "object") = some true)
    (nf_Part_base : PySem.W.findIn K (.ref C_Part) "base" = some none)
    (nf_Part_least : PySem.W.findIn K (.ref C_Part) "least" = some none)
    (nf_Part_greatest : PySem.W.findIn K (.ref C_Part) "greatest" = some none)
    (nf_Part_grow : PySem.W.findIn K (.ref C_Part) "grow" = some none)
    (nf_Part_shrink : PySem.W.findIn K (.ref C_Part) "shrink" = some none)
    {T_Part___init__ : Addr} {to_Part___init__ : Value} {td_Part___init__ : Option Addr} {tn_Part___init__ : Nat} {ts_Part___init__ : Array (Option Value)} {tk_Part___init___0 tk_Part___init___2 tk_Part___init___3 : Tok}
    {f_Part___init__ : Addr} {od_Part___init__ an_Part___init__ : Option Addr} {sl_Part___init__ : Array (Option Value)} {oc_Part___init__ kV_Part___init__ dc_Part___init__ pm_Part___init__ cd_Part___init__ ct_Part___init__ : Value}
    (a_Part___init__ : PySem.W.findIn K (.ref C_Part) "__init__" = some (some (.ref f_Part___init__))) (i_Part___init__ : PySem.W.isFn K (.ref f_Part___init__) = true)
    (l_Part___init__ : K.lookup f_Part___init__ = some ⟨oc_Part___init__, od_Part___init__, .func (PySem.W.fnOf "__init__" "Part.__init__" (defArgs s_Part___init__) (defBody s_Part___init__) (defScope s_Part___init__) (.ref T_Part___init__) kV_Part___init__ dc_Part___init__ pm_Part___init__ an_Part___init__ cd_Part___init__ ct_Part___init__), sl_Part___init__⟩)
    (cc_Part___init__ : PySem.W.codeIn K cd_Part___init__ "Part.__init__" = true) (k_Part___init__ : PySem.W.keepIn K (.ref f_Part___init__) = true)
    (dt_Part___init__ : K.lookup T_Part___init__ = some ⟨to_Part___init__, td_Part___init__, .seq [Value.int 0 tk_Part___init___0, Value.none, Value.int 1 tk_Part___init___2, Value.int 1 tk_Part___init___3].toArray tn_Part___init__, ts_Part___init__⟩)
    {f_Part_size_at : Addr} {od_Part_size_at an_Part_size_at : Option Addr} {sl_Part_size_at : Array (Option Value)} {oc_Part_size_at kV_Part_size_at dc_Part_size_at pm_Part_size_at cd_Part_size_at ct_Part_size_at : Value}
    (a_Part_size_at : PySem.W.findIn K (.ref C_Part) "size_at" = some (some (.ref f_Part_size_at))) (i_Part_size_at : PySem.W.isFn K (.ref f_Part_size_at) = true)
    (l_Part_size_at : K.lookup f_Part_size_at = some ⟨oc_Part_size_at, od_Part_size_at, .func (PySem.W.fnOf "size_at" "Part.size_at" (defArgs s_Part_size_at) (defBody s_Part_size_at) (defScope s_Part_size_at) .none kV_Part_size_at dc_Part_size_at pm_Part_size_at an_Part_size_at cd_Part_size_at ct_Part_size_at), sl_Part_size_at⟩)
    (cc_Part_size_at : PySem.W.codeIn K cd_Part_size_at "Part.size_at" = true) (k_Part_size_at : PySem.W.keepIn K (.ref f_Part_size_at) = true)
    {f_edges_of : Addr} {od_edges_of an_edges_of : Option Addr} {sl_edges_of : Array (Option Value)} {oc_edges_of kV_edges_of dc_edges_of pm_edges_of cd_edges_of ct_edges_of : Value}
    (a_edges_of : PySem.W.nsIn K mainGlobals "edges_of" = some (some (.ref f_edges_of)))
    (l_edges_of : K.lookup f_edges_of = some ⟨oc_edges_of, od_edges_of, .func (PySem.W.fnOf "edges_of" "edges_of" (defArgs s_edges_of) (defBody s_edges_of) (defScope s_edges_of) .none kV_edges_of dc_edges_of pm_edges_of an_edges_of cd_edges_of ct_edges_of), sl_edges_of⟩)
    (cc_edges_of : PySem.W.codeIn K cd_edges_of "edges_of" = true) (k_edges_of : PySem.W.keepIn K (.ref f_edges_of) = true)
    {f_wholes_of : Addr} {od_wholes_of an_wholes_of : Option Addr} {sl_wholes_of : Array (Option Value)} {oc_wholes_of kV_wholes_of dc_wholes_of pm_wholes_of cd_wholes_of ct_wholes_of : Value}
    (a_wholes_of : PySem.W.nsIn K mainGlobals "wholes_of" = some (some (.ref f_wholes_of)))
    (l_wholes_of : K.lookup f_wholes_of = some ⟨oc_wholes_of, od_wholes_of, .func (PySem.W.fnOf "wholes_of" "wholes_of" (defArgs s_wholes_of) (defBody s_wholes_of) (defScope s_wholes_of) .none kV_wholes_of dc_wholes_of pm_wholes_of an_wholes_of cd_wholes_of ct_wholes_of), sl_wholes_of⟩)
    (cc_wholes_of : PySem.W.codeIn K cd_wholes_of "wholes_of" = true) (k_wholes_of : PySem.W.keepIn K (.ref f_wholes_of) = true)
    {f_look_at_parts : Addr} {od_look_at_parts an_look_at_parts : Option Addr} {sl_look_at_parts : Array (Option Value)} {oc_look_at_parts kV_look_at_parts dc_look_at_parts pm_look_at_parts cd_look_at_parts ct_look_at_parts : Value}
    (a_look_at_parts : PySem.W.nsIn K mainGlobals "look_at_parts" = some (some (.ref f_look_at_parts)))
    (l_look_at_parts : K.lookup f_look_at_parts = some ⟨oc_look_at_parts, od_look_at_parts, .func (PySem.W.fnOf "look_at_parts" "look_at_parts" (defArgs s_look_at_parts) (defBody s_look_at_parts) (defScope s_look_at_parts) .none kV_look_at_parts dc_look_at_parts pm_look_at_parts an_look_at_parts cd_look_at_parts ct_look_at_parts), sl_look_at_parts⟩)
    (cc_look_at_parts : PySem.W.codeIn K cd_look_at_parts "look_at_parts" = true) (k_look_at_parts : PySem.W.keepIn K (.ref f_look_at_parts) = true)
    {f_price_for : Addr} {od_price_for an_price_for : Option Addr} {sl_price_for : Array (Option Value)} {oc_price_for kV_price_for dc_price_for pm_price_for cd_price_for ct_price_for : Value}
    (a_price_for : PySem.W.nsIn K mainGlobals "price_for" = some (some (.ref f_price_for)))
    (l_price_for : K.lookup f_price_for = some ⟨oc_price_for, od_price_for, .func (PySem.W.fnOf "price_for" "price_for" (defArgs s_price_for) (defBody s_price_for) (defScope s_price_for) .none kV_price_for dc_price_for pm_price_for an_price_for cd_price_for ct_price_for), sl_price_for⟩)
    (cc_price_for : PySem.W.codeIn K cd_price_for "price_for" = true) (k_price_for : PySem.W.keepIn K (.ref f_price_for) = true)
    {f_price_of : Addr} {od_price_of an_price_of : Option Addr} {sl_price_of : Array (Option Value)} {oc_price_of kV_price_of dc_price_of pm_price_of cd_price_of ct_price_of : Value}
    (a_price_of : PySem.W.nsIn K mainGlobals "price_of" = some (some (.ref f_price_of)))
    (l_price_of : K.lookup f_price_of = some ⟨oc_price_of, od_price_of, .func (PySem.W.fnOf "price_of" "price_of" (defArgs s_price_of) (defBody s_price_of) (defScope s_price_of) .none kV_price_of dc_price_of pm_price_of an_price_of cd_price_of ct_price_of), sl_price_of⟩)
    (cc_price_of : PySem.W.codeIn K cd_price_of "price_of" = true) (k_price_of : PySem.W.keepIn K (.ref f_price_of) = true)
    {f_end_of : Addr} {od_end_of an_end_of : Option Addr} {sl_end_of : Array (Option Value)} {oc_end_of kV_end_of dc_end_of pm_end_of cd_end_of ct_end_of : Value}
    (a_end_of : PySem.W.nsIn K mainGlobals "end_of" = some (some (.ref f_end_of)))
    (l_end_of : K.lookup f_end_of = some ⟨oc_end_of, od_end_of, .func (PySem.W.fnOf "end_of" "end_of" (defArgs s_end_of) (defBody s_end_of) (defScope s_end_of) .none kV_end_of dc_end_of pm_end_of an_end_of cd_end_of ct_end_of), sl_end_of⟩)
    (cc_end_of : PySem.W.codeIn K cd_end_of "end_of" = true) (k_end_of : PySem.W.keepIn K (.ref f_end_of) = true)
    {f_share_of : Addr} {od_share_of an_share_of : Option Addr} {sl_share_of : Array (Option Value)} {oc_share_of kV_share_of dc_share_of pm_share_of cd_share_of ct_share_of : Value}
    (a_share_of : PySem.W.nsIn K mainGlobals "share_of" = some (some (.ref f_share_of)))
    (l_share_of : K.lookup f_share_of = some ⟨oc_share_of, od_share_of, .func (PySem.W.fnOf "share_of" "share_of" (defArgs s_share_of) (defBody s_share_of) (defScope s_share_of) .none kV_share_of dc_share_of pm_share_of an_share_of cd_share_of ct_share_of), sl_share_of⟩)
    (cc_share_of : PySem.W.codeIn K cd_share_of "share_of" = true) (k_share_of : PySem.W.keepIn K (.ref f_share_of) = true)
    {f_share : Addr} {od_share an_share : Option Addr} {sl_share : Array (Option Value)} {oc_share kV_share dc_share pm_share cd_share ct_share : Value}
    (a_share : PySem.W.nsIn K mainGlobals "share" = some (some (.ref f_share)))
    (l_share : K.lookup f_share = some ⟨oc_share, od_share, .func (PySem.W.fnOf "share" "share" (defArgs s_share) (defBody s_share) (defScope s_share) .none kV_share dc_share pm_share an_share cd_share ct_share), sl_share⟩)
    (cc_share : PySem.W.codeIn K cd_share "share" = true) (k_share : PySem.W.keepIn K (.ref f_share) = true)
    {f_whole_share : Addr} {od_whole_share an_whole_share : Option Addr} {sl_whole_share : Array (Option Value)} {oc_whole_share kV_whole_share dc_whole_share pm_whole_share cd_whole_share ct_whole_share : Value}
    (a_whole_share : PySem.W.nsIn K mainGlobals "whole_share" = some (some (.ref f_whole_share)))
    (l_whole_share : K.lookup f_whole_share = some ⟨oc_whole_share, od_whole_share, .func (PySem.W.fnOf "whole_share" "whole_share" (defArgs s_whole_share) (defBody s_whole_share) (defScope s_whole_share) .none kV_whole_share dc_whole_share pm_whole_share an_whole_share cd_whole_share ct_whole_share), sl_whole_share⟩)
    (cc_whole_share : PySem.W.codeIn K cd_whole_share "whole_share" = true) (k_whole_share : PySem.W.keepIn K (.ref f_whole_share) = true)
    {f_look_weights : Addr} {od_look_weights an_look_weights : Option Addr} {sl_look_weights : Array (Option Value)} {oc_look_weights kV_look_weights dc_look_weights pm_look_weights cd_look_weights ct_look_weights : Value}
    (a_look_weights : PySem.W.nsIn K mainGlobals "look_weights" = some (some (.ref f_look_weights)))
    (l_look_weights : K.lookup f_look_weights = some ⟨oc_look_weights, od_look_weights, .func (PySem.W.fnOf "look_weights" "look_weights" (defArgs s_look_weights) (defBody s_look_weights) (defScope s_look_weights) .none kV_look_weights dc_look_weights pm_look_weights an_look_weights cd_look_weights ct_look_weights), sl_look_weights⟩)
    (cc_look_weights : PySem.W.codeIn K cd_look_weights "look_weights" = true) (k_look_weights : PySem.W.keepIn K (.ref f_look_weights) = true)
    {C_Box : Addr} (aC_Box : PySem.W.nsIn K mainGlobals "Box" = some (some (.ref C_Box)))
    (pg_Box : PySem.W.plainGet K C_Box Str.empty = true)
    (hd_Box : PySem.W.hasDictIn K C_Box = true)
    (po_Box : PySem.W.plainOver K C_Box = true)
    (sa_Box : PySem.W.findIn K (.ref C_Box) "__setattr__" = some (some (.builtin "object.__setattr__")))
    (mk_Box : PySem.W.makesIn K C_Box = true)
    (kc_Box : PySem.W.keepIn K (.ref C_Box) = true)
    (ha_Box : PySem.W.findIn K (.ref C_Box) "__class__" = some (some (.builtin "object.__class__")))
    (hn_Box : PySem.W.specialIn K (.builtin "object.__class__") "__get__" = some (some (.builtin "getset_descriptor.__get__")))
    (htk_Box : PySem.W.takesIn K (.builtin "object.__class__") = some true)
    (hm_Box : PySem.W.mroIn K C_Box (.type "object") = some true)
    (nf_Box_grow : PySem.W.findIn K (.ref C_Box) "grow" = some none)
    (nf_Box_shrink : PySem.W.findIn K (.ref C_Box) "shrink" = some none)
    (nf_Box_deep : PySem.W.findIn K (.ref C_Box) "deep" = some none)
    (nf_Box_many : PySem.W.findIn K (.ref C_Box) "many" = some none)
    {T_Box___init__ : Addr} {to_Box___init__ : Value} {td_Box___init__ : Option Addr} {tn_Box___init__ : Nat} {ts_Box___init__ : Array (Option Value)} {tk_Box___init___0 tk_Box___init___1 : Tok}
    {f_Box___init__ : Addr} {od_Box___init__ an_Box___init__ : Option Addr} {sl_Box___init__ : Array (Option Value)} {oc_Box___init__ kV_Box___init__ dc_Box___init__ pm_Box___init__ cd_Box___init__ ct_Box___init__ : Value}
    (a_Box___init__ : PySem.W.findIn K (.ref C_Box) "__init__" = some (some (.ref f_Box___init__))) (i_Box___init__ : PySem.W.isFn K (.ref f_Box___init__) = true)
    (l_Box___init__ : K.lookup f_Box___init__ = some ⟨oc_Box___init__, od_Box___init__, .func (PySem.W.fnOf "__init__" "Box.__init__" (defArgs s_Box___init__) (defBody s_Box___init__) (defScope s_Box___init__) (.ref T_Box___init__) kV_Box___init__ dc_Box___init__ pm_Box___init__ an_Box___init__ cd_Box___init__ ct_Box___init__), sl_Box___init__⟩)
    (cc_Box___init__ : PySem.W.codeIn K cd_Box___init__ "Box.__init__" = true) (k_Box___init__ : PySem.W.keepIn K (.ref f_Box___init__) = true)
    (dt_Box___init__ : K.lookup T_Box___init__ = some ⟨to_Box___init__, td_Box___init__, .seq [Value.int 1 tk_Box___init___0, Value.int 1 tk_Box___init___1].toArray tn_Box___init__, ts_Box___init__⟩)
    {f_Box_across : Addr} {od_Box_across an_Box_across : Option Addr} {sl_Box_across : Array (Option Value)} {oc_Box_across kV_Box_across dc_Box_across pm_Box_across cd_Box_across ct_Box_across : Value}
    (a_Box_across : PySem.W.findIn K (.ref C_Box) "across" = some (some (.ref f_Box_across))) (i_Box_across : PySem.W.isFn K (.ref f_Box_across) = true)
    (l_Box_across : K.lookup f_Box_across = some ⟨oc_Box_across, od_Box_across, .func (PySem.W.fnOf "across" "Box.across" (defArgs s_Box_across) (defBody s_Box_across) (defScope s_Box_across) .none kV_Box_across dc_Box_across pm_Box_across an_Box_across cd_Box_across ct_Box_across), sl_Box_across⟩)
    (cc_Box_across : PySem.W.codeIn K cd_Box_across "Box.across" = true) (k_Box_across : PySem.W.keepIn K (.ref f_Box_across) = true)
    {f_Box_wides_for : Addr} {od_Box_wides_for an_Box_wides_for : Option Addr} {sl_Box_wides_for : Array (Option Value)} {oc_Box_wides_for kV_Box_wides_for dc_Box_wides_for pm_Box_wides_for cd_Box_wides_for ct_Box_wides_for : Value}
    (a_Box_wides_for : PySem.W.findIn K (.ref C_Box) "wides_for" = some (some (.ref f_Box_wides_for))) (i_Box_wides_for : PySem.W.isFn K (.ref f_Box_wides_for) = true)
    (l_Box_wides_for : K.lookup f_Box_wides_for = some ⟨oc_Box_wides_for, od_Box_wides_for, .func (PySem.W.fnOf "wides_for" "Box.wides_for" (defArgs s_Box_wides_for) (defBody s_Box_wides_for) (defScope s_Box_wides_for) .none kV_Box_wides_for dc_Box_wides_for pm_Box_wides_for an_Box_wides_for cd_Box_wides_for ct_Box_wides_for), sl_Box_wides_for⟩)
    (cc_Box_wides_for : PySem.W.codeIn K cd_Box_wides_for "Box.wides_for" = true) (k_Box_wides_for : PySem.W.keepIn K (.ref f_Box_wides_for) = true)
    {f_look_boxes : Addr} {od_look_boxes an_look_boxes : Option Addr} {sl_look_boxes : Array (Option Value)} {oc_look_boxes kV_look_boxes dc_look_boxes pm_look_boxes cd_look_boxes ct_look_boxes : Value}
    (a_look_boxes : PySem.W.nsIn K mainGlobals "look_boxes" = some (some (.ref f_look_boxes)))
    (l_look_boxes : K.lookup f_look_boxes = some ⟨oc_look_boxes, od_look_boxes, .func (PySem.W.fnOf "look_boxes" "look_boxes" (defArgs s_look_boxes) (defBody s_look_boxes) (defScope s_look_boxes) .none kV_look_boxes dc_look_boxes pm_look_boxes an_look_boxes cd_look_boxes ct_look_boxes), sl_look_boxes⟩)
    (cc_look_boxes : PySem.W.codeIn K cd_look_boxes "look_boxes" = true) (k_look_boxes : PySem.W.keepIn K (.ref f_look_boxes) = true)
    {f_size_around : Addr} {od_size_around an_size_around : Option Addr} {sl_size_around : Array (Option Value)} {oc_size_around kV_size_around dc_size_around pm_size_around cd_size_around ct_size_around : Value}
    (a_size_around : PySem.W.nsIn K mainGlobals "size_around" = some (some (.ref f_size_around)))
    (l_size_around : K.lookup f_size_around = some ⟨oc_size_around, od_size_around, .func (PySem.W.fnOf "size_around" "size_around" (defArgs s_size_around) (defBody s_size_around) (defScope s_size_around) .none kV_size_around dc_size_around pm_size_around an_size_around cd_size_around ct_size_around), sl_size_around⟩)
    (cc_size_around : PySem.W.codeIn K cd_size_around "size_around" = true) (k_size_around : PySem.W.keepIn K (.ref f_size_around) = true)
    {f_gaps_of : Addr} {od_gaps_of an_gaps_of : Option Addr} {sl_gaps_of : Array (Option Value)} {oc_gaps_of kV_gaps_of dc_gaps_of pm_gaps_of cd_gaps_of ct_gaps_of : Value}
    (a_gaps_of : PySem.W.nsIn K mainGlobals "gaps_of" = some (some (.ref f_gaps_of)))
    (l_gaps_of : K.lookup f_gaps_of = some ⟨oc_gaps_of, od_gaps_of, .func (PySem.W.fnOf "gaps_of" "gaps_of" (defArgs s_gaps_of) (defBody s_gaps_of) (defScope s_gaps_of) .none kV_gaps_of dc_gaps_of pm_gaps_of an_gaps_of cd_gaps_of ct_gaps_of), sl_gaps_of⟩)
    (cc_gaps_of : PySem.W.codeIn K cd_gaps_of "gaps_of" = true) (k_gaps_of : PySem.W.keepIn K (.ref f_gaps_of) = true)
    {f_held_wide : Addr} {od_held_wide an_held_wide : Option Addr} {sl_held_wide : Array (Option Value)} {oc_held_wide kV_held_wide dc_held_wide pm_held_wide cd_held_wide ct_held_wide : Value}
    (a_held_wide : PySem.W.nsIn K mainGlobals "held_wide" = some (some (.ref f_held_wide)))
    (l_held_wide : K.lookup f_held_wide = some ⟨oc_held_wide, od_held_wide, .func (PySem.W.fnOf "held_wide" "held_wide" (defArgs s_held_wide) (defBody s_held_wide) (defScope s_held_wide) .none kV_held_wide dc_held_wide pm_held_wide an_held_wide cd_held_wide ct_held_wide), sl_held_wide⟩)
    (cc_held_wide : PySem.W.codeIn K cd_held_wide "held_wide" = true) (k_held_wide : PySem.W.keepIn K (.ref f_held_wide) = true)
    {C_Column : Addr} (aC_Column : PySem.W.nsIn K mainGlobals "Column" = some (some (.ref C_Column)))
    (pg_Column : PySem.W.plainGet K C_Column Str.empty = true)
    (hd_Column : PySem.W.hasDictIn K C_Column = true)
    (po_Column : PySem.W.plainOver K C_Column = true)
    (sa_Column : PySem.W.findIn K (.ref C_Column) "__setattr__" = some (some (.builtin "object.__setattr__")))
    (mk_Column : PySem.W.makesIn K C_Column = true)
    (kc_Column : PySem.W.keepIn K (.ref C_Column) = true)
    (ha_Column : PySem.W.findIn K (.ref C_Column) "__class__" = some (some (.builtin "object.__class__")))
    (hn_Column : PySem.W.specialIn K (.builtin "object.__class__") "__get__" = some (some (.builtin "getset_descriptor.__get__")))
    (htk_Column : PySem.W.takesIn K (.builtin "object.__class__") = some true)
    (hm_Column : PySem.W.mroIn K C_Column (.type "object") = some true)
    (nf_Column_boxes : PySem.W.findIn K (.ref C_Column) "boxes" = some none)
    (nf_Column_gap : PySem.W.findIn K (.ref C_Column) "gap" = some none)
    (nf_Column_grow : PySem.W.findIn K (.ref C_Column) "grow" = some none)
    (nf_Column_shrink : PySem.W.findIn K (.ref C_Column) "shrink" = some none)
    (nf_Column_deep : PySem.W.findIn K (.ref C_Column) "deep" = some none)
    (nf_Column_many : PySem.W.findIn K (.ref C_Column) "many" = some none)
    (nf_Column_three : PySem.W.findIn K (.ref C_Column) "three" = some none)
    {f_Column_across : Addr} {od_Column_across an_Column_across : Option Addr} {sl_Column_across : Array (Option Value)} {oc_Column_across kV_Column_across dc_Column_across pm_Column_across cd_Column_across ct_Column_across : Value}
    (a_Column_across : PySem.W.findIn K (.ref C_Column) "across" = some (some (.ref f_Column_across))) (i_Column_across : PySem.W.isFn K (.ref f_Column_across) = true)
    (l_Column_across : K.lookup f_Column_across = some ⟨oc_Column_across, od_Column_across, .func (PySem.W.fnOf "across" "Column.across" (defArgs s_Column_across) (defBody s_Column_across) (defScope s_Column_across) .none kV_Column_across dc_Column_across pm_Column_across an_Column_across cd_Column_across ct_Column_across), sl_Column_across⟩)
    (cc_Column_across : PySem.W.codeIn K cd_Column_across "Column.across" = true) (k_Column_across : PySem.W.keepIn K (.ref f_Column_across) = true)
    {C_Row : Addr} (aC_Row : PySem.W.nsIn K mainGlobals "Row" = some (some (.ref C_Row)))
    (pg_Row : PySem.W.plainGet K C_Row Str.empty = true)
    (hd_Row : PySem.W.hasDictIn K C_Row = true)
    (po_Row : PySem.W.plainOver K C_Row = true)
    (sa_Row : PySem.W.findIn K (.ref C_Row) "__setattr__" = some (some (.builtin "object.__setattr__")))
    (mk_Row : PySem.W.makesIn K C_Row = true)
    (kc_Row : PySem.W.keepIn K (.ref C_Row) = true)
    (ha_Row : PySem.W.findIn K (.ref C_Row) "__class__" = some (some (.builtin "object.__class__")))
    (hn_Row : PySem.W.specialIn K (.builtin "object.__class__") "__get__" = some (some (.builtin "getset_descriptor.__get__")))
    (htk_Row : PySem.W.takesIn K (.builtin "object.__class__") = some true)
    (hm_Row : PySem.W.mroIn K C_Row (.type "object") = some true)
    (nf_Row_boxes : PySem.W.findIn K (.ref C_Row) "boxes" = some none)
    (nf_Row_gap : PySem.W.findIn K (.ref C_Row) "gap" = some none)
    (nf_Row_grow : PySem.W.findIn K (.ref C_Row) "grow" = some none)
    (nf_Row_shrink : PySem.W.findIn K (.ref C_Row) "shrink" = some none)
    (nf_Row_deep : PySem.W.findIn K (.ref C_Row) "deep" = some none)
    (nf_Row_many : PySem.W.findIn K (.ref C_Row) "many" = some none)
    (nf_Row_three : PySem.W.findIn K (.ref C_Row) "three" = some none)
    {f_Row_across : Addr} {od_Row_across an_Row_across : Option Addr} {sl_Row_across : Array (Option Value)} {oc_Row_across kV_Row_across dc_Row_across pm_Row_across cd_Row_across ct_Row_across : Value}
    (a_Row_across : PySem.W.findIn K (.ref C_Row) "across" = some (some (.ref f_Row_across))) (i_Row_across : PySem.W.isFn K (.ref f_Row_across) = true)
    (l_Row_across : K.lookup f_Row_across = some ⟨oc_Row_across, od_Row_across, .func (PySem.W.fnOf "across" "Row.across" (defArgs s_Row_across) (defBody s_Row_across) (defScope s_Row_across) .none kV_Row_across dc_Row_across pm_Row_across an_Row_across cd_Row_across ct_Row_across), sl_Row_across⟩)
    (cc_Row_across : PySem.W.codeIn K cd_Row_across "Row.across" = true) (k_Row_across : PySem.W.keepIn K (.ref f_Row_across) = true)
    {C_Leaf : Addr} (aC_Leaf : PySem.W.nsIn K mainGlobals "Leaf" = some (some (.ref C_Leaf)))
    (pg_Leaf : PySem.W.plainGet K C_Leaf Str.empty = true)
    (hd_Leaf : PySem.W.hasDictIn K C_Leaf = true)
    (po_Leaf : PySem.W.plainOver K C_Leaf = true)
    (sa_Leaf : PySem.W.findIn K (.ref C_Leaf) "__setattr__" = some (some (.builtin "object.__setattr__")))
    (mk_Leaf : PySem.W.makesIn K C_Leaf = true)
    (kc_Leaf : PySem.W.keepIn K (.ref C_Leaf) = true)
    (ha_Leaf : PySem.W.findIn K (.ref C_Leaf) "__class__" = some (some (.builtin "object.__class__")))
    (hn_Leaf : PySem.W.specialIn K (.builtin "object.__class__") "__get__" = some (some (.builtin "getset_descriptor.__get__")))
    (htk_Leaf : PySem.W.takesIn K (.builtin "object.__class__") = some true)
    (hm_Leaf : PySem.W.mroIn K C_Leaf (.type "object") = some true)
    (nf_Leaf_key : PySem.W.findIn K (.ref C_Leaf) "key" = some none)
    (nf_Leaf_base : PySem.W.findIn K (.ref C_Leaf) "base" = some none)
    (nf_Leaf_least : PySem.W.findIn K (.ref C_Leaf) "least" = some none)
    (nf_Leaf_greatest : PySem.W.findIn K (.ref C_Leaf) "greatest" = some none)
    (nf_Leaf_grow : PySem.W.findIn K (.ref C_Leaf) "grow" = some none)
    (nf_Leaf_shrink : PySem.W.findIn K (.ref C_Leaf) "shrink" = some none)
    (nf_Leaf_deep : PySem.W.findIn K (.ref C_Leaf) "deep" = some none)
    (nf_Leaf_many : PySem.W.findIn K (.ref C_Leaf) "many" = some none)
    {f_Leaf_across : Addr} {od_Leaf_across an_Leaf_across : Option Addr} {sl_Leaf_across : Array (Option Value)} {oc_Leaf_across kV_Leaf_across dc_Leaf_across pm_Leaf_across cd_Leaf_across ct_Leaf_across : Value}
    (a_Leaf_across : PySem.W.findIn K (.ref C_Leaf) "across" = some (some (.ref f_Leaf_across))) (i_Leaf_across : PySem.W.isFn K (.ref f_Leaf_across) = true)
    (l_Leaf_across : K.lookup f_Leaf_across = some ⟨oc_Leaf_across, od_Leaf_across, .func (PySem.W.fnOf "across" "Leaf.across" (defArgs s_Leaf_across) (defBody s_Leaf_across) (defScope s_Leaf_across) .none kV_Leaf_across dc_Leaf_across pm_Leaf_across an_Leaf_across cd_Leaf_across ct_Leaf_across), sl_Leaf_across⟩)
    (cc_Leaf_across : PySem.W.codeIn K cd_Leaf_across "Leaf.across" = true) (k_Leaf_across : PySem.W.keepIn K (.ref f_Leaf_across) = true)
    {C_Pad : Addr} (aC_Pad : PySem.W.nsIn K mainGlobals "Pad" = some (some (.ref C_Pad)))
    (pg_Pad : PySem.W.plainGet K C_Pad Str.empty = true)
    (hd_Pad : PySem.W.hasDictIn K C_Pad = true)
    (po_Pad : PySem.W.plainOver K C_Pad = true)
    (sa_Pad : PySem.W.findIn K (.ref C_Pad) "__setattr__" = some (some (.builtin "object.__setattr__")))
    (mk_Pad : PySem.W.makesIn K C_Pad = true)
    (kc_Pad : PySem.W.keepIn K (.ref C_Pad) = true)
    (ha_Pad : PySem.W.findIn K (.ref C_Pad) "__class__" = some (some (.builtin "object.__class__")))
    (hn_Pad : PySem.W.specialIn K (.builtin "object.__class__") "__get__" = some (some (.builtin "getset_descriptor.__get__")))
    (htk_Pad : PySem.W.takesIn K (.builtin "object.__class__") = some true)
    (hm_Pad : PySem.W.mroIn K C_Pad (.type "object") = some true)
    (nf_Pad_box : PySem.W.findIn K (.ref C_Pad) "box" = some none)
    (nf_Pad_by : PySem.W.findIn K (.ref C_Pad) "by" = some none)
    (nf_Pad_grow : PySem.W.findIn K (.ref C_Pad) "grow" = some none)
    (nf_Pad_shrink : PySem.W.findIn K (.ref C_Pad) "shrink" = some none)
    (nf_Pad_deep : PySem.W.findIn K (.ref C_Pad) "deep" = some none)
    (nf_Pad_many : PySem.W.findIn K (.ref C_Pad) "many" = some none)
    {f_Pad_across : Addr} {od_Pad_across an_Pad_across : Option Addr} {sl_Pad_across : Array (Option Value)} {oc_Pad_across kV_Pad_across dc_Pad_across pm_Pad_across cd_Pad_across ct_Pad_across : Value}
    (a_Pad_across : PySem.W.findIn K (.ref C_Pad) "across" = some (some (.ref f_Pad_across))) (i_Pad_across : PySem.W.isFn K (.ref f_Pad_across) = true)
    (l_Pad_across : K.lookup f_Pad_across = some ⟨oc_Pad_across, od_Pad_across, .func (PySem.W.fnOf "across" "Pad.across" (defArgs s_Pad_across) (defBody s_Pad_across) (defScope s_Pad_across) .none kV_Pad_across dc_Pad_across pm_Pad_across an_Pad_across cd_Pad_across ct_Pad_across), sl_Pad_across⟩)
    (cc_Pad_across : PySem.W.codeIn K cd_Pad_across "Pad.across" = true) (k_Pad_across : PySem.W.keepIn K (.ref f_Pad_across) = true)
    {f_row_across : Addr} {od_row_across an_row_across : Option Addr} {sl_row_across : Array (Option Value)} {oc_row_across kV_row_across dc_row_across pm_row_across cd_row_across ct_row_across : Value}
    (a_row_across : PySem.W.nsIn K mainGlobals "row_across" = some (some (.ref f_row_across)))
    (l_row_across : K.lookup f_row_across = some ⟨oc_row_across, od_row_across, .func (PySem.W.fnOf "row_across" "row_across" (defArgs s_row_across) (defBody s_row_across) (defScope s_row_across) .none kV_row_across dc_row_across pm_row_across an_row_across cd_row_across ct_row_across), sl_row_across⟩)
    (cc_row_across : PySem.W.codeIn K cd_row_across "row_across" = true) (k_row_across : PySem.W.keepIn K (.ref f_row_across) = true)
    {f_column_across : Addr} {od_column_across an_column_across : Option Addr} {sl_column_across : Array (Option Value)} {oc_column_across kV_column_across dc_column_across pm_column_across cd_column_across ct_column_across : Value}
    (a_column_across : PySem.W.nsIn K mainGlobals "column_across" = some (some (.ref f_column_across)))
    (l_column_across : K.lookup f_column_across = some ⟨oc_column_across, od_column_across, .func (PySem.W.fnOf "column_across" "column_across" (defArgs s_column_across) (defBody s_column_across) (defScope s_column_across) .none kV_column_across dc_column_across pm_column_across an_column_across cd_column_across ct_column_across), sl_column_across⟩)
    (cc_column_across : PySem.W.codeIn K cd_column_across "column_across" = true) (k_column_across : PySem.W.keepIn K (.ref f_column_across) = true)
    {T_Leaf___init__ : Addr} {to_Leaf___init__ : Value} {td_Leaf___init__ : Option Addr} {tn_Leaf___init__ : Nat} {ts_Leaf___init__ : Array (Option Value)} {tk_Leaf___init___0 tk_Leaf___init___2 tk_Leaf___init___3 : Tok}
    {f_Leaf___init__ : Addr} {od_Leaf___init__ an_Leaf___init__ : Option Addr} {sl_Leaf___init__ : Array (Option Value)} {oc_Leaf___init__ kV_Leaf___init__ dc_Leaf___init__ pm_Leaf___init__ cd_Leaf___init__ ct_Leaf___init__ : Value}
    (a_Leaf___init__ : PySem.W.findIn K (.ref C_Leaf) "__init__" = some (some (.ref f_Leaf___init__))) (i_Leaf___init__ : PySem.W.isFn K (.ref f_Leaf___init__) = true)
    (l_Leaf___init__ : K.lookup f_Leaf___init__ = some ⟨oc_Leaf___init__, od_Leaf___init__, .func (PySem.W.fnOf "__init__" "Leaf.__init__" (defArgs s_Leaf___init__) (defBody s_Leaf___init__) (defScope s_Leaf___init__) (.ref T_Leaf___init__) kV_Leaf___init__ dc_Leaf___init__ pm_Leaf___init__ an_Leaf___init__ cd_Leaf___init__ ct_Leaf___init__), sl_Leaf___init__⟩)
    (cc_Leaf___init__ : PySem.W.codeIn K cd_Leaf___init__ "Leaf.__init__" = true) (k_Leaf___init__ : PySem.W.keepIn K (.ref f_Leaf___init__) = true)
    (dt_Leaf___init__ : K.lookup T_Leaf___init__ = some ⟨to_Leaf___init__, td_Leaf___init__, .seq [Value.int 0 tk_Leaf___init___0, Value.none, Value.int 1 tk_Leaf___init___2, Value.int 1 tk_Leaf___init___3].toArray tn_Leaf___init__, ts_Leaf___init__⟩)
    {T_Row___init__ : Addr} {to_Row___init__ : Value} {td_Row___init__ : Option Addr} {tn_Row___init__ : Nat} {ts_Row___init__ : Array (Option Value)} {tk_Row___init___0 tk_Row___init___1 tk_Row___init___2 : Tok}
    {f_Row___init__ : Addr} {od_Row___init__ an_Row___init__ : Option Addr} {sl_Row___init__ : Array (Option Value)} {oc_Row___init__ kV_Row___init__ dc_Row___init__ pm_Row___init__ cd_Row___init__ ct_Row___init__ : Value}
    (a_Row___init__ : PySem.W.findIn K (.ref C_Row) "__init__" = some (some (.ref f_Row___init__))) (i_Row___init__ : PySem.W.isFn K (.ref f_Row___init__) = true)
    (l_Row___init__ : K.lookup f_Row___init__ = some ⟨oc_Row___init__, od_Row___init__, .func (PySem.W.fnOf "__init__" "Row.__init__" (defArgs s_Row___init__) (defBody s_Row___init__) (defScope s_Row___init__) (.ref T_Row___init__) kV_Row___init__ dc_Row___init__ pm_Row___init__ an_Row___init__ cd_Row___init__ ct_Row___init__), sl_Row___init__⟩)
    (cc_Row___init__ : PySem.W.codeIn K cd_Row___init__ "Row.__init__" = true) (k_Row___init__ : PySem.W.keepIn K (.ref f_Row___init__) = true)
    (dt_Row___init__ : K.lookup T_Row___init__ = some ⟨to_Row___init__, td_Row___init__, .seq [Value.int 0 tk_Row___init___0, Value.int 1 tk_Row___init___1, Value.int 1 tk_Row___init___2].toArray tn_Row___init__, ts_Row___init__⟩)
    {f_Row_wides_for : Addr} {od_Row_wides_for an_Row_wides_for : Option Addr} {sl_Row_wides_for : Array (Option Value)} {oc_Row_wides_for kV_Row_wides_for dc_Row_wides_for pm_Row_wides_for cd_Row_wides_for ct_Row_wides_for : Value}
    (a_Row_wides_for : PySem.W.findIn K (.ref C_Row) "wides_for" = some (some (.ref f_Row_wides_for))) (i_Row_wides_for : PySem.W.isFn K (.ref f_Row_wides_for) = true)
    (l_Row_wides_for : K.lookup f_Row_wides_for = some ⟨oc_Row_wides_for, od_Row_wides_for, .func (PySem.W.fnOf "wides_for" "Row.wides_for" (defArgs s_Row_wides_for) (defBody s_Row_wides_for) (defScope s_Row_wides_for) .none kV_Row_wides_for dc_Row_wides_for pm_Row_wides_for an_Row_wides_for cd_Row_wides_for ct_Row_wides_for), sl_Row_wides_for⟩)
    (cc_Row_wides_for : PySem.W.codeIn K cd_Row_wides_for "Row.wides_for" = true) (k_Row_wides_for : PySem.W.keepIn K (.ref f_Row_wides_for) = true)
    {T_Column___init__ : Addr} {to_Column___init__ : Value} {td_Column___init__ : Option Addr} {tn_Column___init__ : Nat} {ts_Column___init__ : Array (Option Value)} {tk_Column___init___0 tk_Column___init___1 tk_Column___init___2 : Tok}
    {f_Column___init__ : Addr} {od_Column___init__ an_Column___init__ : Option Addr} {sl_Column___init__ : Array (Option Value)} {oc_Column___init__ kV_Column___init__ dc_Column___init__ pm_Column___init__ cd_Column___init__ ct_Column___init__ : Value}
    (a_Column___init__ : PySem.W.findIn K (.ref C_Column) "__init__" = some (some (.ref f_Column___init__))) (i_Column___init__ : PySem.W.isFn K (.ref f_Column___init__) = true)
    (l_Column___init__ : K.lookup f_Column___init__ = some ⟨oc_Column___init__, od_Column___init__, .func (PySem.W.fnOf "__init__" "Column.__init__" (defArgs s_Column___init__) (defBody s_Column___init__) (defScope s_Column___init__) (.ref T_Column___init__) kV_Column___init__ dc_Column___init__ pm_Column___init__ an_Column___init__ cd_Column___init__ ct_Column___init__), sl_Column___init__⟩)
    (cc_Column___init__ : PySem.W.codeIn K cd_Column___init__ "Column.__init__" = true) (k_Column___init__ : PySem.W.keepIn K (.ref f_Column___init__) = true)
    (dt_Column___init__ : K.lookup T_Column___init__ = some ⟨to_Column___init__, td_Column___init__, .seq [Value.int 0 tk_Column___init___0, Value.int 1 tk_Column___init___1, Value.int 1 tk_Column___init___2].toArray tn_Column___init__, ts_Column___init__⟩)
    {f_Column_wides_for : Addr} {od_Column_wides_for an_Column_wides_for : Option Addr} {sl_Column_wides_for : Array (Option Value)} {oc_Column_wides_for kV_Column_wides_for dc_Column_wides_for pm_Column_wides_for cd_Column_wides_for ct_Column_wides_for : Value}
    (a_Column_wides_for : PySem.W.findIn K (.ref C_Column) "wides_for" = some (some (.ref f_Column_wides_for))) (i_Column_wides_for : PySem.W.isFn K (.ref f_Column_wides_for) = true)
    (l_Column_wides_for : K.lookup f_Column_wides_for = some ⟨oc_Column_wides_for, od_Column_wides_for, .func (PySem.W.fnOf "wides_for" "Column.wides_for" (defArgs s_Column_wides_for) (defBody s_Column_wides_for) (defScope s_Column_wides_for) .none kV_Column_wides_for dc_Column_wides_for pm_Column_wides_for an_Column_wides_for cd_Column_wides_for ct_Column_wides_for), sl_Column_wides_for⟩)
    (cc_Column_wides_for : PySem.W.codeIn K cd_Column_wides_for "Column.wides_for" = true) (k_Column_wides_for : PySem.W.keepIn K (.ref f_Column_wides_for) = true)
    {T_Pad___init__ : Addr} {to_Pad___init__ : Value} {td_Pad___init__ : Option Addr} {tn_Pad___init__ : Nat} {ts_Pad___init__ : Array (Option Value)} {tk_Pad___init___0 tk_Pad___init___1 : Tok}
    {f_Pad___init__ : Addr} {od_Pad___init__ an_Pad___init__ : Option Addr} {sl_Pad___init__ : Array (Option Value)} {oc_Pad___init__ kV_Pad___init__ dc_Pad___init__ pm_Pad___init__ cd_Pad___init__ ct_Pad___init__ : Value}
    (a_Pad___init__ : PySem.W.findIn K (.ref C_Pad) "__init__" = some (some (.ref f_Pad___init__))) (i_Pad___init__ : PySem.W.isFn K (.ref f_Pad___init__) = true)
    (l_Pad___init__ : K.lookup f_Pad___init__ = some ⟨oc_Pad___init__, od_Pad___init__, .func (PySem.W.fnOf "__init__" "Pad.__init__" (defArgs s_Pad___init__) (defBody s_Pad___init__) (defScope s_Pad___init__) (.ref T_Pad___init__) kV_Pad___init__ dc_Pad___init__ pm_Pad___init__ an_Pad___init__ cd_Pad___init__ ct_Pad___init__), sl_Pad___init__⟩)
    (cc_Pad___init__ : PySem.W.codeIn K cd_Pad___init__ "Pad.__init__" = true) (k_Pad___init__ : PySem.W.keepIn K (.ref f_Pad___init__) = true)
    (dt_Pad___init__ : K.lookup T_Pad___init__ = some ⟨to_Pad___init__, td_Pad___init__, .seq [Value.int 1 tk_Pad___init___0, Value.int 1 tk_Pad___init___1].toArray tn_Pad___init__, ts_Pad___init__⟩)
    {f_Pad_wides_for : Addr} {od_Pad_wides_for an_Pad_wides_for : Option Addr} {sl_Pad_wides_for : Array (Option Value)} {oc_Pad_wides_for kV_Pad_wides_for dc_Pad_wides_for pm_Pad_wides_for cd_Pad_wides_for ct_Pad_wides_for : Value}
    (a_Pad_wides_for : PySem.W.findIn K (.ref C_Pad) "wides_for" = some (some (.ref f_Pad_wides_for))) (i_Pad_wides_for : PySem.W.isFn K (.ref f_Pad_wides_for) = true)
    (l_Pad_wides_for : K.lookup f_Pad_wides_for = some ⟨oc_Pad_wides_for, od_Pad_wides_for, .func (PySem.W.fnOf "wides_for" "Pad.wides_for" (defArgs s_Pad_wides_for) (defBody s_Pad_wides_for) (defScope s_Pad_wides_for) .none kV_Pad_wides_for dc_Pad_wides_for pm_Pad_wides_for an_Pad_wides_for cd_Pad_wides_for ct_Pad_wides_for), sl_Pad_wides_for⟩)
    (cc_Pad_wides_for : PySem.W.codeIn K cd_Pad_wides_for "Pad.wides_for" = true) (k_Pad_wides_for : PySem.W.keepIn K (.ref f_Pad_wides_for) = true)
    {f__law_bag : Addr} {od__law_bag an__law_bag : Option Addr} {sl__law_bag : Array (Option Value)} {oc__law_bag kV__law_bag dc__law_bag pm__law_bag cd__law_bag ct__law_bag : Value}
    (a__law_bag : PySem.W.nsIn K mainGlobals "_law_bag" = some (some (.ref f__law_bag)))
    (l__law_bag : K.lookup f__law_bag = some ⟨oc__law_bag, od__law_bag, .func (PySem.W.fnOf "_law_bag" "_law_bag" (defArgs s__law_bag) (defBody s__law_bag) (defScope s__law_bag) .none kV__law_bag dc__law_bag pm__law_bag an__law_bag cd__law_bag ct__law_bag), sl__law_bag⟩)
    (cc__law_bag : PySem.W.codeIn K cd__law_bag "_law_bag" = true) (k__law_bag : PySem.W.keepIn K (.ref f__law_bag) = true)
    {f__law_take : Addr} {od__law_take an__law_take : Option Addr} {sl__law_take : Array (Option Value)} {oc__law_take kV__law_take dc__law_take pm__law_take cd__law_take ct__law_take : Value}
    (a__law_take : PySem.W.nsIn K mainGlobals "_law_take" = some (some (.ref f__law_take)))
    (l__law_take : K.lookup f__law_take = some ⟨oc__law_take, od__law_take, .func (PySem.W.fnOf "_law_take" "_law_take" (defArgs s__law_take) (defBody s__law_take) (defScope s__law_take) .none kV__law_take dc__law_take pm__law_take an__law_take cd__law_take ct__law_take), sl__law_take⟩)
    (cc__law_take : PySem.W.codeIn K cd__law_take "_law_take" = true) (k__law_take : PySem.W.keepIn K (.ref f__law_take) = true)
    {f__law_length : Addr} {od__law_length an__law_length : Option Addr} {sl__law_length : Array (Option Value)} {oc__law_length kV__law_length dc__law_length pm__law_length cd__law_length ct__law_length : Value}
    (a__law_length : PySem.W.nsIn K mainGlobals "_law_length" = some (some (.ref f__law_length)))
    (l__law_length : K.lookup f__law_length = some ⟨oc__law_length, od__law_length, .func (PySem.W.fnOf "_law_length" "_law_length" (defArgs s__law_length) (defBody s__law_length) (defScope s__law_length) .none kV__law_length dc__law_length pm__law_length an__law_length cd__law_length ct__law_length), sl__law_length⟩)
    (cc__law_length : PySem.W.codeIn K cd__law_length "_law_length" = true) (k__law_length : PySem.W.keepIn K (.ref f__law_length) = true)
    {f__law_weight : Addr} {od__law_weight an__law_weight : Option Addr} {sl__law_weight : Array (Option Value)} {oc__law_weight kV__law_weight dc__law_weight pm__law_weight cd__law_weight ct__law_weight : Value}
    (a__law_weight : PySem.W.nsIn K mainGlobals "_law_weight" = some (some (.ref f__law_weight)))
    (l__law_weight : K.lookup f__law_weight = some ⟨oc__law_weight, od__law_weight, .func (PySem.W.fnOf "_law_weight" "_law_weight" (defArgs s__law_weight) (defBody s__law_weight) (defScope s__law_weight) .none kV__law_weight dc__law_weight pm__law_weight an__law_weight cd__law_weight ct__law_weight), sl__law_weight⟩)
    (cc__law_weight : PySem.W.codeIn K cd__law_weight "_law_weight" = true) (k__law_weight : PySem.W.keepIn K (.ref f__law_weight) = true)
    {f__law_key : Addr} {od__law_key an__law_key : Option Addr} {sl__law_key : Array (Option Value)} {oc__law_key kV__law_key dc__law_key pm__law_key cd__law_key ct__law_key : Value}
    (a__law_key : PySem.W.nsIn K mainGlobals "_law_key" = some (some (.ref f__law_key)))
    (l__law_key : K.lookup f__law_key = some ⟨oc__law_key, od__law_key, .func (PySem.W.fnOf "_law_key" "_law_key" (defArgs s__law_key) (defBody s__law_key) (defScope s__law_key) .none kV__law_key dc__law_key pm__law_key an__law_key cd__law_key ct__law_key), sl__law_key⟩)
    (cc__law_key : PySem.W.codeIn K cd__law_key "_law_key" = true) (k__law_key : PySem.W.keepIn K (.ref f__law_key) = true)
    {f__law_leaf : Addr} {od__law_leaf an__law_leaf : Option Addr} {sl__law_leaf : Array (Option Value)} {oc__law_leaf kV__law_leaf dc__law_leaf pm__law_leaf cd__law_leaf ct__law_leaf : Value}
    (a__law_leaf : PySem.W.nsIn K mainGlobals "_law_leaf" = some (some (.ref f__law_leaf)))
    (l__law_leaf : K.lookup f__law_leaf = some ⟨oc__law_leaf, od__law_leaf, .func (PySem.W.fnOf "_law_leaf" "_law_leaf" (defArgs s__law_leaf) (defBody s__law_leaf) (defScope s__law_leaf) .none kV__law_leaf dc__law_leaf pm__law_leaf an__law_leaf cd__law_leaf ct__law_leaf), sl__law_leaf⟩)
    (cc__law_leaf : PySem.W.codeIn K cd__law_leaf "_law_leaf" = true) (k__law_leaf : PySem.W.keepIn K (.ref f__law_leaf) = true)
    {f__law_tree : Addr} {od__law_tree an__law_tree : Option Addr} {sl__law_tree : Array (Option Value)} {oc__law_tree kV__law_tree dc__law_tree pm__law_tree cd__law_tree ct__law_tree : Value}
    (a__law_tree : PySem.W.nsIn K mainGlobals "_law_tree" = some (some (.ref f__law_tree)))
    (l__law_tree : K.lookup f__law_tree = some ⟨oc__law_tree, od__law_tree, .func (PySem.W.fnOf "_law_tree" "_law_tree" (defArgs s__law_tree) (defBody s__law_tree) (defScope s__law_tree) .none kV__law_tree dc__law_tree pm__law_tree an__law_tree cd__law_tree ct__law_tree), sl__law_tree⟩)
    (cc__law_tree : PySem.W.codeIn K cd__law_tree "_law_tree" = true) (k__law_tree : PySem.W.keepIn K (.ref f__law_tree) = true)
    {f__law_made : Addr} {od__law_made an__law_made : Option Addr} {sl__law_made : Array (Option Value)} {oc__law_made kV__law_made dc__law_made pm__law_made cd__law_made ct__law_made : Value}
    (a__law_made : PySem.W.nsIn K mainGlobals "_law_made" = some (some (.ref f__law_made)))
    (l__law_made : K.lookup f__law_made = some ⟨oc__law_made, od__law_made, .func (PySem.W.fnOf "_law_made" "_law_made" (defArgs s__law_made) (defBody s__law_made) (defScope s__law_made) .none kV__law_made dc__law_made pm__law_made an__law_made cd__law_made ct__law_made), sl__law_made⟩)
    (cc__law_made : PySem.W.codeIn K cd__law_made "_law_made" = true) (k__law_made : PySem.W.keepIn K (.ref f__law_made) = true)
    {f__law_three : Addr} {od__law_three an__law_three : Option Addr} {sl__law_three : Array (Option Value)} {oc__law_three kV__law_three dc__law_three pm__law_three cd__law_three ct__law_three : Value}
    (a__law_three : PySem.W.nsIn K mainGlobals "_law_three" = some (some (.ref f__law_three)))
    (l__law_three : K.lookup f__law_three = some ⟨oc__law_three, od__law_three, .func (PySem.W.fnOf "_law_three" "_law_three" (defArgs s__law_three) (defBody s__law_three) (defScope s__law_three) .none kV__law_three dc__law_three pm__law_three an__law_three cd__law_three ct__law_three), sl__law_three⟩)
    (cc__law_three : PySem.W.codeIn K cd__law_three "_law_three" = true) (k__law_three : PySem.W.keepIn K (.ref f__law_three) = true)
    {f__law_across : Addr} {od__law_across an__law_across : Option Addr} {sl__law_across : Array (Option Value)} {oc__law_across kV__law_across dc__law_across pm__law_across cd__law_across ct__law_across : Value}
    (a__law_across : PySem.W.nsIn K mainGlobals "_law_across" = some (some (.ref f__law_across)))
    (l__law_across : K.lookup f__law_across = some ⟨oc__law_across, od__law_across, .func (PySem.W.fnOf "_law_across" "_law_across" (defArgs s__law_across) (defBody s__law_across) (defScope s__law_across) .none kV__law_across dc__law_across pm__law_across an__law_across cd__law_across ct__law_across), sl__law_across⟩)
    (cc__law_across : PySem.W.codeIn K cd__law_across "_law_across" = true) (k__law_across : PySem.W.keepIn K (.ref f__law_across) = true)
    {f__law_wide : Addr} {od__law_wide an__law_wide : Option Addr} {sl__law_wide : Array (Option Value)} {oc__law_wide kV__law_wide dc__law_wide pm__law_wide cd__law_wide ct__law_wide : Value}
    (a__law_wide : PySem.W.nsIn K mainGlobals "_law_wide" = some (some (.ref f__law_wide)))
    (l__law_wide : K.lookup f__law_wide = some ⟨oc__law_wide, od__law_wide, .func (PySem.W.fnOf "_law_wide" "_law_wide" (defArgs s__law_wide) (defBody s__law_wide) (defScope s__law_wide) .none kV__law_wide dc__law_wide pm__law_wide an__law_wide cd__law_wide ct__law_wide), sl__law_wide⟩)
    (cc__law_wide : PySem.W.codeIn K cd__law_wide "_law_wide" = true) (k__law_wide : PySem.W.keepIn K (.ref f__law_wide) = true)
    {f__law_whole : Addr} {od__law_whole an__law_whole : Option Addr} {sl__law_whole : Array (Option Value)} {oc__law_whole kV__law_whole dc__law_whole pm__law_whole cd__law_whole ct__law_whole : Value}
    (a__law_whole : PySem.W.nsIn K mainGlobals "_law_whole" = some (some (.ref f__law_whole)))
    (l__law_whole : K.lookup f__law_whole = some ⟨oc__law_whole, od__law_whole, .func (PySem.W.fnOf "_law_whole" "_law_whole" (defArgs s__law_whole) (defBody s__law_whole) (defScope s__law_whole) .none kV__law_whole dc__law_whole pm__law_whole an__law_whole cd__law_whole ct__law_whole), sl__law_whole⟩)
    (cc__law_whole : PySem.W.codeIn K cd__law_whole "_law_whole" = true) (k__law_whole : PySem.W.keepIn K (.ref f__law_whole) = true)
    {f__law_wholes : Addr} {od__law_wholes an__law_wholes : Option Addr} {sl__law_wholes : Array (Option Value)} {oc__law_wholes kV__law_wholes dc__law_wholes pm__law_wholes cd__law_wholes ct__law_wholes : Value}
    (a__law_wholes : PySem.W.nsIn K mainGlobals "_law_wholes" = some (some (.ref f__law_wholes)))
    (l__law_wholes : K.lookup f__law_wholes = some ⟨oc__law_wholes, od__law_wholes, .func (PySem.W.fnOf "_law_wholes" "_law_wholes" (defArgs s__law_wholes) (defBody s__law_wholes) (defScope s__law_wholes) .none kV__law_wholes dc__law_wholes pm__law_wholes an__law_wholes cd__law_wholes ct__law_wholes), sl__law_wholes⟩)
    (cc__law_wholes : PySem.W.codeIn K cd__law_wholes "_law_wholes" = true) (k__law_wholes : PySem.W.keepIn K (.ref f__law_wholes) = true)
    {f__law_floors : Addr} {od__law_floors an__law_floors : Option Addr} {sl__law_floors : Array (Option Value)} {oc__law_floors kV__law_floors dc__law_floors pm__law_floors cd__law_floors ct__law_floors : Value}
    (a__law_floors : PySem.W.nsIn K mainGlobals "_law_floors" = some (some (.ref f__law_floors)))
    (l__law_floors : K.lookup f__law_floors = some ⟨oc__law_floors, od__law_floors, .func (PySem.W.fnOf "_law_floors" "_law_floors" (defArgs s__law_floors) (defBody s__law_floors) (defScope s__law_floors) .none kV__law_floors dc__law_floors pm__law_floors an__law_floors cd__law_floors ct__law_floors), sl__law_floors⟩)
    (cc__law_floors : PySem.W.codeIn K cd__law_floors "_law_floors" = true) (k__law_floors : PySem.W.keepIn K (.ref f__law_floors) = true)
    {f__law_ends : Addr} {od__law_ends an__law_ends : Option Addr} {sl__law_ends : Array (Option Value)} {oc__law_ends kV__law_ends dc__law_ends pm__law_ends cd__law_ends ct__law_ends : Value}
    (a__law_ends : PySem.W.nsIn K mainGlobals "_law_ends" = some (some (.ref f__law_ends)))
    (l__law_ends : K.lookup f__law_ends = some ⟨oc__law_ends, od__law_ends, .func (PySem.W.fnOf "_law_ends" "_law_ends" (defArgs s__law_ends) (defBody s__law_ends) (defScope s__law_ends) .none kV__law_ends dc__law_ends pm__law_ends an__law_ends cd__law_ends ct__law_ends), sl__law_ends⟩)
    (cc__law_ends : PySem.W.codeIn K cd__law_ends "_law_ends" = true) (k__law_ends : PySem.W.keepIn K (.ref f__law_ends) = true)
    {f__law_due : Addr} {od__law_due an__law_due : Option Addr} {sl__law_due : Array (Option Value)} {oc__law_due kV__law_due dc__law_due pm__law_due cd__law_due ct__law_due : Value}
    (a__law_due : PySem.W.nsIn K mainGlobals "_law_due" = some (some (.ref f__law_due)))
    (l__law_due : K.lookup f__law_due = some ⟨oc__law_due, od__law_due, .func (PySem.W.fnOf "_law_due" "_law_due" (defArgs s__law_due) (defBody s__law_due) (defScope s__law_due) .none kV__law_due dc__law_due pm__law_due an__law_due cd__law_due ct__law_due), sl__law_due⟩)
    (cc__law_due : PySem.W.codeIn K cd__law_due "_law_due" = true) (k__law_due : PySem.W.keepIn K (.ref f__law_due) = true)
    {f__law_wides : Addr} {od__law_wides an__law_wides : Option Addr} {sl__law_wides : Array (Option Value)} {oc__law_wides kV__law_wides dc__law_wides pm__law_wides cd__law_wides ct__law_wides : Value}
    (a__law_wides : PySem.W.nsIn K mainGlobals "_law_wides" = some (some (.ref f__law_wides)))
    (l__law_wides : K.lookup f__law_wides = some ⟨oc__law_wides, od__law_wides, .func (PySem.W.fnOf "_law_wides" "_law_wides" (defArgs s__law_wides) (defBody s__law_wides) (defScope s__law_wides) .none kV__law_wides dc__law_wides pm__law_wides an__law_wides cd__law_wides ct__law_wides), sl__law_wides⟩)
    (cc__law_wides : PySem.W.codeIn K cd__law_wides "_law_wides" = true) (k__law_wides : PySem.W.keepIn K (.ref f__law_wides) = true)
    {f_Leaf_wides_for : Addr} {od_Leaf_wides_for an_Leaf_wides_for : Option Addr} {sl_Leaf_wides_for : Array (Option Value)} {oc_Leaf_wides_for kV_Leaf_wides_for dc_Leaf_wides_for pm_Leaf_wides_for cd_Leaf_wides_for ct_Leaf_wides_for : Value}
    (a_Leaf_wides_for : PySem.W.findIn K (.ref C_Leaf) "wides_for" = some (some (.ref f_Leaf_wides_for))) (i_Leaf_wides_for : PySem.W.isFn K (.ref f_Leaf_wides_for) = true)
    (l_Leaf_wides_for : K.lookup f_Leaf_wides_for = some ⟨oc_Leaf_wides_for, od_Leaf_wides_for, .func (PySem.W.fnOf "wides_for" "Box.wides_for" (defArgs s_Box_wides_for) (defBody s_Box_wides_for) (defScope s_Box_wides_for) .none kV_Leaf_wides_for dc_Leaf_wides_for pm_Leaf_wides_for an_Leaf_wides_for cd_Leaf_wides_for ct_Leaf_wides_for), sl_Leaf_wides_for⟩)
    (cc_Leaf_wides_for : PySem.W.codeIn K cd_Leaf_wides_for "Box.wides_for" = true) (k_Leaf_wides_for : PySem.W.keepIn K (.ref f_Leaf_wides_for) = true)
    {f_law : Addr} {od_law an_law : Option Addr} {sl_law : Array (Option Value)} {oc_law kV_law dc_law pm_law cd_law ct_law : Value}
    (a_law : PySem.W.nsIn K mainGlobals "law" = some (some (.ref f_law)))
    (l_law : K.lookup f_law = some ⟨oc_law, od_law, .func (PySem.W.fnOf "law" "law" (defArgs s_law) (defBody s_law) (defScope s_law) .none kV_law dc_law pm_law an_law cd_law ct_law), sl_law⟩)
    (cc_law : PySem.W.codeIn K cd_law "law" = true) (k_law : PySem.W.keepIn K (.ref f_law) = true)
    (et_Box : PySem.W.typeIn K (.ref C_Box) = some (.type "type"))
    (ic_Box : PySem.W.isClsIn K C_Box = true)
    (sz_Box : PySem.W.subIn K (.ref C_Box) (.ref C_Box) = some true)
    (su_Box_Box : PySem.W.subIn K (.ref C_Box) (.ref C_Box) = some true)
    (sz_Leaf : PySem.W.subIn K (.ref C_Leaf) (.ref C_Leaf) = some true)
    (su_Leaf_Box : PySem.W.subIn K (.ref C_Leaf) (.ref C_Box) = some true)
    (sz_Row : PySem.W.subIn K (.ref C_Row) (.ref C_Row) = some true)
    (su_Row_Box : PySem.W.subIn K (.ref C_Row) (.ref C_Box) = some true)
    (sz_Column : PySem.W.subIn K (.ref C_Column) (.ref C_Column) = some true)
    (su_Column_Box : PySem.W.subIn K (.ref C_Column) (.ref C_Box) = some true)
    (sz_Pad : PySem.W.subIn K (.ref C_Pad) (.ref C_Pad) = some true)
    (su_Pad_Box : PySem.W.subIn K (.ref C_Pad) (.ref C_Box) = some true)
    (z_len : PySem.W.nsIn K mainGlobals "len" = some none)
    (z_abs : PySem.W.nsIn K mainGlobals "abs" = some none)
    (z_isinstance : PySem.W.nsIn K mainGlobals "isinstance" = some none)
    (z_min : PySem.W.nsIn K mainGlobals "min" = some none)
    (z_max : PySem.W.nsIn K mainGlobals "max" = some none)
    (z_sum : PySem.W.nsIn K mainGlobals "sum" = some none)
    (z_sorted : PySem.W.nsIn K mainGlobals "sorted" = some none)
    (z_range : PySem.W.nsIn K mainGlobals "range" = some none)
    (z_zip : PySem.W.nsIn K mainGlobals "zip" = some none)
    (z_enumerate : PySem.W.nsIn K mainGlobals "enumerate" = some none)
    (z_reversed : PySem.W.nsIn K mainGlobals "reversed" = some none)
    (z_int : PySem.W.nsIn K mainGlobals "int" = some none)
    (z_bool : PySem.W.nsIn K mainGlobals "bool" = some none)
    (z_tuple : PySem.W.nsIn K mainGlobals "tuple" = some none)
    (z_list : PySem.W.nsIn K mainGlobals "list" = some none)
    (z_str : PySem.W.nsIn K mainGlobals "str" = some none)
    (z_dict : PySem.W.nsIn K mainGlobals "dict" = some none)
    (z_ValueError : PySem.W.nsIn K mainGlobals "ValueError" = some none)
    (z_set : PySem.W.nsIn K mainGlobals "set" = some none)
    (z_any : PySem.W.nsIn K mainGlobals "any" = some none)
    (z_all : PySem.W.nsIn K mainGlobals "all" = some none)
    {t_LENGTH : Tok} (n_LENGTH : PySem.W.nsIn K mainGlobals "LENGTH" = some (some (.int 1000000000000 t_LENGTH)))
    {t_SMALL : Tok} (n_SMALL : PySem.W.nsIn K mainGlobals "SMALL" = some (some (.int 1000000 t_SMALL)))
    {t_WEIGHT : Tok} (n_WEIGHT : PySem.W.nsIn K mainGlobals "WEIGHT" = some (some (.int 1000 t_WEIGHT)))
    {t_LETTERS : Tok} (n_LETTERS : PySem.W.nsIn K mainGlobals "LETTERS" = some (some (.str "abcdefghijklmnopqrstuvwxyz" t_LETTERS)))
    {t_LONGEST : Tok} (n_LONGEST : PySem.W.nsIn K mainGlobals "LONGEST" = some (some (.int 8 t_LONGEST)))
    {t_MOST : Tok} (n_MOST : PySem.W.nsIn K mainGlobals "MOST" = some (some (.int 60 t_MOST)))
    {t_DEEPEST : Tok} (n_DEEPEST : PySem.W.nsIn K mainGlobals "DEEPEST" = some (some (.int 6 t_DEEPEST)))
    {t_MOST_BOXES : Tok} (n_MOST_BOXES : PySem.W.nsIn K mainGlobals "MOST_BOXES" = some (some (.int 60 t_MOST_BOXES)))
    {t_MOST_WITHIN : Tok} (n_MOST_WITHIN : PySem.W.nsIn K mainGlobals "MOST_WITHIN" = some (some (.int 8 t_MOST_WITHIN)))
    : ∃ fd : FuncData, (∀ (s : Shared) (v : Value), BindsTo s fd ⟨[v], []⟩ [("_law_script", v)]) ∧ ∀ base : Heap, K.In base → base.Ns mainGlobals mg → FnOk l.prog w K mg base CX0 19 fa fd ["_law_script"] (sp_law K) := by
  have e := hfa.symm.trans (PySem.W.mg_of X G a_law)
  cases e
  have B : Bn mg := ⟨PySem.W.mg_none_of X G z_len, PySem.W.mg_none_of X G z_abs, PySem.W.mg_none_of X G z_isinstance, PySem.W.mg_none_of X G z_min, PySem.W.mg_none_of X G z_max, PySem.W.mg_none_of X G z_sum, PySem.W.mg_none_of X G z_sorted, PySem.W.mg_none_of X G z_range, PySem.W.mg_none_of X G z_zip, PySem.W.mg_none_of X G z_enumerate, PySem.W.mg_none_of X G z_reversed, PySem.W.mg_none_of X G z_int, PySem.W.mg_none_of X G z_bool, PySem.W.mg_none_of X G z_tuple, PySem.W.mg_none_of X G z_list, PySem.W.mg_none_of X G z_str, PySem.W.mg_none_of X G z_dict, PySem.W.mg_none_of X G z_ValueError, PySem.W.mg_none_of X G z_set, PySem.W.mg_none_of X G z_any, PySem.W.mg_none_of X G z_all⟩
  have g_LENGTH : ∃ t, mg "LENGTH" = some (.int 1000000000000 t) := ⟨_, PySem.W.mg_of X G n_LENGTH⟩
  have g_SMALL : ∃ t, mg "SMALL" = some (.int 1000000 t) := ⟨_, PySem.W.mg_of X G n_SMALL⟩
  have g_WEIGHT : ∃ t, mg "WEIGHT" = some (.int 1000 t) := ⟨_, PySem.W.mg_of X G n_WEIGHT⟩
  have g_LETTERS : ∃ t, mg "LETTERS" = some (.str "abcdefghijklmnopqrstuvwxyz" t) := ⟨_, PySem.W.mg_of X G n_LETTERS⟩
  have g_LONGEST : ∃ t, mg "LONGEST" = some (.int 8 t) := ⟨_, PySem.W.mg_of X G n_LONGEST⟩
  have g_MOST : ∃ t, mg "MOST" = some (.int 60 t) := ⟨_, PySem.W.mg_of X G n_MOST⟩
  have g_DEEPEST : ∃ t, mg "DEEPEST" = some (.int 6 t) := ⟨_, PySem.W.mg_of X G n_DEEPEST⟩
  have g_MOST_BOXES : ∃ t, mg "MOST_BOXES" = some (.int 60 t) := ⟨_, PySem.W.mg_of X G n_MOST_BOXES⟩
  have g_MOST_WITHIN : ∃ t, mg "MOST_WITHIN" = some (.int 8 t) := ⟨_, PySem.W.mg_of X G n_MOST_WITHIN⟩
  have ia_Box_Box := kit_sub ic_Box et_Box sz_Box su_Box_Box
  have ia_Leaf_Box := kit_sub ic_Box et_Box sz_Leaf su_Leaf_Box
  have ia_Row_Box := kit_sub ic_Box et_Box sz_Row su_Row_Box
  have ia_Column_Box := kit_sub ic_Box et_Box sz_Column su_Column_Box
  have ia_Pad_Box := kit_sub ic_Box et_Box sz_Pad su_Pad_Box
  have g_Part : mg "Part" = some (.ref C_Part) := PySem.W.mg_of X G aC_Part
  have g_Box : mg "Box" = some (.ref C_Box) := PySem.W.mg_of X G aC_Box
  have g_Leaf : mg "Leaf" = some (.ref C_Leaf) := PySem.W.mg_of X G aC_Leaf
  have g_Row : mg "Row" = some (.ref C_Row) := PySem.W.mg_of X G aC_Row
  have g_Column : mg "Column" = some (.ref C_Column) := PySem.W.mg_of X G aC_Column
  have g_Pad : mg "Pad" = some (.ref C_Pad) := PySem.W.mg_of X G aC_Pad
  have o_Part : OwnC K C_Part := ⟨⟨pg_Part, hd_Part, po_Part, sa_Part⟩, ha_Part, hn_Part, htk_Part, hm_Part⟩
  have n_Part : ∀ f ∈ (["base", "least", "greatest", "grow", "shrink"] : List Str), NoAttr K C_Part f := (List.forall_mem_cons.2 ⟨nf_Part_base, (List.forall_mem_cons.2 ⟨nf_Part_least, (List.forall_mem_cons.2 ⟨nf_Part_greatest, (List.forall_mem_cons.2 ⟨nf_Part_grow, (List.forall_mem_cons.2 ⟨nf_Part_shrink, (fun _ z => nomatch z)⟩)⟩)⟩)⟩)⟩)
  have o_Box : OwnC K C_Box := ⟨⟨pg_Box, hd_Box, po_Box, sa_Box⟩, ha_Box, hn_Box, htk_Box, hm_Box⟩
  have n_Box : ∀ f ∈ (["grow", "shrink", "deep", "many"] : List Str), NoAttr K C_Box f := (List.forall_mem_cons.2 ⟨nf_Box_grow, (List.forall_mem_cons.2 ⟨nf_Box_shrink, (List.forall_mem_cons.2 ⟨nf_Box_deep, (List.forall_mem_cons.2 ⟨nf_Box_many, (fun _ z => nomatch z)⟩)⟩)⟩)⟩)
  have o_Leaf : OwnC K C_Leaf := ⟨⟨pg_Leaf, hd_Leaf, po_Leaf, sa_Leaf⟩, ha_Leaf, hn_Leaf, htk_Leaf, hm_Leaf⟩
  have n_Leaf : ∀ f ∈ (["key", "base", "least", "greatest", "grow", "shrink", "deep", "many"] : List Str), NoAttr K C_Leaf f := (List.forall_mem_cons.2 ⟨nf_Leaf_key, (List.forall_mem_cons.2 ⟨nf_Leaf_base, (List.forall_mem_cons.2 ⟨nf_Leaf_least, (List.forall_mem_cons.2 ⟨nf_Leaf_greatest, (List.forall_mem_cons.2 ⟨nf_Leaf_grow, (List.forall_mem_cons.2 ⟨nf_Leaf_shrink, (List.forall_mem_cons.2 ⟨nf_Leaf_deep, (List.forall_mem_cons.2 ⟨nf_Leaf_many, (fun _ z => nomatch z)⟩)⟩)⟩)⟩)⟩)⟩)⟩)⟩)
  have o_Row : OwnC K C_Row := ⟨⟨pg_Row, hd_Row, po_Row, sa_Row⟩, ha_Row, hn_Row, htk_Row, hm_Row⟩
  have n_Row : ∀ f ∈ (["boxes", "gap", "grow", "shrink", "deep", "many", "three"] : List Str), NoAttr K C_Row f := (List.forall_mem_cons.2 ⟨nf_Row_boxes, (List.forall_mem_cons.2 ⟨nf_Row_gap, (List.forall_mem_cons.2 ⟨nf_Row_grow, (List.forall_mem_cons.2 ⟨nf_Row_shrink, (List.forall_mem_cons.2 ⟨nf_Row_deep, (List.forall_mem_cons.2 ⟨nf_Row_many, (List.forall_mem_cons.2 ⟨nf_Row_three, (fun _ z => nomatch z)⟩)⟩)⟩)⟩)⟩)⟩)⟩)
  have o_Column : OwnC K C_Column := ⟨⟨pg_Column, hd_Column, po_Column, sa_Column⟩, ha_Column, hn_Column, htk_Column, hm_Column⟩
  have n_Column : ∀ f ∈ (["boxes", "gap", "grow", "shrink", "deep", "many", "three"] : List Str), NoAttr K C_Column f := (List.forall_mem_cons.2 ⟨nf_Column_boxes, (List.forall_mem_cons.2 ⟨nf_Column_gap, (List.forall_mem_cons.2 ⟨nf_Column_grow, (List.forall_mem_cons.2 ⟨nf_Column_shrink, (List.forall_mem_cons.2 ⟨nf_Column_deep, (List.forall_mem_cons.2 ⟨nf_Column_many, (List.forall_mem_cons.2 ⟨nf_Column_three, (fun _ z => nomatch z)⟩)⟩)⟩)⟩)⟩)⟩)⟩)
  have o_Pad : OwnC K C_Pad := ⟨⟨pg_Pad, hd_Pad, po_Pad, sa_Pad⟩, ha_Pad, hn_Pad, htk_Pad, hm_Pad⟩
  have n_Pad : ∀ f ∈ (["box", "by", "grow", "shrink", "deep", "many"] : List Str), NoAttr K C_Pad f := (List.forall_mem_cons.2 ⟨nf_Pad_box, (List.forall_mem_cons.2 ⟨nf_Pad_by, (List.forall_mem_cons.2 ⟨nf_Pad_grow, (List.forall_mem_cons.2 ⟨nf_Pad_shrink, (List.forall_mem_cons.2 ⟨nf_Pad_deep, (List.forall_mem_cons.2 ⟨nf_Pad_many, (fun _ z => nomatch z)⟩)⟩)⟩)⟩)⟩)⟩)
  have F_is_whole := fun_mk (st := s_is_whole) l_is_whole cc_is_whole k_is_whole
  have F_is_length := fun_mk (st := s_is_length) l_is_length cc_is_length k_is_length
  have F_is_small := fun_mk (st := s_is_small) l_is_small cc_is_small k_is_small
  have F_is_weight := fun_mk (st := s_is_weight) l_is_weight cc_is_weight k_is_weight
  have F_is_name := fun_mk (st := s_is_name) l_is_name cc_is_name k_is_name
  have F_divisor := fun_mk (st := s_divisor) l_divisor cc_divisor k_divisor
  have F_is_fraction := fun_mk (st := s_is_fraction) l_is_fraction cc_is_fraction k_is_fraction
  have F_fraction := funD_mk (st := s_fraction) (dvs := [.int 1]) l_fraction cc_fraction k_fraction dt_fraction (.cons ⟨_, rfl⟩ .nil) (by simp)
  have F_plus := fun_mk (st := s_plus) l_plus cc_plus k_plus
  have F_minus := fun_mk (st := s_minus) l_minus cc_minus k_minus
  have F_together := fun_mk (st := s_together) l_together cc_together k_together
  have F_is_below := fun_mk (st := s_is_below) l_is_below cc_is_below k_is_below
  have F_floor_of := fun_mk (st := s_floor_of) l_floor_of cc_floor_of k_floor_of
  have F_Part___init__ := funD_mk (st := s_Part___init__) (dvs := [.int 0, .non, .int 1, .int 1]) l_Part___init__ cc_Part___init__ k_Part___init__ dt_Part___init__ (.cons ⟨_, rfl⟩ (.cons rfl (.cons ⟨_, rfl⟩ (.cons ⟨_, rfl⟩ .nil)))) (by simp)
  have F_Part_size_at := fun_mk (st := s_Part_size_at) l_Part_size_at cc_Part_size_at k_Part_size_at
  have F_edges_of := fun_mk (st := s_edges_of) l_edges_of cc_edges_of k_edges_of
  have F_wholes_of := fun_mk (st := s_wholes_of) l_wholes_of cc_wholes_of k_wholes_of
  have F_look_at_parts := fun_mk (st := s_look_at_parts) l_look_at_parts cc_look_at_parts k_look_at_parts
  have F_price_for := fun_mk (st := s_price_for) l_price_for cc_price_for k_price_for
  have F_price_of := fun_mk (st := s_price_of) l_price_of cc_price_of k_price_of
  have F_end_of := fun_mk (st := s_end_of) l_end_of cc_end_of k_end_of
  have F_share_of := fun_mk (st := s_share_of) l_share_of cc_share_of k_share_of
  have F_share := fun_mk (st := s_share) l_share cc_share k_share
  have F_whole_share := fun_mk (st := s_whole_share) l_whole_share cc_whole_share k_whole_share
  have F_look_weights := fun_mk (st := s_look_weights) l_look_weights cc_look_weights k_look_weights
  have F_Box___init__ := funD_mk (st := s_Box___init__) (dvs := [.int 1, .int 1]) l_Box___init__ cc_Box___init__ k_Box___init__ dt_Box___init__ (.cons ⟨_, rfl⟩ (.cons ⟨_, rfl⟩ .nil)) (by simp)
  have F_Box_across := fun_mk (st := s_Box_across) l_Box_across cc_Box_across k_Box_across
  have F_Box_wides_for := fun_mk (st := s_Box_wides_for) l_Box_wides_for cc_Box_wides_for k_Box_wides_for
  have F_look_boxes := fun_mk (st := s_look_boxes) l_look_boxes cc_look_boxes k_look_boxes
  have F_size_around := fun_mk (st := s_size_around) l_size_around cc_size_around k_size_around
  have F_gaps_of := fun_mk (st := s_gaps_of) l_gaps_of cc_gaps_of k_gaps_of
  have F_held_wide := fun_mk (st := s_held_wide) l_held_wide cc_held_wide k_held_wide
  have F_Column_across := fun_mk (st := s_Column_across) l_Column_across cc_Column_across k_Column_across
  have F_Row_across := fun_mk (st := s_Row_across) l_Row_across cc_Row_across k_Row_across
  have F_Leaf_across := fun_mk (st := s_Leaf_across) l_Leaf_across cc_Leaf_across k_Leaf_across
  have F_Pad_across := fun_mk (st := s_Pad_across) l_Pad_across cc_Pad_across k_Pad_across
  have F_row_across := fun_mk (st := s_row_across) l_row_across cc_row_across k_row_across
  have F_column_across := fun_mk (st := s_column_across) l_column_across cc_column_across k_column_across
  have F_Leaf___init__ := funD_mk (st := s_Leaf___init__) (dvs := [.int 0, .non, .int 1, .int 1]) l_Leaf___init__ cc_Leaf___init__ k_Leaf___init__ dt_Leaf___init__ (.cons ⟨_, rfl⟩ (.cons rfl (.cons ⟨_, rfl⟩ (.cons ⟨_, rfl⟩ .nil)))) (by simp)
  have F_Row___init__ := funD_mk (st := s_Row___init__) (dvs := [.int 0, .int 1, .int 1]) l_Row___init__ cc_Row___init__ k_Row___init__ dt_Row___init__ (.cons ⟨_, rfl⟩ (.cons ⟨_, rfl⟩ (.cons ⟨_, rfl⟩ .nil))) (by simp)
  have F_Row_wides_for := fun_mk (st := s_Row_wides_for) l_Row_wides_for cc_Row_wides_for k_Row_wides_for
  have F_Column___init__ := funD_mk (st := s_Column___init__) (dvs := [.int 0, .int 1, .int 1]) l_Column___init__ cc_Column___init__ k_Column___init__ dt_Column___init__ (.cons ⟨_, rfl⟩ (.cons ⟨_, rfl⟩ (.cons ⟨_, rfl⟩ .nil))) (by simp)
  have F_Column_wides_for := fun_mk (st := s_Column_wides_for) l_Column_wides_for cc_Column_wides_for k_Column_wides_for
  have F_Pad___init__ := funD_mk (st := s_Pad___init__) (dvs := [.int 1, .int 1]) l_Pad___init__ cc_Pad___init__ k_Pad___init__ dt_Pad___init__ (.cons ⟨_, rfl⟩ (.cons ⟨_, rfl⟩ .nil)) (by simp)
  have F_Pad_wides_for := fun_mk (st := s_Pad_wides_for) l_Pad_wides_for cc_Pad_wides_for k_Pad_wides_for
  have F__law_bag := fun_mk (st := s__law_bag) l__law_bag cc__law_bag k__law_bag
  have F__law_take := fun_mk (st := s__law_take) l__law_take cc__law_take k__law_take
  have F__law_length := fun_mk (st := s__law_length) l__law_length cc__law_length k__law_length
  have F__law_weight := fun_mk (st := s__law_weight) l__law_weight cc__law_weight k__law_weight
  have F__law_key := fun_mk (st := s__law_key) l__law_key cc__law_key k__law_key
  have F__law_leaf := fun_mk (st := s__law_leaf) l__law_leaf cc__law_leaf k__law_leaf
  have F__law_tree := fun_mk (st := s__law_tree) l__law_tree cc__law_tree k__law_tree
  have F__law_made := fun_mk (st := s__law_made) l__law_made cc__law_made k__law_made
  have F__law_three := fun_mk (st := s__law_three) l__law_three cc__law_three k__law_three
  have F__law_across := fun_mk (st := s__law_across) l__law_across cc__law_across k__law_across
  have F__law_wide := fun_mk (st := s__law_wide) l__law_wide cc__law_wide k__law_wide
  have F__law_whole := fun_mk (st := s__law_whole) l__law_whole cc__law_whole k__law_whole
  have F__law_wholes := fun_mk (st := s__law_wholes) l__law_wholes cc__law_wholes k__law_wholes
  have F__law_floors := fun_mk (st := s__law_floors) l__law_floors cc__law_floors k__law_floors
  have F__law_ends := fun_mk (st := s__law_ends) l__law_ends cc__law_ends k__law_ends
  have F__law_due := fun_mk (st := s__law_due) l__law_due cc__law_due k__law_due
  have F__law_wides := fun_mk (st := s__law_wides) l__law_wides cc__law_wides k__law_wides
  have F_Leaf_wides_for := fun_mk (st := s_Box_wides_for) l_Leaf_wides_for cc_Leaf_wides_for k_Leaf_wides_for
  have F_law := fun_mk (st := s_law) l_law cc_law k_law
  refine ⟨PySem.W.fnOf "law" "law" (defArgs s_law) (defBody s_law) (defScope s_law) .none kV_law dc_law pm_law an_law cd_law ct_law, fun s v => .of_eq rfl, fun base _ _ => ?_⟩
  have c_is_whole : Cal l.prog w K mg base "is_whole" 1 ["thing"] [] (sp_is_whole K) := ⟨_, _, [], ok_is_whole F_is_whole B , PySem.W.mg_of X G a_is_whole, k_is_whole, F_is_whole.binds (ps := ["thing"]) fun _ _ _ _ _ _ us hl => match us, hl with | [_], _ => rfl, .nil⟩
  have c_is_length : Cal l.prog w K mg base "is_length" 2 ["thing"] [] (sp_is_length K) := ⟨_, _, [], ok_is_length F_is_length B c_is_whole g_LENGTH, PySem.W.mg_of X G a_is_length, k_is_length, F_is_length.binds (ps := ["thing"]) fun _ _ _ _ _ _ us hl => match us, hl with | [_], _ => rfl, .nil⟩
  have c_is_small : Cal l.prog w K mg base "is_small" 2 ["thing"] [] (sp_is_small K) := ⟨_, _, [], ok_is_small F_is_small B c_is_whole g_SMALL, PySem.W.mg_of X G a_is_small, k_is_small, F_is_small.binds (ps := ["thing"]) fun _ _ _ _ _ _ us hl => match us, hl with | [_], _ => rfl, .nil⟩
  have c_is_weight : Cal l.prog w K mg base "is_weight" 2 ["thing"] [] (sp_is_weight K) := ⟨_, _, [], ok_is_weight F_is_weight B c_is_whole g_WEIGHT, PySem.W.mg_of X G a_is_weight, k_is_weight, F_is_weight.binds (ps := ["thing"]) fun _ _ _ _ _ _ us hl => match us, hl with | [_], _ => rfl, .nil⟩
  have c_is_name : Cal l.prog w K mg base "is_name" 1 ["thing"] [] sp_is_name := ⟨_, _, [], ok_is_name F_is_name B g_LONGEST g_LETTERS, PySem.W.mg_of X G a_is_name, k_is_name, F_is_name.binds (ps := ["thing"]) fun _ _ _ _ _ _ us hl => match us, hl with | [_], _ => rfl, .nil⟩
  have c_divisor : Cal l.prog w K mg base "divisor" 1 ["one", "other"] [] sp_divisor := ⟨_, _, [], ok_divisor F_divisor B , PySem.W.mg_of X G a_divisor, k_divisor, F_divisor.binds (ps := ["one", "other"]) fun _ _ _ _ _ _ us hl => match us, hl with | [_, _], _ => rfl, .nil⟩
  have c_is_fraction : Cal l.prog w K mg base "is_fraction" 2 ["thing"] [] sp_is_fraction := ⟨_, _, [], ok_is_fraction F_is_fraction B c_is_whole c_divisor, PySem.W.mg_of X G a_is_fraction, k_is_fraction, F_is_fraction.binds (ps := ["thing"]) fun _ _ _ _ _ _ us hl => match us, hl with | [_], _ => rfl, .nil⟩
  have ok_fraction_ := ok_fraction F_fraction B c_divisor
  have c_fraction_at1 : Cal l.prog w K mg base "fraction" 2 ["top", "bottom"] [.int 1] sp_fraction := by
    obtain ⟨ds, hv, hb⟩ := F_fraction.binds1 (ps := ["top", "bottom"]) 1 0 (by simp) rfl (fun T kV doc pm an cdv ct us its h1 h2 => match us, its, h1, h2 with | [_], [_], _, _ => ⟨_, rfl, rfl⟩)
    exact ⟨_, _, ds, ok_fraction_, PySem.W.mg_of X G a_fraction, k_fraction, hb, hv⟩
  have c_fraction : Cal l.prog w K mg base "fraction" 2 ["top", "bottom"] [] sp_fraction := by
    obtain ⟨ds, hv, hb⟩ := F_fraction.binds1 (ps := ["top", "bottom"]) 2 1 (by simp) rfl (fun T kV doc pm an cdv ct us its h1 h2 => match us, its, h1, h2 with | [_, _], [_], _, _ => ⟨_, rfl, rfl⟩)
    exact ⟨_, _, ds, ok_fraction_, PySem.W.mg_of X G a_fraction, k_fraction, hb, hv⟩
  have c_plus : Cal l.prog w K mg base "plus" 3 ["one", "other"] [] sp_plus := ⟨_, _, [], ok_plus F_plus B c_fraction, PySem.W.mg_of X G a_plus, k_plus, F_plus.binds (ps := ["one", "other"]) fun _ _ _ _ _ _ us hl => match us, hl with | [_, _], _ => rfl, .nil⟩
  have c_minus : Cal l.prog w K mg base "minus" 3 ["one", "other"] [] sp_minus := ⟨_, _, [], ok_minus F_minus B c_fraction, PySem.W.mg_of X G a_minus, k_minus, F_minus.binds (ps := ["one", "other"]) fun _ _ _ _ _ _ us hl => match us, hl with | [_, _], _ => rfl, .nil⟩
  have c_together : Cal l.prog w K mg base "together" 4 ["fractions"] [] sp_together := ⟨_, _, [], ok_together F_together B c_plus, PySem.W.mg_of X G a_together, k_together, F_together.binds (ps := ["fractions"]) fun _ _ _ _ _ _ us hl => match us, hl with | [_], _ => rfl, .nil⟩
  have c_is_below : Cal l.prog w K mg base "is_below" 1 ["one", "other"] [] sp_is_below := ⟨_, _, [], ok_is_below F_is_below B , PySem.W.mg_of X G a_is_below, k_is_below, F_is_below.binds (ps := ["one", "other"]) fun _ _ _ _ _ _ us hl => match us, hl with | [_, _], _ => rfl, .nil⟩
  have c_floor_of : Cal l.prog w K mg base "floor_of" 1 ["one"] [] sp_floor_of := ⟨_, _, [], ok_floor_of F_floor_of B , PySem.W.mg_of X G a_floor_of, k_floor_of, F_floor_of.binds (ps := ["one"]) fun _ _ _ _ _ _ us hl => match us, hl with | [_], _ => rfl, .nil⟩
  have ok_Part___init___ := ok_Part___init__ F_Part___init__ B c_is_length c_is_weight o_Part n_Part
  have m_Part : Mak l.prog w K mg base "Part" C_Part 3 ["self", "base", "least", "greatest", "grow", "shrink"] [] (sp_Part___init__ C_Part) := by
    obtain ⟨ds, hv, hb⟩ := F_Part___init__.binds1 (ps := ["self", "base", "least", "greatest", "grow", "shrink"]) 6 4 (by simp) rfl (fun T kV doc pm an cdv ct us its h1 h2 => match us, its, h1, h2 with | [_, _, _, _, _, _], [_, _, _, _], _, _ => ⟨_, rfl, rfl⟩)
    exact ⟨_, _, ds, ⟨mk_Part, a_Part___init__, i_Part___init__, kc_Part⟩, ok_Part___init___, PySem.W.mg_of X G aC_Part, hb, hv⟩
  have t_Part_size_at : Met l.prog w K mg base "size_at" C_Part 3 ["self", "price"] [] (sp_Part_size_at C_Part) := ⟨_, _, [], o_Part.cl, ⟨a_Part_size_at, i_Part_size_at, k_Part_size_at⟩, ok_Part_size_at F_Part_size_at B c_fraction c_is_below o_Part n_Part, F_Part_size_at.binds (ps := ["self", "price"]) fun _ _ _ _ _ _ us hl => match us, hl with | [_, _], _ => rfl, .nil⟩
  have c_edges_of : Cal l.prog w K mg base "edges_of" 4 ["sizes"] [] sp_edges_of := ⟨_, _, [], ok_edges_of F_edges_of B c_plus c_floor_of, PySem.W.mg_of X G a_edges_of, k_edges_of, F_edges_of.binds (ps := ["sizes"]) fun _ _ _ _ _ _ us hl => match us, hl with | [_], _ => rfl, .nil⟩
  have c_wholes_of : Cal l.prog w K mg base "wholes_of" 5 ["sizes"] [] sp_wholes_of := ⟨_, _, [], ok_wholes_of F_wholes_of B c_edges_of, PySem.W.mg_of X G a_wholes_of, k_wholes_of, F_wholes_of.binds (ps := ["sizes"]) fun _ _ _ _ _ _ us hl => match us, hl with | [_], _ => rfl, .nil⟩
  have c_look_at_parts : Cal l.prog w K mg base "look_at_parts" 1 ["parts"] [] (sp_look_at_parts C_Part) := ⟨_, _, [], ok_look_at_parts F_look_at_parts B o_Part n_Part g_MOST g_Part, PySem.W.mg_of X G a_look_at_parts, k_look_at_parts, F_look_at_parts.binds (ps := ["parts"]) fun _ _ _ _ _ _ us hl => match us, hl with | [_], _ => rfl, .nil⟩
  have c_price_for : Cal l.prog w K mg base "price_for" 4 ["ways", "amount"] [] sp_price_for := ⟨_, _, [], ok_price_for F_price_for B c_fraction c_minus, PySem.W.mg_of X G a_price_for, k_price_for, F_price_for.binds (ps := ["ways", "amount"]) fun _ _ _ _ _ _ us hl => match us, hl with | [_, _], _ => rfl, .nil⟩
  have c_price_of : Cal l.prog w K mg base "price_of" 5 ["parts", "room"] [] (sp_price_of C_Part) := ⟨_, _, [], ok_price_of F_price_of B c_minus c_price_for o_Part n_Part, PySem.W.mg_of X G a_price_of, k_price_of, F_price_of.binds (ps := ["parts", "room"]) fun _ _ _ _ _ _ us hl => match us, hl with | [_, _], _ => rfl, .nil⟩
  have c_end_of : Cal l.prog w K mg base "end_of" 1 ["part", "up"] [] (sp_end_of C_Part) := ⟨_, _, [], ok_end_of F_end_of B o_Part n_Part, PySem.W.mg_of X G a_end_of, k_end_of, F_end_of.binds (ps := ["part", "up"]) fun _ _ _ _ _ _ us hl => match us, hl with | [_, _], _ => rfl, .nil⟩
  have c_share_of : Cal l.prog w K mg base "share_of" 6 ["parts", "room"] [] (sp_share_of C_Part) := ⟨_, _, [], ok_share_of F_share_of B c_price_of c_end_of c_minus c_together t_Part_size_at o_Part n_Part, PySem.W.mg_of X G a_share_of, k_share_of, F_share_of.binds (ps := ["parts", "room"]) fun _ _ _ _ _ _ us hl => match us, hl with | [_, _], _ => rfl, .nil⟩
  have c_share : Cal l.prog w K mg base "share" 7 ["parts", "room"] [] (sp_share C_Part) := ⟨_, _, [], ok_share F_share B c_look_at_parts c_is_fraction c_share_of o_Part n_Part, PySem.W.mg_of X G a_share, k_share, F_share.binds (ps := ["parts", "room"]) fun _ _ _ _ _ _ us hl => match us, hl with | [_, _], _ => rfl, .nil⟩
  have c_whole_share : Cal l.prog w K mg base "whole_share" 7 ["parts", "room"] [] (sp_whole_share C_Part) := ⟨_, _, [], ok_whole_share F_whole_share B c_look_at_parts c_is_length c_wholes_of c_share_of o_Part n_Part, PySem.W.mg_of X G a_whole_share, k_whole_share, F_whole_share.binds (ps := ["parts", "room"]) fun _ _ _ _ _ _ us hl => match us, hl with | [_, _], _ => rfl, .nil⟩
  have c_look_weights : Cal l.prog w K mg base "look_weights" 3 ["grow", "shrink", "at"] [] sp_look_weights := ⟨_, _, [], ok_look_weights F_look_weights B c_is_weight, PySem.W.mg_of X G a_look_weights, k_look_weights, F_look_weights.binds (ps := ["grow", "shrink", "at"]) fun _ _ _ _ _ _ us hl => match us, hl with | [_, _, _], _ => rfl, .nil⟩
  have ok_Box___init___ := ok_Box___init__ F_Box___init__ B c_look_weights o_Box n_Box
  have m_Box : Mak l.prog w K mg base "Box" C_Box 4 ["self", "grow", "shrink"] [] (sp_Box___init__ C_Box) := by
    obtain ⟨ds, hv, hb⟩ := F_Box___init__.binds1 (ps := ["self", "grow", "shrink"]) 3 2 (by simp) rfl (fun T kV doc pm an cdv ct us its h1 h2 => match us, its, h1, h2 with | [_, _, _], [_, _], _, _ => ⟨_, rfl, rfl⟩)
    exact ⟨_, _, ds, ⟨mk_Box, a_Box___init__, i_Box___init__, kc_Box⟩, ok_Box___init___, PySem.W.mg_of X G aC_Box, hb, hv⟩
  have t_Box_across : Met l.prog w K mg base "across" C_Box 1 ["self"] [] sp_Box_across := ⟨_, _, [], o_Box.cl, ⟨a_Box_across, i_Box_across, k_Box_across⟩, ok_Box_across F_Box_across B , F_Box_across.binds (ps := ["self"]) fun _ _ _ _ _ _ us hl => match us, hl with | [_], _ => rfl, .nil⟩
  have t_Box_wides_for : Met l.prog w K mg base "wides_for" C_Box 1 ["self", "wide"] [] sp_Box_wides_for := ⟨_, _, [], o_Box.cl, ⟨a_Box_wides_for, i_Box_wides_for, k_Box_wides_for⟩, ok_Box_wides_for F_Box_wides_for B , F_Box_wides_for.binds (ps := ["self", "wide"]) fun _ _ _ _ _ _ us hl => match us, hl with | [_, _], _ => rfl, .nil⟩
  have c_look_boxes : Cal l.prog w K mg base "look_boxes" 1 ["boxes"] [] (sp_look_boxes C_Box C_Leaf C_Row C_Column C_Pad) := ⟨_, _, [], ok_look_boxes F_look_boxes B o_Box n_Box o_Leaf n_Leaf o_Row n_Row o_Column n_Column o_Pad n_Pad g_MOST_WITHIN g_Box ia_Box_Box ia_Leaf_Box ia_Row_Box ia_Column_Box ia_Pad_Box, PySem.W.mg_of X G a_look_boxes, k_look_boxes, F_look_boxes.binds (ps := ["boxes"]) fun _ _ _ _ _ _ us hl => match us, hl with | [_], _ => rfl, .nil⟩
  have c_size_around : Cal l.prog w K mg base "size_around" 1 ["boxes"] [] (sp_size_around C_Box C_Leaf C_Row C_Column C_Pad) := ⟨_, _, [], ok_size_around F_size_around B o_Box n_Box o_Leaf n_Leaf o_Row n_Row o_Column n_Column o_Pad n_Pad g_DEEPEST g_MOST_BOXES, PySem.W.mg_of X G a_size_around, k_size_around, F_size_around.binds (ps := ["boxes"]) fun _ _ _ _ _ _ us hl => match us, hl with | [_], _ => rfl, .nil⟩
  have c_gaps_of : Cal l.prog w K mg base "gaps_of" 1 ["boxes", "gap"] [] sp_gaps_of := ⟨_, _, [], ok_gaps_of F_gaps_of B , PySem.W.mg_of X G a_gaps_of, k_gaps_of, F_gaps_of.binds (ps := ["boxes", "gap"]) fun _ _ _ _ _ _ us hl => match us, hl with | [_, _], _ => rfl, .nil⟩
  have c_held_wide : Cal l.prog w K mg base "held_wide" 1 ["three", "wide"] [] sp_held_wide := ⟨_, _, [], ok_held_wide F_held_wide B , PySem.W.mg_of X G a_held_wide, k_held_wide, F_held_wide.binds (ps := ["three", "wide"]) fun _ _ _ _ _ _ us hl => match us, hl with | [_, _], _ => rfl, .nil⟩
  have t_Column_across : Met l.prog w K mg base "across" C_Column 1 ["self"] [] (sp_Column_across C_Box C_Leaf C_Row C_Column C_Pad) := ⟨_, _, [], o_Column.cl, ⟨a_Column_across, i_Column_across, k_Column_across⟩, ok_Column_across F_Column_across B o_Column n_Column, F_Column_across.binds (ps := ["self"]) fun _ _ _ _ _ _ us hl => match us, hl with | [_], _ => rfl, .nil⟩
  have t_Row_across : Met l.prog w K mg base "across" C_Row 1 ["self"] [] (sp_Row_across C_Box C_Leaf C_Row C_Column C_Pad) := ⟨_, _, [], o_Row.cl, ⟨a_Row_across, i_Row_across, k_Row_across⟩, ok_Row_across F_Row_across B o_Row n_Row, F_Row_across.binds (ps := ["self"]) fun _ _ _ _ _ _ us hl => match us, hl with | [_], _ => rfl, .nil⟩
  have t_Leaf_across : Met l.prog w K mg base "across" C_Leaf 1 ["self"] [] (sp_Leaf_across C_Box C_Leaf C_Row C_Column C_Pad) := ⟨_, _, [], o_Leaf.cl, ⟨a_Leaf_across, i_Leaf_across, k_Leaf_across⟩, ok_Leaf_across F_Leaf_across B o_Leaf n_Leaf, F_Leaf_across.binds (ps := ["self"]) fun _ _ _ _ _ _ us hl => match us, hl with | [_], _ => rfl, .nil⟩
  have r_Pad_across := @rec_of l.prog w K mg base 2 _ _ _ (fun n => (sp_Pad_across C_Box C_Leaf C_Row C_Column C_Pad n)) (ok0_Pad_across F_Pad_across) fun n ih => ok_Pad_across F_Pad_across B t_Column_across t_Row_across t_Leaf_across t_Box_across o_Pad n_Pad ⟨_, _, [], o_Pad.cl, ⟨a_Pad_across, i_Pad_across, k_Pad_across⟩, ih, F_Pad_across.binds (ps := ["self"]) fun _ _ _ _ _ _ us hl => match us, hl with | [_], _ => rfl, .nil⟩
  have t_Pad_across : Met l.prog w K mg base "across" C_Pad 8 ["self"] [] (sp_Pad_across C_Box C_Leaf C_Row C_Column C_Pad 6) := ⟨_, _, [], o_Pad.cl, ⟨a_Pad_across, i_Pad_across, k_Pad_across⟩, r_Pad_across 6, F_Pad_across.binds (ps := ["self"]) fun _ _ _ _ _ _ us hl => match us, hl with | [_], _ => rfl, .nil⟩
  have c_row_across : Cal l.prog w K mg base "row_across" 9 ["boxes", "gap"] [] (sp_row_across C_Box C_Leaf C_Row C_Column C_Pad) := ⟨_, _, [], ok_row_across F_row_across B c_gaps_of t_Pad_across t_Column_across t_Row_across t_Leaf_across t_Box_across o_Box n_Box o_Leaf n_Leaf o_Row n_Row o_Column n_Column o_Pad n_Pad, PySem.W.mg_of X G a_row_across, k_row_across, F_row_across.binds (ps := ["boxes", "gap"]) fun _ _ _ _ _ _ us hl => match us, hl with | [_, _], _ => rfl, .nil⟩
  have c_column_across : Cal l.prog w K mg base "column_across" 9 ["boxes"] [] (sp_column_across C_Box C_Leaf C_Row C_Column C_Pad) := ⟨_, _, [], ok_column_across F_column_across B t_Pad_across t_Column_across t_Row_across t_Leaf_across t_Box_across o_Box n_Box o_Leaf n_Leaf o_Row n_Row o_Column n_Column o_Pad n_Pad, PySem.W.mg_of X G a_column_across, k_column_across, F_column_across.binds (ps := ["boxes"]) fun _ _ _ _ _ _ us hl => match us, hl with | [_], _ => rfl, .nil⟩
  have ok_Leaf___init___ := ok_Leaf___init__ F_Leaf___init__ B c_is_name c_is_small c_look_weights o_Leaf n_Leaf
  have m_Leaf : Mak l.prog w K mg base "Leaf" C_Leaf 4 ["self", "key", "base", "least", "greatest", "grow", "shrink"] [] (sp_Leaf___init__ C_Leaf) := by
    obtain ⟨ds, hv, hb⟩ := F_Leaf___init__.binds1 (ps := ["self", "key", "base", "least", "greatest", "grow", "shrink"]) 7 4 (by simp) rfl (fun T kV doc pm an cdv ct us its h1 h2 => match us, its, h1, h2 with | [_, _, _, _, _, _, _], [_, _, _, _], _, _ => ⟨_, rfl, rfl⟩)
    exact ⟨_, _, ds, ⟨mk_Leaf, a_Leaf___init__, i_Leaf___init__, kc_Leaf⟩, ok_Leaf___init___, PySem.W.mg_of X G aC_Leaf, hb, hv⟩
  have ok_Row___init___ := ok_Row___init__ F_Row___init__ B c_look_boxes c_is_small c_look_weights c_size_around c_row_across o_Box n_Box o_Leaf n_Leaf o_Row n_Row o_Column n_Column o_Pad n_Pad
  have m_Row : Mak l.prog w K mg base "Row" C_Row 10 ["self", "boxes", "gap", "grow", "shrink"] [] (sp_Row___init__ C_Box C_Leaf C_Row C_Column C_Pad) := by
    obtain ⟨ds, hv, hb⟩ := F_Row___init__.binds1 (ps := ["self", "boxes", "gap", "grow", "shrink"]) 5 3 (by simp) rfl (fun T kV doc pm an cdv ct us its h1 h2 => match us, its, h1, h2 with | [_, _, _, _, _], [_, _, _], _, _ => ⟨_, rfl, rfl⟩)
    exact ⟨_, _, ds, ⟨mk_Row, a_Row___init__, i_Row___init__, kc_Row⟩, ok_Row___init___, PySem.W.mg_of X G aC_Row, hb, hv⟩
  have t_Row_wides_for : Met l.prog w K mg base "wides_for" C_Row 9 ["self", "wide"] [] (sp_Row_wides_for C_Part C_Box C_Leaf C_Row C_Column C_Pad) := ⟨_, _, [], o_Row.cl, ⟨a_Row_wides_for, i_Row_wides_for, k_Row_wides_for⟩, ok_Row_wides_for F_Row_wides_for B c_whole_share c_gaps_of m_Part t_Pad_across t_Column_across t_Row_across t_Leaf_across t_Box_across o_Part n_Part o_Box n_Box o_Leaf n_Leaf o_Row n_Row o_Column n_Column o_Pad n_Pad, F_Row_wides_for.binds (ps := ["self", "wide"]) fun _ _ _ _ _ _ us hl => match us, hl with | [_, _], _ => rfl, .nil⟩
  have ok_Column___init___ := ok_Column___init__ F_Column___init__ B c_look_boxes c_is_small c_look_weights c_size_around c_column_across o_Box n_Box o_Leaf n_Leaf o_Row n_Row o_Column n_Column o_Pad n_Pad
  have m_Column : Mak l.prog w K mg base "Column" C_Column 10 ["self", "boxes", "gap", "grow", "shrink"] [] (sp_Column___init__ C_Box C_Leaf C_Row C_Column C_Pad) := by
    obtain ⟨ds, hv, hb⟩ := F_Column___init__.binds1 (ps := ["self", "boxes", "gap", "grow", "shrink"]) 5 3 (by simp) rfl (fun T kV doc pm an cdv ct us its h1 h2 => match us, its, h1, h2 with | [_, _, _, _, _], [_, _, _], _, _ => ⟨_, rfl, rfl⟩)
    exact ⟨_, _, ds, ⟨mk_Column, a_Column___init__, i_Column___init__, kc_Column⟩, ok_Column___init___, PySem.W.mg_of X G aC_Column, hb, hv⟩
  have t_Column_wides_for : Met l.prog w K mg base "wides_for" C_Column 9 ["self", "wide"] [] (sp_Column_wides_for C_Box C_Leaf C_Row C_Column C_Pad) := ⟨_, _, [], o_Column.cl, ⟨a_Column_wides_for, i_Column_wides_for, k_Column_wides_for⟩, ok_Column_wides_for F_Column_wides_for B c_held_wide t_Pad_across t_Column_across t_Row_across t_Leaf_across t_Box_across o_Box n_Box o_Leaf n_Leaf o_Row n_Row o_Column n_Column o_Pad n_Pad, F_Column_wides_for.binds (ps := ["self", "wide"]) fun _ _ _ _ _ _ us hl => match us, hl with | [_, _], _ => rfl, .nil⟩
  have ok_Pad___init___ := ok_Pad___init__ F_Pad___init__ B c_is_small c_look_weights c_size_around o_Box n_Box o_Leaf n_Leaf o_Row n_Row o_Column n_Column o_Pad n_Pad g_Box ia_Box_Box ia_Leaf_Box ia_Row_Box ia_Column_Box ia_Pad_Box
  have m_Pad : Mak l.prog w K mg base "Pad" C_Pad 4 ["self", "box", "by", "grow", "shrink"] [] (sp_Pad___init__ C_Box C_Leaf C_Row C_Column C_Pad) := by
    obtain ⟨ds, hv, hb⟩ := F_Pad___init__.binds1 (ps := ["self", "box", "by", "grow", "shrink"]) 5 2 (by simp) rfl (fun T kV doc pm an cdv ct us its h1 h2 => match us, its, h1, h2 with | [_, _, _, _, _], [_, _], _, _ => ⟨_, rfl, rfl⟩)
    exact ⟨_, _, ds, ⟨mk_Pad, a_Pad___init__, i_Pad___init__, kc_Pad⟩, ok_Pad___init___, PySem.W.mg_of X G aC_Pad, hb, hv⟩
  have t_Pad_wides_for : Met l.prog w K mg base "wides_for" C_Pad 9 ["self", "wide"] [] (sp_Pad_wides_for C_Box C_Leaf C_Row C_Column C_Pad) := ⟨_, _, [], o_Pad.cl, ⟨a_Pad_wides_for, i_Pad_wides_for, k_Pad_wides_for⟩, ok_Pad_wides_for F_Pad_wides_for B c_held_wide t_Pad_across t_Column_across t_Row_across t_Leaf_across t_Box_across o_Box n_Box o_Leaf n_Leaf o_Row n_Row o_Column n_Column o_Pad n_Pad, F_Pad_wides_for.binds (ps := ["self", "wide"]) fun _ _ _ _ _ _ us hl => match us, hl with | [_, _], _ => rfl, .nil⟩
  have c__law_bag : Cal l.prog w K mg base "_law_bag" 1 ["_law_script"] [] (sp__law_bag K) := ⟨_, _, [], ok__law_bag F__law_bag B , PySem.W.mg_of X G a__law_bag, k__law_bag, F__law_bag.binds (ps := ["_law_script"]) fun _ _ _ _ _ _ us hl => match us, hl with | [_], _ => rfl, .nil⟩
  have c__law_take : Cal l.prog w K mg base "_law_take" 1 ["_law_bag_here", "_law_many"] [] sp__law_take := ⟨_, _, [], ok__law_take F__law_take B , PySem.W.mg_of X G a__law_take, k__law_take, F__law_take.binds (ps := ["_law_bag_here", "_law_many"]) fun _ _ _ _ _ _ us hl => match us, hl with | [_, _], _ => rfl, .nil⟩
  have c__law_length : Cal l.prog w K mg base "_law_length" 2 ["_law_bag_here", "_law_most"] [] sp__law_length := ⟨_, _, [], ok__law_length F__law_length B c__law_take, PySem.W.mg_of X G a__law_length, k__law_length, F__law_length.binds (ps := ["_law_bag_here", "_law_most"]) fun _ _ _ _ _ _ us hl => match us, hl with | [_, _], _ => rfl, .nil⟩
  have c__law_weight : Cal l.prog w K mg base "_law_weight" 2 ["_law_bag_here"] [] sp__law_weight := ⟨_, _, [], ok__law_weight F__law_weight B c__law_take, PySem.W.mg_of X G a__law_weight, k__law_weight, F__law_weight.binds (ps := ["_law_bag_here"]) fun _ _ _ _ _ _ us hl => match us, hl with | [_], _ => rfl, .nil⟩
  have c__law_key : Cal l.prog w K mg base "_law_key" 2 ["_law_bag_here"] [] sp__law_key := ⟨_, _, [], ok__law_key F__law_key B c__law_take, PySem.W.mg_of X G a__law_key, k__law_key, F__law_key.binds (ps := ["_law_bag_here"]) fun _ _ _ _ _ _ us hl => match us, hl with | [_], _ => rfl, .nil⟩
  have c__law_leaf : Cal l.prog w K mg base "_law_leaf" 3 ["_law_bag_here"] [] sp__law_leaf := ⟨_, _, [], ok__law_leaf F__law_leaf B c__law_length c__law_take c__law_weight c__law_key, PySem.W.mg_of X G a__law_leaf, k__law_leaf, F__law_leaf.binds (ps := ["_law_bag_here"]) fun _ _ _ _ _ _ us hl => match us, hl with | [_], _ => rfl, .nil⟩
  have r__law_tree := @rec_of l.prog w K mg base 4 _ _ _ (fun n => (sp__law_tree n)) (ok0__law_tree F__law_tree) fun n ih => ok__law_tree F__law_tree B c__law_weight c__law_leaf c__law_take c__law_length ⟨_, _, [], ih, PySem.W.mg_of X G a__law_tree, k__law_tree, F__law_tree.binds (ps := ["_law_bag_here", "_law_deep", "_law_room", "_law_kind"]) fun _ _ _ _ _ _ us hl => match us, hl with | [_, _, _, _], _ => rfl, .nil⟩
  have c__law_tree : Cal l.prog w K mg base "_law_tree" 10 ["_law_bag_here", "_law_deep", "_law_room", "_law_kind"] [] (sp__law_tree 6) := ⟨_, _, [], r__law_tree 6, PySem.W.mg_of X G a__law_tree, k__law_tree, F__law_tree.binds (ps := ["_law_bag_here", "_law_deep", "_law_room", "_law_kind"]) fun _ _ _ _ _ _ us hl => match us, hl with | [_, _, _, _], _ => rfl, .nil⟩
  have r__law_made := @rec_of l.prog w K mg base 12 _ _ _ (fun n => (sp__law_made C_Box C_Leaf C_Row C_Column C_Pad n)) (ok0__law_made F__law_made) fun n ih => ok__law_made F__law_made B m_Leaf m_Pad m_Row m_Column m_Box o_Box n_Box o_Leaf n_Leaf o_Row n_Row o_Column n_Column o_Pad n_Pad ⟨_, _, [], ih, PySem.W.mg_of X G a__law_made, k__law_made, F__law_made.binds (ps := ["_law_spec"]) fun _ _ _ _ _ _ us hl => match us, hl with | [_], _ => rfl, .nil⟩
  have c__law_made : Cal l.prog w K mg base "_law_made" 18 ["_law_spec"] [] (sp__law_made C_Box C_Leaf C_Row C_Column C_Pad 6) := ⟨_, _, [], r__law_made 6, PySem.W.mg_of X G a__law_made, k__law_made, F__law_made.binds (ps := ["_law_spec"]) fun _ _ _ _ _ _ us hl => match us, hl with | [_], _ => rfl, .nil⟩
  have c__law_three : Cal l.prog w K mg base "_law_three" 1 ["_law_spec", "_law_inner"] [] sp__law_three := ⟨_, _, [], ok__law_three F__law_three B , PySem.W.mg_of X G a__law_three, k__law_three, F__law_three.binds (ps := ["_law_spec", "_law_inner"]) fun _ _ _ _ _ _ us hl => match us, hl with | [_, _], _ => rfl, .nil⟩
  have r__law_across := @rec_of l.prog w K mg base 2 _ _ _ (fun n => (sp__law_across n)) (ok0__law_across F__law_across) fun n ih => ok__law_across F__law_across B c__law_three ⟨_, _, [], ih, PySem.W.mg_of X G a__law_across, k__law_across, F__law_across.binds (ps := ["_law_spec"]) fun _ _ _ _ _ _ us hl => match us, hl with | [_], _ => rfl, .nil⟩
  have c__law_across : Cal l.prog w K mg base "_law_across" 8 ["_law_spec"] [] (sp__law_across 6) := ⟨_, _, [], r__law_across 6, PySem.W.mg_of X G a__law_across, k__law_across, F__law_across.binds (ps := ["_law_spec"]) fun _ _ _ _ _ _ us hl => match us, hl with | [_], _ => rfl, .nil⟩
  have c__law_wide : Cal l.prog w K mg base "_law_wide" 3 ["_law_bag_here", "_law_three_here"] [] sp__law_wide := ⟨_, _, [], ok__law_wide F__law_wide B c__law_take c__law_length, PySem.W.mg_of X G a__law_wide, k__law_wide, F__law_wide.binds (ps := ["_law_bag_here", "_law_three_here"]) fun _ _ _ _ _ _ us hl => match us, hl with | [_, _], _ => rfl, .nil⟩
  have c__law_whole : Cal l.prog w K mg base "_law_whole" 1 ["_law_thing"] [] sp__law_whole := ⟨_, _, [], ok__law_whole F__law_whole B , PySem.W.mg_of X G a__law_whole, k__law_whole, F__law_whole.binds (ps := ["_law_thing"]) fun _ _ _ _ _ _ us hl => match us, hl with | [_], _ => rfl, .nil⟩
  have c__law_wholes : Cal l.prog w K mg base "_law_wholes" 2 ["_law_found", "_law_due_here"] [] sp__law_wholes := ⟨_, _, [], ok__law_wholes F__law_wholes B c__law_whole, PySem.W.mg_of X G a__law_wholes, k__law_wholes, F__law_wholes.binds (ps := ["_law_found", "_law_due_here"]) fun _ _ _ _ _ _ us hl => match us, hl with | [_, _], _ => rfl, .nil⟩
  have c__law_floors : Cal l.prog w K mg base "_law_floors" 1 ["_law_sizes", "_law_bottom"] [] sp__law_floors := ⟨_, _, [], ok__law_floors F__law_floors B , PySem.W.mg_of X G a__law_floors, k__law_floors, F__law_floors.binds (ps := ["_law_sizes", "_law_bottom"]) fun _ _ _ _ _ _ us hl => match us, hl with | [_, _], _ => rfl, .nil⟩
  have c__law_ends : Cal l.prog w K mg base "_law_ends" 1 ["_law_rows", "_law_room"] [] sp__law_ends := ⟨_, _, [], ok__law_ends F__law_ends B , PySem.W.mg_of X G a__law_ends, k__law_ends, F__law_ends.binds (ps := ["_law_rows", "_law_room"]) fun _ _ _ _ _ _ us hl => match us, hl with | [_, _], _ => rfl, .nil⟩
  have c__law_due : Cal l.prog w K mg base "_law_due" 2 ["_law_rows", "_law_room", "_law_price"] [] sp__law_due := ⟨_, _, [], ok__law_due F__law_due B c__law_ends c__law_whole c__law_floors, PySem.W.mg_of X G a__law_due, k__law_due, F__law_due.binds (ps := ["_law_rows", "_law_room", "_law_price"]) fun _ _ _ _ _ _ us hl => match us, hl with | [_, _, _], _ => rfl, .nil⟩
  have c__law_wides : Cal l.prog w K mg base "_law_wides" 9 ["_law_spec", "_law_wide_here"] [] (sp__law_wides C_Part) := ⟨_, _, [], ok__law_wides F__law_wides B c__law_across c__law_due c_share m_Part o_Part n_Part, PySem.W.mg_of X G a__law_wides, k__law_wides, F__law_wides.binds (ps := ["_law_spec", "_law_wide_here"]) fun _ _ _ _ _ _ us hl => match us, hl with | [_, _], _ => rfl, .nil⟩
  have t_Leaf_wides_for : Met l.prog w K mg base "wides_for" C_Leaf 1 ["self", "wide"] [] sp_Box_wides_for := ⟨_, _, [], o_Leaf.cl, ⟨a_Leaf_wides_for, i_Leaf_wides_for, k_Leaf_wides_for⟩, ok_Box_wides_for F_Leaf_wides_for B , F_Leaf_wides_for.binds (ps := ["self", "wide"]) fun _ _ _ _ _ _ us hl => match us, hl with | [_, _], _ => rfl, .nil⟩
  exact ok_law F_law B c__law_bag c__law_take c__law_tree c__law_weight c__law_length c__law_made c__law_wide c__law_across c__law_wides c__law_wholes t_Pad_wides_for t_Column_wides_for t_Row_wides_for t_Leaf_wides_for t_Box_wides_for o_Part n_Part o_Box n_Box o_Leaf n_Leaf o_Row n_Row o_Column n_Column o_Pad n_Pad
theorem walk {l : PySem.W.OpenLaw} {q : Program} {loose : List Str} {XP : (Str → Option Value) → Heap → Prop} {YP : World → Heap → Prop} {d : DefRec} {K : Params → PySem.W.Frag} (hn : l.most = some 63) (hdf : d.params.defaults = [])
    (hY : ∀ (w : World) (h : Heap), YP w h → (K w.params).In h)
    (F : ∀ (w : World) (mg : Str → Option Value) (fa : Addr) (h : Heap), (K w.params).In h → h.Ns mainGlobals mg → mg d.name = some (.ref fa) →
      ∃ fd : FuncData, (∀ (s : Shared) (u : Value), BindsTo s fd ⟨[u], []⟩ [("_law_script", u)]) ∧ ∀ base : Heap, (K w.params).In base → base.Ns mainGlobals mg → FnOk l.prog w (K w.params) mg base CX0 19 fa fd ["_law_script"] (sp_law (K w.params))) :
    PySem.W.WalkO q loose XP YP l.row.toRowW d [] (fun f vs => PySem.call f vs) :=
  L2.walk_ofB (n := 63) (k := 19) (x := "_law_script") (CX := fun _ => CX0) (sp := fun w => sp_law (K w.params)) hn (by decide) hdf ⟨rfl, by decide, by decide⟩ hY F (fun _ _ a ns hl hb hO hS => ⟨a, ns, rfl, hS, hO, hl, hb, fun _ => rfl⟩) fun _ _ _ _ _ z => z
end Fs
open PySem PySem.W PyProof.Rows
set_option maxRecDepth 100000 in
set_option maxHeartbeats 0 in
theorem PySem.Challenge.cw_fairsheet_k32_breadths_by_price_holds : PySem.Challenge.rw_fairsheet_k32_breadths_by_price.Holds := by
  w_on; o_law; k_head; (case hw => w_witness2)
  k_fill
  refine Fs.walk (l := PySem.Challenge.rw_fairsheet_k32_breadths_by_price) rfl rfl (fun w h Y => PySem.W.kIn_of Y) ?F
  case F =>
    intro w mg fa h KX G hmg
    refine' Fs.all_mk KX G hmg ?a_is_whole ?l_is_whole ?cc_is_whole ?k_is_whole ?a_is_length ?l_is_length ?cc_is_length ?k_is_length ?a_is_small ?l_is_small ?cc_is_small ?k_is_small ?a_is_weight ?l_is_weight ?cc_is_weight ?k_is_weight ?a_is_name ?l_is_name ?cc_is_name ?k_is_name ?a_divisor ?l_divisor ?cc_divisor ?k_divisor ?a_is_fraction ?l_is_fraction ?cc_is_fraction ?k_is_fraction ?a_fraction ?l_fraction ?cc_fraction ?k_fraction ?dt_fraction ?a_plus ?l_plus ?cc_plus ?k_plus ?a_minus ?l_minus ?cc_minus ?k_minus ?a_together ?l_together ?cc_together ?k_together ?a_is_below ?l_is_below ?cc_is_below ?k_is_below ?a_floor_of ?l_floor_of ?cc_floor_of ?k_floor_of ?aC_Part ?pg_Part ?hd_Part ?po_Part ?sa_Part ?mk_Part ?kc_Part ?ha_Part ?hn_Part ?htk_Part ?hm_Part ?nf_Part_base ?nf_Part_least ?nf_Part_greatest ?nf_Part_grow ?nf_Part_shrink ?a_Part___init__ ?i_Part___init__ ?l_Part___init__ ?cc_Part___init__ ?k_Part___init__ ?dt_Part___init__ ?a_Part_size_at ?i_Part_size_at ?l_Part_size_at ?cc_Part_size_at ?k_Part_size_at ?a_edges_of ?l_edges_of ?cc_edges_of ?k_edges_of ?a_wholes_of ?l_wholes_of ?cc_wholes_of ?k_wholes_of ?a_look_at_parts ?l_look_at_parts ?cc_look_at_parts ?k_look_at_parts ?a_price_for ?l_price_for ?cc_price_for ?k_price_for ?a_price_of ?l_price_of ?cc_price_of ?k_price_of ?a_end_of ?l_end_of ?cc_end_of ?k_end_of ?a_share_of ?l_share_of ?cc_share_of ?k_share_of ?a_share ?l_share ?cc_share ?k_share ?a_whole_share ?l_whole_share ?cc_whole_share ?k_whole_share ?a_look_weights ?l_look_weights ?cc_look_weights ?k_look_weights ?aC_Box ?pg_Box ?hd_Box ?po_Box ?sa_Box ?mk_Box ?kc_Box ?ha_Box ?hn_Box ?htk_Box ?hm_Box ?nf_Box_grow ?nf_Box_shrink ?nf_Box_deep ?nf_Box_many ?a_Box___init__ ?i_Box___init__ ?l_Box___init__ ?cc_Box___init__ ?k_Box___init__ ?dt_Box___init__ ?a_Box_across ?i_Box_across ?l_Box_across ?cc_Box_across ?k_Box_across ?a_Box_wides_for ?i_Box_wides_for ?l_Box_wides_for ?cc_Box_wides_for ?k_Box_wides_for ?a_look_boxes ?l_look_boxes ?cc_look_boxes ?k_look_boxes ?a_size_around ?l_size_around ?cc_size_around ?k_size_around ?a_gaps_of ?l_gaps_of ?cc_gaps_of ?k_gaps_of ?a_held_wide ?l_held_wide ?cc_held_wide ?k_held_wide ?aC_Column ?pg_Column ?hd_Column ?po_Column ?sa_Column ?mk_Column ?kc_Column ?ha_Column ?hn_Column ?htk_Column ?hm_Column ?nf_Column_boxes ?nf_Column_gap ?nf_Column_grow ?nf_Column_shrink ?nf_Column_deep ?nf_Column_many ?nf_Column_three ?a_Column_across ?i_Column_across ?l_Column_across ?cc_Column_across ?k_Column_across ?aC_Row ?pg_Row ?hd_Row ?po_Row ?sa_Row ?mk_Row ?kc_Row ?ha_Row ?hn_Row ?htk_Row ?hm_Row ?nf_Row_boxes ?nf_Row_gap ?nf_Row_grow ?nf_Row_shrink ?nf_Row_deep ?nf_Row_many ?nf_Row_three ?a_Row_across ?i_Row_across ?l_Row_across ?cc_Row_across ?k_Row_across ?aC_Leaf ?pg_Leaf ?hd_Leaf ?po_Leaf ?sa_Leaf ?mk_Leaf ?kc_Leaf ?ha_Leaf ?hn_Leaf ?htk_Leaf ?hm_Leaf ?nf_Leaf_key ?nf_Leaf_base ?nf_Leaf_least ?nf_Leaf_greatest ?nf_Leaf_grow ?nf_Leaf_shrink ?nf_Leaf_deep ?nf_Leaf_many ?a_Leaf_across ?i_Leaf_across ?l_Leaf_across ?cc_Leaf_across ?k_Leaf_across ?aC_Pad ?pg_Pad ?hd_Pad ?po_Pad ?sa_Pad ?mk_Pad ?kc_Pad ?ha_Pad ?hn_Pad ?htk_Pad ?hm_Pad ?nf_Pad_box ?nf_Pad_by ?nf_Pad_grow ?nf_Pad_shrink ?nf_Pad_deep ?nf_Pad_many ?a_Pad_across ?i_Pad_across ?l_Pad_across ?cc_Pad_across ?k_Pad_across ?a_row_across ?l_row_across ?cc_row_across ?k_row_across ?a_column_across ?l_column_across ?cc_column_across ?k_column_across ?a_Leaf___init__ ?i_Leaf___init__ ?l_Leaf___init__ ?cc_Leaf___init__ ?k_Leaf___init__ ?dt_Leaf___init__ ?a_Row___init__ ?i_Row___init__ ?l_Row___init__ ?cc_Row___init__ ?k_Row___init__ ?dt_Row___init__ ?a_Row_wides_for ?i_Row_wides_for ?l_Row_wides_for ?cc_Row_wides_for ?k_Row_wides_for ?a_Column___init__ ?i_Column___init__ ?l_Column___init__ ?cc_Column___init__ ?k_Column___init__ ?dt_Column___init__ ?a_Column_wides_for ?i_Column_wides_for ?l_Column_wides_for ?cc_Column_wides_for ?k_Column_wides_for ?a_Pad___init__ ?i_Pad___init__ ?l_Pad___init__ ?cc_Pad___init__ ?k_Pad___init__ ?dt_Pad___init__ ?a_Pad_wides_for ?i_Pad_wides_for ?l_Pad_wides_for ?cc_Pad_wides_for ?k_Pad_wides_for ?a__law_bag ?l__law_bag ?cc__law_bag ?k__law_bag ?a__law_take ?l__law_take ?cc__law_take ?k__law_take ?a__law_length ?l__law_length ?cc__law_length ?k__law_length ?a__law_weight ?l__law_weight ?cc__law_weight ?k__law_weight ?a__law_key ?l__law_key ?cc__law_key ?k__law_key ?a__law_leaf ?l__law_leaf ?cc__law_leaf ?k__law_leaf ?a__law_tree ?l__law_tree ?cc__law_tree ?k__law_tree ?a__law_made ?l__law_made ?cc__law_made ?k__law_made ?a__law_three ?l__law_three ?cc__law_three ?k__law_three ?a__law_across ?l__law_across ?cc__law_across ?k__law_across ?a__law_wide ?l__law_wide ?cc__law_wide ?k__law_wide ?a__law_whole ?l__law_whole ?cc__law_whole ?k__law_whole ?a__law_wholes ?l__law_wholes ?cc__law_wholes ?k__law_wholes ?a__law_floors ?l__law_floors ?cc__law_floors ?k__law_floors ?a__law_ends ?l__law_ends ?cc__law_ends ?k__law_ends ?a__law_due ?l__law_due ?cc__law_due ?k__law_due ?a__law_wides ?l__law_wides ?cc__law_wides ?k__law_wides ?a_Leaf_wides_for ?i_Leaf_wides_for ?l_Leaf_wides_for ?cc_Leaf_wides_for ?k_Leaf_wides_for ?a_law ?l_law ?cc_law ?k_law ?et_Box ?ic_Box ?sz_Box ?su_Box_Box ?sz_Leaf ?su_Leaf_Box ?sz_Row ?su_Row_Box ?sz_Column ?su_Column_Box ?sz_Pad ?su_Pad_Box ?z_len ?z_abs ?z_isinstance ?z_min ?z_max ?z_sum ?z_sorted ?z_range ?z_zip ?z_enumerate ?z_reversed ?z_int ?z_bool ?z_tuple ?z_list ?z_str ?z_dict ?z_ValueError ?z_set ?z_any ?z_all ?n_LENGTH ?n_SMALL ?n_WEIGHT ?n_LETTERS ?n_LONGEST ?n_MOST ?n_DEEPEST ?n_MOST_BOXES ?n_MOST_WITHIN
    (case a_is_whole => k_is)
    (case l_is_whole => k_is)
    (case cc_is_whole => k_is)
    (case k_is_whole => k_is)
    (case a_is_length => k_is)
    (case l_is_length => k_is)
    (case cc_is_length => k_is)
    (case k_is_length => k_is)
    (case a_is_small => k_is)
    (case l_is_small => k_is)
    (case cc_is_small => k_is)
    (case k_is_small => k_is)
    (case a_is_weight => k_is)
    (case l_is_weight => k_is)
    (case cc_is_weight => k_is)
    (case k_is_weight => k_is)
    (case a_is_name => k_is)
    (case l_is_name => k_is)
    (case cc_is_name => k_is)
    (case k_is_name => k_is)
    (case a_divisor => k_is)
    (case l_divisor => k_is)
    (case cc_divisor => k_is)
    (case k_divisor => k_is)
    (case a_is_fraction => k_is)
    (case l_is_fraction => k_is)
    (case cc_is_fraction => k_is)
    (case k_is_fraction => k_is)
    (case a_fraction => k_is)
    (case l_fraction => k_is)
    (case cc_fraction => k_is)
    (case k_fraction => k_is)
    (case dt_fraction => k_is)
    (case a_plus => k_is)
    (case l_plus => k_is)
    (case cc_plus => k_is)
    (case k_plus => k_is)
    (case a_minus => k_is)
    (case l_minus => k_is)
    (case cc_minus => k_is)
    (case k_minus => k_is)
    (case a_together => k_is)
    (case l_together => k_is)
    (case cc_together => k_is)
    (case k_together => k_is)
    (case a_is_below => k_is)
    (case l_is_below => k_is)
    (case cc_is_below => k_is)
    (case k_is_below => k_is)
    (case a_floor_of => k_is)
    (case l_floor_of => k_is)
    (case cc_floor_of => k_is)
    (case k_floor_of => k_is)
    (case aC_Part => k_is)
    (case pg_Part => k_is)
    (case hd_Part => k_is)
    (case po_Part => k_is)
    (case sa_Part => k_is)
    (case mk_Part => k_is)
    (case kc_Part => k_is)
    (case ha_Part => k_is)
    (case hn_Part => k_is)
    (case htk_Part => k_is)
    (case hm_Part => k_is)
    (case nf_Part_base => k_is)
    (case nf_Part_least => k_is)
    (case nf_Part_greatest => k_is)
    (case nf_Part_grow => k_is)
    (case nf_Part_shrink => k_is)
    (case a_Part___init__ => k_is)
    (case i_Part___init__ => k_is)
    (case l_Part___init__ => k_is)
    (case cc_Part___init__ => k_is)
    (case k_Part___init__ => k_is)
    (case dt_Part___init__ => k_is)
    (case a_Part_size_at => k_is)
    (case i_Part_size_at => k_is)
    (case l_Part_size_at => k_is)
    (case cc_Part_size_at => k_is)
    (case k_Part_size_at => k_is)
    (case a_edges_of => k_is)
    (case l_edges_of => k_is)
    (case cc_edges_of => k_is)
    (case k_edges_of => k_is)
    (case a_wholes_of => k_is)
    (case l_wholes_of => k_is)
    (case cc_wholes_of => k_is)
    (case k_wholes_of => k_is)
    (case a_look_at_parts => k_is)
    (case l_look_at_parts => k_is)
    (case cc_look_at_parts => k_is)
    (case k_look_at_parts => k_is)
    (case a_price_for => k_is)
    (case l_price_for => k_is)
    (case cc_price_for => k_is)
    (case k_price_for => k_is)
    (case a_price_of => k_is)
    (case l_price_of => k_is)
    (case cc_price_of => k_is)
    (case k_price_of => k_is)
    (case a_end_of => k_is)
    (case l_end_of => k_is)
    (case cc_end_of => k_is)
    (case k_end_of => k_is)
    (case a_share_of => k_is)
    (case l_share_of => k_is)
    (case cc_share_of => k_is)
    (case k_share_of => k_is)
    (case a_share => k_is)
    (case l_share => k_is)
    (case cc_share => k_is)
    (case k_share => k_is)
    (case a_whole_share => k_is)
    (case l_whole_share => k_is)
    (case cc_whole_share => k_is)
    (case k_whole_share => k_is)
    (case a_look_weights => k_is)
    (case l_look_weights => k_is)
    (case cc_look_weights => k_is)
    (case k_look_weights => k_is)
    (case aC_Box => k_is)
    (case pg_Box => k_is)
    (case hd_Box => k_is)
    (case po_Box => k_is)
    (case sa_Box => k_is)
    (case mk_Box => k_is)
    (case kc_Box => k_is)
    (case ha_Box => k_is)
    (case hn_Box => k_is)
    (case htk_Box => k_is)
    (case hm_Box => k_is)
    (case nf_Box_grow => k_is)
    (case nf_Box_shrink => k_is)
    (case nf_Box_deep => k_is)
    (case nf_Box_many => k_is)
    (case a_Box___init__ => k_is)
    (case i_Box___init__ => k_is)
    (case l_Box___init__ => k_is)
    (case cc_Box___init__ => k_is)
    (case k_Box___init__ => k_is)
    (case dt_Box___init__ => k_is)
    (case a_Box_across => k_is)
    (case i_Box_across => k_is)
    (case l_Box_across => k_is)
    (case cc_Box_across => k_is)
    (case k_Box_across => k_is)
    (case a_Box_wides_for => k_is)
    (case i_Box_wides_for => k_is)
    (case l_Box_wides_for => k_is)
    (case cc_Box_wides_for => k_is)
    (case k_Box_wides_for => k_is)
    (case a_look_boxes => k_is)
    (case l_look_boxes => k_is)
    (case cc_look_boxes => k_is)
    (case k_look_boxes => k_is)
    (case a_size_around => k_is)
    (case l_size_around => k_is)
    (case cc_size_around => k_is)
    (case k_size_around => k_is)
    (case a_gaps_of => k_is)
    (case l_gaps_of => k_is)
    (case cc_gaps_of => k_is)
    (case k_gaps_of => k_is)
    (case a_held_wide => k_is)
    (case l_held_wide => k_is)
    (case cc_held_wide => k_is)
    (case k_held_wide => k_is)
    (case aC_Column => k_is)
    (case pg_Column => k_is)
    (case hd_Column => k_is)
    (case po_Column => k_is)
    (case sa_Column => k_is)
    (case mk_Column => k_is)
    (case kc_Column => k_is)
    (case ha_Column => k_is)
    (case hn_Column => k_is)
    (case htk_Column => k_is)
    (case hm_Column => k_is)
    (case nf_Column_boxes => k_is)
    (case nf_Column_gap => k_is)
    (case nf_Column_grow => k_is)
    (case nf_Column_shrink => k_is)
    (case nf_Column_deep => k_is)
    (case nf_Column_many => k_is)
    (case nf_Column_three => k_is)
    (case a_Column_across => k_is)
    (case i_Column_across => k_is)
    (case l_Column_across => k_is)
    (case cc_Column_across => k_is)
    (case k_Column_across => k_is)
    (case aC_Row => k_is)
    (case pg_Row => k_is)
    (case hd_Row => k_is)
    (case po_Row => k_is)
    (case sa_Row => k_is)
    (case mk_Row => k_is)
    (case kc_Row => k_is)
    (case ha_Row => k_is)
    (case hn_Row => k_is)
    (case htk_Row => k_is)
    (case hm_Row => k_is)
    (case nf_Row_boxes => k_is)
    (case nf_Row_gap => k_is)
    (case nf_Row_grow => k_is)
    (case nf_Row_shrink => k_is)
    (case nf_Row_deep => k_is)
    (case nf_Row_many => k_is)
    (case nf_Row_three => k_is)
    (case a_Row_across => k_is)
    (case i_Row_across => k_is)
    (case l_Row_across => k_is)
    (case cc_Row_across => k_is)
    (case k_Row_across => k_is)
    (case aC_Leaf => k_is)
    (case pg_Leaf => k_is)
    (case hd_Leaf => k_is)
    (case po_Leaf => k_is)
    (case sa_Leaf => k_is)
    (case mk_Leaf => k_is)
    (case kc_Leaf => k_is)
    (case ha_Leaf => k_is)
    (case hn_Leaf => k_is)
    (case htk_Leaf => k_is)
    (case hm_Leaf => k_is)
    (case nf_Leaf_key => k_is)
    (case nf_Leaf_base => k_is)
    (case nf_Leaf_least => k_is)
    (case nf_Leaf_greatest => k_is)
    (case nf_Leaf_grow => k_is)
    (case nf_Leaf_shrink => k_is)
    (case nf_Leaf_deep => k_is)
    (case nf_Leaf_many => k_is)
    (case a_Leaf_across => k_is)
    (case i_Leaf_across => k_is)
    (case l_Leaf_across => k_is)
    (case cc_Leaf_across => k_is)
    (case k_Leaf_across => k_is)
    (case aC_Pad => k_is)
    (case pg_Pad => k_is)
    (case hd_Pad => k_is)
    (case po_Pad => k_is)
    (case sa_Pad => k_is)
    (case mk_Pad => k_is)
    (case kc_Pad => k_is)
    (case ha_Pad => k_is)
    (case hn_Pad => k_is)
    (case htk_Pad => k_is)
    (case hm_Pad => k_is)
    (case nf_Pad_box => k_is)
    (case nf_Pad_by => k_is)
    (case nf_Pad_grow => k_is)
    (case nf_Pad_shrink => k_is)
    (case nf_Pad_deep => k_is)
    (case nf_Pad_many => k_is)
    (case a_Pad_across => k_is)
    (case i_Pad_across => k_is)
    (case l_Pad_across => k_is)
    (case cc_Pad_across => k_is)
    (case k_Pad_across => k_is)
    (case a_row_across => k_is)
    (case l_row_across => k_is)
    (case cc_row_across => k_is)
    (case k_row_across => k_is)
    (case a_column_across => k_is)
    (case l_column_across => k_is)
    (case cc_column_across => k_is)
    (case k_column_across => k_is)
    (case a_Leaf___init__ => k_is)
    (case i_Leaf___init__ => k_is)
    (case l_Leaf___init__ => k_is)
    (case cc_Leaf___init__ => k_is)
    (case k_Leaf___init__ => k_is)
    (case dt_Leaf___init__ => k_is)
    (case a_Row___init__ => k_is)
    (case i_Row___init__ => k_is)
    (case l_Row___init__ => k_is)
    (case cc_Row___init__ => k_is)
    (case k_Row___init__ => k_is)
    (case dt_Row___init__ => k_is)
    (case a_Row_wides_for => k_is)
    (case i_Row_wides_for => k_is)
    (case l_Row_wides_for => k_is)
    (case cc_Row_wides_for => k_is)
    (case k_Row_wides_for => k_is)
    (case a_Column___init__ => k_is)
    (case i_Column___init__ => k_is)
    (case l_Column___init__ => k_is)
    (case cc_Column___init__ => k_is)
    (case k_Column___init__ => k_is)
    (case dt_Column___init__ => k_is)
    (case a_Column_wides_for => k_is)
    (case i_Column_wides_for => k_is)
    (case l_Column_wides_for => k_is)
    (case cc_Column_wides_for => k_is)
    (case k_Column_wides_for => k_is)
    (case a_Pad___init__ => k_is)
    (case i_Pad___init__ => k_is)
    (case l_Pad___init__ => k_is)
    (case cc_Pad___init__ => k_is)
    (case k_Pad___init__ => k_is)
    (case dt_Pad___init__ => k_is)
    (case a_Pad_wides_for => k_is)
    (case i_Pad_wides_for => k_is)
    (case l_Pad_wides_for => k_is)
    (case cc_Pad_wides_for => k_is)
    (case k_Pad_wides_for => k_is)
    (case a__law_bag => k_is)
    (case l__law_bag => k_is)
    (case cc__law_bag => k_is)
    (case k__law_bag => k_is)
    (case a__law_take => k_is)
    (case l__law_take => k_is)
    (case cc__law_take => k_is)
    (case k__law_take => k_is)
    (case a__law_length => k_is)
    (case l__law_length => k_is)
    (case cc__law_length => k_is)
    (case k__law_length => k_is)
    (case a__law_weight => k_is)
    (case l__law_weight => k_is)
    (case cc__law_weight => k_is)
    (case k__law_weight => k_is)
    (case a__law_key => k_is)
    (case l__law_key => k_is)
    (case cc__law_key => k_is)
    (case k__law_key => k_is)
    (case a__law_leaf => k_is)
    (case l__law_leaf => k_is)
    (case cc__law_leaf => k_is)
    (case k__law_leaf => k_is)
    (case a__law_tree => k_is)
    (case l__law_tree => k_is)
    (case cc__law_tree => k_is)
    (case k__law_tree => k_is)
    (case a__law_made => k_is)
    (case l__law_made => k_is)
    (case cc__law_made => k_is)
    (case k__law_made => k_is)
    (case a__law_three => k_is)
    (case l__law_three => k_is)
    (case cc__law_three => k_is)
    (case k__law_three => k_is)
    (case a__law_across => k_is)
    (case l__law_across => k_is)
    (case cc__law_across => k_is)
    (case k__law_across => k_is)
    (case a__law_wide => k_is)
    (case l__law_wide => k_is)
    (case cc__law_wide => k_is)
    (case k__law_wide => k_is)
    (case a__law_whole => k_is)
    (case l__law_whole => k_is)
    (case cc__law_whole => k_is)
    (case k__law_whole => k_is)
    (case a__law_wholes => k_is)
    (case l__law_wholes => k_is)
    (case cc__law_wholes => k_is)
    (case k__law_wholes => k_is)
    (case a__law_floors => k_is)
    (case l__law_floors => k_is)
    (case cc__law_floors => k_is)
    (case k__law_floors => k_is)
    (case a__law_ends => k_is)
    (case l__law_ends => k_is)
    (case cc__law_ends => k_is)
    (case k__law_ends => k_is)
    (case a__law_due => k_is)
    (case l__law_due => k_is)
    (case cc__law_due => k_is)
    (case k__law_due => k_is)
    (case a__law_wides => k_is)
    (case l__law_wides => k_is)
    (case cc__law_wides => k_is)
    (case k__law_wides => k_is)
    (case a_Leaf_wides_for => k_is)
    (case i_Leaf_wides_for => k_is)
    (case l_Leaf_wides_for => k_is)
    (case cc_Leaf_wides_for => k_is)
    (case k_Leaf_wides_for => k_is)
    (case a_law => k_is)
    (case l_law => k_is)
    (case cc_law => k_is)
    (case k_law => k_is)
    (case et_Box => k_is)
    (case ic_Box => k_is)
    (case sz_Box => k_is)
    (case su_Box_Box => k_is)
    (case sz_Leaf => k_is)
    (case su_Leaf_Box => k_is)
    (case sz_Row => k_is)
    (case su_Row_Box => k_is)
    (case sz_Column => k_is)
    (case su_Column_Box => k_is)
    (case sz_Pad => k_is)
    (case su_Pad_Box => k_is)
    (case z_len => k_is)
    (case z_abs => k_is)
    (case z_isinstance => k_is)
    (case z_min => k_is)
    (case z_max => k_is)
    (case z_sum => k_is)
    (case z_sorted => k_is)
    (case z_range => k_is)
    (case z_zip => k_is)
    (case z_enumerate => k_is)
    (case z_reversed => k_is)
    (case z_int => k_is)
    (case z_bool => k_is)
    (case z_tuple => k_is)
    (case z_list => k_is)
    (case z_str => k_is)
    (case z_dict => k_is)
    (case z_ValueError => k_is)
    (case z_set => k_is)
    (case z_any => k_is)
    (case z_all => k_is)
    (case n_LENGTH => k_is)
    (case n_SMALL => k_is)
    (case n_WEIGHT => k_is)
    (case n_LETTERS => k_is)
    (case n_LONGEST => k_is)
    (case n_MOST => k_is)
    (case n_DEEPEST => k_is)
    (case n_MOST_BOXES => k_is)
    (case n_MOST_WITHIN => k_is)
