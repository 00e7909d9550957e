import PyProof.Rows.All
import Wide.All
import OpenK.AllK
import Wide.FinOn
import HandS.ForMost
import HandS.Wide
import HandS.Walk
import HandS.IsInst
import HandS.Flow
import HandS.Style
import HandS.Zip
import HandS.EndBits
import HandS.Defaults
import HandS.More
import HandS.MakeKwOnly
import HandS.MakeKw
import HandS.Text
import PyProof.StrOps2
import HandS.Nested
import HandS.EndTab
import HandS.SortInts
import HandS.Exc
import HandS.ExcOwn
import HandS.WordsExc
import HandS.ExcIs
import HandS.ExcInit
import KE.KExcIs
import HandS.DictComp
import KE.KDictCopyH
import HandS.SortKw
import HandS.SortRule
import HandS.Conv
import HandS.ExcValue
import KE.KDictSum
import HandS.TupLen
import HandS.Deep
import PyProof.DictMoreH
import HandS.TupAny
import KE.KEqNest
import PyProof.DictFindH
import KE.SortKeyHeap
import KE.KDictDisplayH
import PySem.Challenge.RW_fairsheet_k62_way_by_rule
set_option Elab.async false
set_option linter.all false
set_option maxRecDepth 100000
set_option maxHeartbeats 20000000
set_option exponentiation.threshold 20000
namespace Fs
open PySem PySem.Spec PyProof.Rows L2

/-! ### data and what denotes it -/
inductive D where
  | non | bl (b : Bool) | int (i : Int) | str (x : Str) | ref (a : Addr) | ty (n : String)
  | tup (ds : List D) | lst (ds : List D) | obj (C : Addr) (fs : List (Str × D)) | dict | fact (φ : V → Hp → Prop)

mutual
inductive Is (I : Hp) : V → D → Prop
  | non : Is I .non .non
  | bl (b : Bool) : Is I (.bl b) (.bl b)
  | int (i : Int) : Is I (.int i) (.int i)
  | str (x : Str) : Is I (.str x) (.str x)
  | ref (a : Addr) : Is I (.ref a) (.ref a)
  | ty (n : String) : Is I (.ty n) (.ty n)
  | tup {p : Addr} {vs : List V} {ds : List D} : I p = some (.tup vs) → IsA I vs ds → Is I (.ref p) (.tup ds)
  | lst {p : Addr} {vs : List V} {ds : List D} : I p = some (.lst vs) → IsA I vs ds → Is I (.ref p) (.lst ds)
  | obj {p C dx : Addr} {fs : List (Str × V)} {ds : List (Str × D)} : I p = some (.ins C dx fs) → IsF I fs ds → Is I (.ref p) (.obj C ds)
  | dct {p : Addr} {kvs : List (Key × V)} : I p = some (.dK kvs) → Is I (.ref p) .dict
  | fact {v : V} {φ : V → Hp → Prop} {J : Hp} : Same J I → φ v J → Is I v (.fact φ)
inductive IsA (I : Hp) : List V → List D → Prop
  | nil : IsA I [] []
  | cons {v : V} {d : D} {vs : List V} {ds : List D} : Is I v d → IsA I vs ds → IsA I (v :: vs) (d :: ds)
inductive IsF (I : Hp) : List (Str × V) → List (Str × D) → Prop
  | nil : IsF I [] []
  | cons {f : Str} {v : V} {d : D} {vs : List (Str × V)} {ds : List (Str × D)} : Is I v d → IsF I vs ds → IsF I ((f, v) :: vs) ((f, d) :: ds)
end
mutual
theorem Is.mono {I J : Hp} (s : Same I J) : ∀ {v : V} {d : D}, Is I v d → Is J v d
  | _, _, .non => .non
  | _, _, .bl b => .bl b
  | _, _, .int i => .int i
  | _, _, .str x => .str x
  | _, _, .ref a => .ref a
  | _, _, .ty n => .ty n
  | _, _, .tup h a => .tup (s _ _ h) (IsA.mono s a)
  | _, _, .lst h a => .lst (s _ _ h) (IsA.mono s a)
  | _, _, .obj h a => .obj (s _ _ h) (IsF.mono s a)
  | _, _, .dct h => .dct (s _ _ h)
  | _, _, .fact h q => .fact (h.trans s) q
theorem IsA.mono {I J : Hp} (s : Same I J) : ∀ {vs : List V} {ds : List D}, IsA I vs ds → IsA J vs ds
  | _, _, .nil => .nil
  | _, _, .cons h a => .cons (Is.mono s h) (IsA.mono s a)
theorem IsF.mono {I J : Hp} (s : Same I J) : ∀ {vs : List (Str × V)} {ds : List (Str × D)}, IsF I vs ds → IsF J vs ds
  | _, _, .nil => .nil
  | _, _, .cons h a => .cons (Is.mono s h) (IsF.mono s a)
end
section
variable {I J : Hp} {v : V} {vs : List V} {ds es : List D} {d : D}
theorem Is.int_eq {n : Int} (h : Is I v (.int n)) : v = .int n := by cases h; rfl
theorem Is.bl_eq {n : Bool} (h : Is I v (.bl n)) : v = .bl n := by cases h; rfl
theorem Is.str_eq {n : Str} (h : Is I v (.str n)) : v = .str n := by cases h; rfl
theorem Is.non_eq (h : Is I v .non) : v = .non := by cases h; rfl
theorem Is.ref_eq {a : Addr} (h : Is I v (.ref a)) : v = .ref a := by cases h; rfl
theorem Is.tup_ex (h : Is I v (.tup ds)) : ∃ p vs, v = .ref p ∧ I p = some (.tup vs) ∧ IsA I vs ds := by
  cases h with | tup h a => exact ⟨_, _, rfl, h, a⟩
theorem Is.lst_ex (h : Is I v (.lst ds)) : ∃ p vs, v = .ref p ∧ I p = some (.lst vs) ∧ IsA I vs ds := by
  cases h with | lst h a => exact ⟨_, _, rfl, h, a⟩
theorem Is.obj_ex {C : Addr} {fs : List (Str × D)} (h : Is I v (.obj C fs)) : ∃ p dx vs, v = .ref p ∧ I p = some (.ins C dx vs) ∧ IsF I vs fs := by
  cases h with | obj h a => exact ⟨_, _, _, rfl, h, a⟩
theorem IsA.length : ∀ {vs : List V} {ds : List D}, IsA I vs ds → vs.length = ds.length
  | _, _, .nil => rfl
  | _, _, .cons _ a => by rw [List.length_cons, List.length_cons, a.length]
theorem IsA.get : ∀ {vs : List V} {ds : List D} {i : Nat} {d : D}, IsA I vs ds → ds[i]? = some d → ∃ v, vs[i]? = some v ∧ Is I v d
  | _, _, _, _, .nil, h => by simp at h
  | _, _, 0, _, .cons h _, e => by simp at e; subst e; exact ⟨_, rfl, h⟩
  | _, _, i + 1, d, .cons _ a, e => by
    obtain ⟨v, h1, h2⟩ := IsA.get (i := i) (d := d) a (by simpa using e)
    exact ⟨v, by simpa using h1, h2⟩
theorem IsA.of : ∀ {vs : List V} {ds : List D} {i : Nat} {v : V}, IsA I vs ds → vs[i]? = some v → ∃ d, ds[i]? = some d ∧ Is I v d
  | _, _, _, _, .nil, h => by simp at h
  | _, _, 0, _, .cons h _, e => by simp at e; subst e; exact ⟨_, rfl, h⟩
  | _, _, i + 1, d, .cons _ a, e => by
    obtain ⟨v, h1, h2⟩ := IsA.of (i := i) a (by simpa using e)
    exact ⟨v, by simpa using h1, h2⟩
theorem IsA.app : ∀ {vs us : List V} {ds es : List D}, IsA I vs ds → IsA I us es → IsA I (vs ++ us) (ds ++ es)
  | _, _, _, _, .nil, b => b
  | _, _, _, _, .cons h a, b => .cons h (IsA.app a b)
theorem IsA.one (h : Is I v d) : IsA I [v] [d] := .cons h .nil
theorem IsA.rev : ∀ {vs : List V} {ds : List D}, IsA I vs ds → IsA I vs.reverse ds.reverse
  | _, _, .nil => .nil
  | _, _, .cons h a => by rw [List.reverse_cons, List.reverse_cons]; exact (IsA.rev a).app (.one h)
theorem IsA.take : ∀ {vs : List V} {ds : List D} (n : Nat), IsA I vs ds → IsA I (vs.take n) (ds.take n)
  | _, _, 0, _ => .nil
  | _, _, _ + 1, .nil => .nil
  | _, _, n + 1, .cons h a => .cons h (IsA.take n a)
theorem IsA.drop : ∀ {vs : List V} {ds : List D} (n : Nat), IsA I vs ds → IsA I (vs.drop n) (ds.drop n)
  | _, _, 0, a => a
  | _, _, _ + 1, .nil => .nil
  | _, _, n + 1, .cons h a => IsA.drop n a
theorem IsA.ints : ∀ (ns : List Int), IsA I (ns.map V.int) (ns.map D.int)
  | [] => .nil
  | n :: r => .cons (.int n) (IsA.ints r)
theorem IsA.ints_eq : ∀ {vs : List V} {ns : List Int}, IsA I vs (ns.map D.int) → vs = ns.map V.int
  | _, [], h => by cases h; rfl
  | _, n :: r, h => by
    cases h with
    | cons h a => rw [h.int_eq, IsA.ints_eq a]; rfl
theorem IsF.get : ∀ {fs : List (Str × V)} {ds : List (Str × D)} {f : Str} {d : D}, IsF I fs ds → ds.lookup f = some d → ∃ v, fs.lookup f = some v ∧ Is I v d
  | _, _, _, _, .nil, e => by simp at e
  | _, _, f, d, .cons (f := g) h a, e => by
    rw [List.lookup_cons] at e
    cases hc : f == g with
    | true => rw [hc] at e; simp at e; subst e; exact ⟨_, by rw [List.lookup_cons, hc], h⟩
    | false =>
      rw [hc] at e
      obtain ⟨v, h1, h2⟩ := IsF.get a e
      exact ⟨v, by rw [List.lookup_cons, hc]; exact h1, h2⟩
theorem IsF.no : ∀ {fs : List (Str × V)} {ds : List (Str × D)} {f : Str}, IsF I fs ds → ds.lookup f = none → fs.lookup f = none
  | _, _, _, .nil, _ => rfl
  | _, _, f, .cons (f := g) h a, e => by
    rw [List.lookup_cons] at e ⊢
    cases hc : f == g with
    | true => rw [hc] at e; cases e
    | false => rw [hc] at e; exact IsF.no a e
end

/-! ### the heap: what stays (I), what may be changed (M) -/
structure W (I H : Hp) (M : List (Addr × HO)) : Prop where
  imm : Same I H
  mu : ∀ p ∈ M, H p.1 = some p.2 ∧ I p.1 = none
  nd : (M.map (·.1)).Nodup
section
variable {I H : Hp} {M M1 M2 : List (Addr × HO)} {p : Addr} {o o' : HO} {m : Addr × HO}
theorem same_new (h : H p = none) : Same H (upd H p o) := fun b x e => by
  rw [upd_ne (ne_of_none e h)]
  exact e
theorem W.fresh (w : W I H M) (h : H p = none) : I p = none := w.imm.free h
theorem W.notin (w : W I H M) (h : H p = none) : p ∉ M.map (·.1) := fun q => by
  obtain ⟨x, hx, e⟩ := List.mem_map.mp q
  have := (w.mu x hx).1
  rw [e, h] at this
  cases this
/-- a new thing that stays -/
theorem W.newI (w : W I H M) (h : H p = none) : W (upd I p o) (upd H p o) M where
  imm := fun b x e => by
    by_cases hb : b = p
    · subst hb; rw [upd_same] at e ⊢; exact e
    · rw [upd_ne hb] at e ⊢; exact w.imm b x e
  mu := fun x hx => by
    have q : x.1 ≠ p := fun e => w.notin h (e ▸ List.mem_map_of_mem hx)
    rw [upd_ne q, upd_ne q]
    exact w.mu x hx
  nd := w.nd
theorem W.same (w : W I H M) (h : H p = none) : Same I (upd I p o) := same_new (w.fresh h)
/-- a new thing that may be changed -/
theorem W.newM (w : W I H M) (h : H p = none) : W I (upd H p o) ((p, o) :: M) where
  imm := fun b x e => by
    rw [upd_ne (ne_of_none e (w.fresh h))]
    exact w.imm b x e
  mu := fun x hx => by
    rcases List.mem_cons.mp hx with e | hx
    · subst e; exact ⟨upd_same, w.fresh h⟩
    · have q : x.1 ≠ p := fun e => w.notin h (e ▸ List.mem_map_of_mem hx)
      rw [upd_ne q]
      exact w.mu x hx
  nd := List.nodup_cons.mpr ⟨w.notin h, w.nd⟩
theorem W.newM2 (w : W I H (m :: M)) (h : H p = none) : W I (upd H p o) (m :: (p, o) :: M) := by
  have q := w.newM (o := o) h
  refine ⟨q.imm, fun x hx => q.mu x ?_, ?_⟩
  · rcases List.mem_cons.mp hx with e | hx
    · exact List.mem_cons.mpr (.inr (List.mem_cons.mpr (.inl e)))
    · rcases List.mem_cons.mp hx with e | hx
      · exact List.mem_cons.mpr (.inl e)
      · exact List.mem_cons.mpr (.inr (List.mem_cons.mpr (.inr hx)))
  · have n := q.nd
    simp only [List.map_cons, List.nodup_cons, List.mem_cons, not_or] at n ⊢
    exact ⟨⟨fun e => n.1.1 e.symm, n.2.1⟩, n.1.2, n.2.2⟩
/-- a change -/
theorem W.put (w : W I H (M1 ++ (p, o) :: M2)) : W I (upd H p o') (M1 ++ (p, o') :: M2) := by
  have n := w.nd
  simp only [List.map_append, List.map_cons] at n
  have hp := w.mu (p, o) (List.mem_append_right _ List.mem_cons_self)
  refine ⟨fun b x e => ?_, fun x hx => ?_, by simpa only [List.map_append, List.map_cons] using n⟩
  · rw [upd_ne (ne_of_none e hp.2)]
    exact w.imm b x e
  · have n2 := List.nodup_append.mp n
    have n3 := List.nodup_cons.mp n2.2.1
    rcases List.mem_append.mp hx with h | h
    · have q : x.1 ≠ p := n2.2.2 _ (List.mem_map_of_mem h) _ List.mem_cons_self
      rw [upd_ne q]
      exact w.mu x (List.mem_append_left _ h)
    · rcases List.mem_cons.mp h with e | h
      · subst e; exact ⟨upd_same, hp.2⟩
      · have q : x.1 ≠ p := fun e => n3.1 (e ▸ List.mem_map_of_mem h)
        rw [upd_ne q]
        exact w.mu x (List.mem_append_right _ (List.mem_cons_of_mem _ h))
theorem W.put0 (w : W I H ((p, o) :: M2)) : W I (upd H p o') ((p, o') :: M2) := W.put (M1 := []) w
theorem W.put1 {m0 : Addr × HO} (w : W I H (m0 :: (p, o) :: M2)) : W I (upd H p o') (m0 :: (p, o') :: M2) := W.put (M1 := [m0]) w
theorem W.put2 {m0 m1 : Addr × HO} (w : W I H (m0 :: m1 :: (p, o) :: M2)) : W I (upd H p o') (m0 :: m1 :: (p, o') :: M2) := W.put (M1 := [m0, m1]) w
/-- what may be changed stays from now on -/
theorem W.frz (w : W I H (M1 ++ (p, o) :: M2)) : W (upd I p o) H (M1 ++ M2) := by
  have n := w.nd
  simp only [List.map_append, List.map_cons] at n
  have hp := w.mu (p, o) (List.mem_append_right _ List.mem_cons_self)
  have n2 := List.nodup_append.mp n
  have n3 := List.nodup_cons.mp n2.2.1
  refine ⟨fun b x e => ?_, fun x hx => ?_, ?_⟩
  · by_cases hb : b = p
    · subst hb; rw [upd_same] at e; cases e; exact hp.1
    · rw [upd_ne hb] at e; exact w.imm b x e
  · have q : x.1 ≠ p := by
      rcases List.mem_append.mp hx with h | h
      · exact n2.2.2 _ (List.mem_map_of_mem h) _ List.mem_cons_self
      · exact fun e => n3.1 (e ▸ List.mem_map_of_mem h)
    rw [upd_ne q]
    refine w.mu x ?_
    rcases List.mem_append.mp hx with h | h
    · exact List.mem_append_left _ h
    · exact List.mem_append_right _ (List.mem_cons_of_mem _ h)
  · rw [List.map_append]
    exact n.sublist (List.Sublist.append_left (List.sublist_cons_self _ _) _)
theorem W.frzS (w : W I H (M1 ++ (p, o) :: M2)) : Same I (upd I p o) := same_new (w.mu (p, o) (List.mem_append_right _ List.mem_cons_self)).2
theorem W.at (w : W I H (M1 ++ (p, o) :: M2)) : H p = some o := (w.mu (p, o) (List.mem_append_right _ List.mem_cons_self)).1
theorem W.at0 (w : W I H ((p, o) :: M2)) : H p = some o := W.at (M1 := []) w
theorem W.at1 {m0 : Addr × HO} (w : W I H (m0 :: (p, o) :: M2)) : H p = some o := W.at (M1 := [m0]) w
theorem W.at2 {m0 m1 : Addr × HO} (w : W I H (m0 :: m1 :: (p, o) :: M2)) : H p = some o := W.at (M1 := [m0, m1]) w
/-- the heap has more -/
theorem W.more {H' : Hp} (w : W I H M) (s : Same H H') : W I H' M := ⟨w.imm.trans s, fun x hx => ⟨s _ _ (w.mu x hx).1, (w.mu x hx).2⟩, w.nd⟩
end
end Fs

namespace Fs
open PySem PySem.Spec PyProof.Rows L2

/-! ### rules for several kinds at once -/
section
variable {X : Cx}
theorem opOr {f : Value → Value → Sem Value} {r r' : R2} (a : OpR X f r) (b : OpR X f r') : OpR X f (fun x y H Q => r x y H Q ∨ r' x y H Q) := by
  intro pins s σ H x y v u Q I rx ry h
  rcases h with h | h
  · exact a pins s σ H x y v u Q I rx ry h
  · exact b pins s σ H x y v u Q I rx ry h
theorem callOr {f : Value} {r r' : List V → Hp → VK → Prop} (a : CallR X f r) (b : CallR X f r') : CallR X f (fun xs H Q => r xs H Q ∨ r' xs H Q) := by
  intro pins s σ H xs us Q I rx h
  rcases h with h | h
  · exact a pins s σ H xs us Q I rx h
  · exact b pins s σ H xs us Q I rx h
theorem piOr {tg iter : Expr} {w w' : TI} (a : PI X tg iter w) (b : PI X tg iter w') : PI X tg iter (fun σ H R => w σ H R ∨ w' σ H R) := by
  refine ⟨fun pins s σ H R I h => ?_⟩
  rcases h with h | h
  · exact a.run pins s σ H R I h
  · exact b.run pins s σ H R I h
def rAddS : R2 := fun x y H Q => ∃ i j, x = .str i ∧ y = .str j ∧ i.length + j.length ≤ sizeLine ∧ Q (.str (i ++ j)) H
def rAddU (K : PySem.W.Frag) : R2 := fun x y H Q => rI0 (fun i j => .int (i + j)) x y H Q ∨ (rAddS x y H Q ∨ (rCat x y H Q ∨ rCatT K x y H Q))
theorem uo_add : OpR X (binaryOp .Add) (rAddU X.K) := opOr op_add (opOr op_add_str (opOr op_cat op_catT))
def rMulU : R2 := fun x y H Q => rI CMulW (fun i j => .int (i * j)) x y H Q ∨ rRep x y H Q
theorem uo_mul : OpR X (binaryOp .Mult) rMulU := opOr op_mulW op_rep
def rEqU (K : PySem.W.Frag) : R2 := fun x y H Q => rEq x y H Q ∨ rEqD K x y H Q
def rNeU (K : PySem.W.Frag) : R2 := fun x y H Q => rNe x y H Q ∨ rNeD K x y H Q
theorem uo_eq (hu : X.A.units + 64 < cLine) : OpR X (compareOp .Eq) (rEqU X.K) := opOr op_eq (op_eqD hu)
theorem uo_ne (hu : X.A.units + 64 < cLine) : OpR X (compareOp .NotEq) (rNeU X.K) := opOr op_ne (op_neD hu)
def rLenQ (K : PySem.W.Frag) : List V → Hp → VK → Prop := fun xs H Q => ∃ p ys, xs = [.ref p] ∧ (SqL K H p ys ∨ SqT K H p ys) ∧ Q (.int ys.length) H
def rLenStr : List V → Hp → VK → Prop := fun xs H Q => ∃ z, xs = [.str z] ∧ z.length ≤ sizeLine ∧ Q (.int z.length) H
def rLenU (K : PySem.W.Frag) : List V → Hp → VK → Prop := fun xs H Q => rLenQ K xs H Q ∨ rLenStr xs H Q
theorem uc_len : CallR X (.builtin "len") (rLenU X.K) := callOr call_len_seq call_len_str
def rAbs : List V → Hp → VK → Prop := fun xs H Q => ∃ i, xs = [.int i] ∧ Q (.int (if i < 0 then -i else i)) H
theorem uc_abs : CallR X (.builtin "abs") rAbs := call_abs
def rIsiU (K : PySem.W.Frag) : List V → Hp → VK → Prop := fun xs H Q => rIsi K xs H Q ∨ rIsiT K xs H Q
theorem uc_isi : CallR X (.builtin "isinstance") (rIsiU X.K) := callOr call_isi call_isiT
def rInt1 : List V → Hp → VK → Prop := fun xs H Q => (∃ i, xs = [.int i] ∧ Q (.int i) H) ∨ ∃ k, xs = [.bl k] ∧ Q (.int (if k then 1 else 0)) H
theorem uc_int : CallR X (.type "int") rInt1 := call_int1
def rMin2 : List V → Hp → VK → Prop := fun xs H Q => ∃ i j, xs = [.int i, .int j] ∧ Q (.int (if j < i then j else i)) H
def rMax2 : List V → Hp → VK → Prop := fun xs H Q => ∃ i j, xs = [.int i, .int j] ∧ Q (.int (if j > i then j else i)) H
def rMinU (K : PySem.W.Frag) : List V → Hp → VK → Prop := fun xs H Q => rMin2 xs H Q ∨ rMin K xs H Q
def rMaxU (K : PySem.W.Frag) : List V → Hp → VK → Prop := fun xs H Q => rMax2 xs H Q ∨ rMax K xs H Q
theorem uc_min (hc : X.calm = true) : CallR X (.builtin "min") (rMinU X.K) := callOr (call_min2 hc) (cr_min hc)
theorem uc_max (hc : X.calm = true) : CallR X (.builtin "max") (rMaxU X.K) := callOr (call_max2 hc) (cr_max hc)
def rListOf (K : PySem.W.Frag) : List V → Hp → VK → Prop := fun xs H Q => ∃ p ys, xs = [.ref p] ∧ (SqL K H p ys ∨ SqT K H p ys) ∧ ∀ l, H l = none → Q (.ref l) (upd H l (.lst ys))
theorem uc_list : CallR X (.type "list") (rListOf X.K) := call_list_of
def iSeqU (K : PySem.W.Frag) (tl : TE) : TI := fun σ H R => iList K tl σ H R ∨ iTup K tl σ H R
theorem pi_seq {tg l : Expr} {tl : TE} (h : PE X l tl) : PI X tg l (iSeqU X.K tl) := piOr (pi_list h) (pi_tup h)
end

/-! ### a def that may be called -/
structure Cal (P : Program) (w : World) (K : PySem.W.Frag) (mg : Str → Option Value) (base : Heap) (x : Str) (k : Nat) (ps : List Str) (dvs : List V) (sp : Sp) : Prop where
  ex : ∃ (f : Addr) (fd : FuncData) (ds : List Value), FnOk P w K mg base CX0 k f fd ps sp ∧ mg x = some (.ref f) ∧ PySem.W.keepIn K (.ref f) = true ∧ Binds K fd ps ds ∧ Vals dvs ds
section
variable {X : Cx} {x : Str} {p pos : Pos} {e : Expr} {es : List Expr} {t : TA} {k : Nat} {ps : List Str} {dvs : List V} {sp : Sp}
theorem pe_cal (c : Cal X.prog X.w X.K X.mg X.base x k ps dvs sp) (hr : Room k X.A) (hg : Gl X x) (ha : PA X (e :: es) t) (hdb : (x == ("__debug__" : Str)) = false := by decide)
    (he : starEach (e :: es) X.env = (false, eval e X.env) :: starEach es X.env := by rfl) (hpl : (backTo pos (starEach es X.env)).any (·.1) = false := by rfl) : PE X (.Call (.Name x p) (e :: es) [] pos) (tCall sp dvs E0 t) := by
  obtain ⟨f, fd, ds, F, hm, hk, hb, hd⟩ := c.ex
  exact pe_call F hr hg hm hk hb hd pass0 ha hdb he hpl
theorem pe_cal0 (c : Cal X.prog X.w X.K X.mg X.base x k ps dvs sp) (hr : Room k X.A) (hg : Gl X x) (hdb : (x == ("__debug__" : Str)) = false := by decide) : PE X (.Call (.Name x p) [] [] pos) (tCall sp dvs E0 tNil) := by
  obtain ⟨f, fd, ds, F, hm, hk, hb, hd⟩ := c.ex
  exact pe_call0 F hr hg hm hk hb hd pass0 hdb
end

/-! ### steps of a reading -/
section
variable {K : PySem.W.Frag} {σ σ' : L2.St} {I H : Hp} {M M1 M2 : List (Addr × HO)} {Q : VK} {R : Bool → Hp → Prop} {RA : List V → Hp → Prop} {G : Ends} {ta tb tc te : TE} {t u : TS} {c c' : TT} {tA tr : TA} {g : TG} {r r' : R2} {i : Nat} {v x y : V} {xs vs : List V} {d : D} {ds es : List D}
-- statements
theorem s_seq (h : t { G with nx := u G } σ H) : tSeq t u G σ H := h
theorem s_next (h : G.nx σ H) : tNext G σ H := h
theorem s_brk (h : G.bk σ H) : tBreak G σ H := h
theorem s_cnt (h : G.ct σ H) : tCont G σ H := h
theorem s_ifS (h : c σ H fun b H1 => if b = true then t G σ H1 else u G σ H1) : tIfS c t u G σ H := h
theorem s_asg (h : te σ H fun x H1 => g x σ H1 G.nx) : tAsg te g G σ H := h
theorem s_ret (h : te σ H G.rt) : tRet te G σ H := h
theorem s_retN (h : G.rt .non H) : tRetN G σ H := h
theorem s_drop (h : te σ H fun _ H1 => G.nx σ H1) : tDrop te G σ H := h
theorem s_par {i j : Nat} (h : tA σ H fun vs H1 => ∃ v w, vs = [v, w] ∧ G.nx ((σ.set i (some v)).set j (some w)) H1) : tPar i j tA G σ H := h
theorem s_par2 {P : V → V → Prop} (h : P x y) : ∃ v w, [x, y] = [v, w] ∧ P v w := ⟨x, y, rfl, h⟩
theorem s_gname {T : L2.St → Hp → Prop} (h : T (σ.set i (some v)) H) : gName i v σ H T := h
/-- a mid-word: the ways of a statement meet -/
theorem s_mid (Mid : L2.St → Hp → Prop) (k : ∀ σ H, Mid σ H → u G σ H) (h : ∀ N : L2.St → Hp → Prop, (∀ σ' H', Mid σ' H' → N σ' H') → t { G with nx := N } σ H) : tSeq t u G σ H := h _ k
/-- .. (elder form) -/
theorem s_cut (Mid : L2.St → Hp → Prop) (h : t { G with nx := Mid } σ H) (k : ∀ σ H, Mid σ H → u G σ H) (mono : ∀ {G' : Ends}, True := by trivial) (hm : (∀ σ H, Mid σ H → u G σ H) → t { G with nx := Mid } σ H → t { G with nx := u G } σ H) : tSeq t u G σ H := hm k h
-- expressions
theorem s_var (h : σ[i]? = some (some v)) (q : Q v H) : tVar i σ H Q := ⟨v, h, q⟩
theorem s_c (q : Q v H) : tC v σ H Q := q
theorem s_op (h : ta σ H fun x H1 => tb σ H1 fun y H2 => r x y H2 Q) : tOp r ta tb σ H Q := h
theorem s_un {r : V → Hp → VK → Prop} (h : ta σ H fun x H1 => r x H1 Q) : tUn r ta σ H Q := h
theorem s_test (h : ta σ H fun x H' => ∃ k, x = .bl k ∧ R k H') : tTest ta σ H R := h
theorem s_B (h : ta σ H fun x H' => ∃ k, x = .bl k ∧ R k H') : tB ta σ H R := h
theorem s_k {b : Bool} {P : Bool → Prop} (h : P b) : ∃ k, V.bl b = .bl k ∧ P k := ⟨b, rfl, h⟩
theorem s_and (h : c σ H fun b H1 => if b = true then c' σ H1 R else R false H1) : tAnd c c' σ H R := h
theorem s_or (h : c σ H fun b H1 => if b = true then R true H1 else c' σ H1 R) : tOr c c' σ H R := h
theorem s_not (h : c σ H fun b H1 => R (!b) H1) : tNot c σ H R := h
theorem s_andV (h : ta σ H fun x H1 => ∃ c, x = .bl c ∧ if c = true then tb σ H1 Q else Q (.bl false) H1) : tAndV ta tb σ H Q := h
theorem s_orV (h : ta σ H fun x H1 => ∃ c, x = .bl c ∧ if c = true then Q (.bl true) H1 else tb σ H1 Q) : tOrV ta tb σ H Q := h
theorem s_notV (h : ta σ H fun x H1 => ∃ c, x = .bl c ∧ Q (.bl (!c)) H1) : tNotV ta σ H Q := h
theorem s_if (h : c σ H fun b H1 => if b = true then ta σ H1 Q else tb σ H1 Q) : tIf c ta tb σ H Q := h
theorem s_isN (h : ta σ H fun x H1 => Q (.bl (decide (x = .non))) H1) : tIsN ta σ H Q := h
theorem s_notN (h : ta σ H fun x H1 => Q (.bl (!decide (x = .non))) H1) : tNotN ta σ H Q := h
theorem s_chain (h : ta σ H fun x H1 => tb σ H1 fun y H2 => r x y H2 fun z H3 => ∃ k, z = .bl k ∧ if k = true then tc σ H3 fun w H4 => r' y w H4 Q else Q (.bl false) H3) : tChain r r' ta tb tc σ H Q := by
  unfold tChain
  exact h
theorem s_nil (h : RA [] H) : tNil σ H RA := h
theorem s_cons (h : ta σ H fun x H1 => tr σ H1 fun xs H2 => RA (x :: xs) H2) : tCons ta tr σ H RA := h
theorem s_call {sp : Sp} {dvs : List V} {E : XK} (h : tA σ H fun vs H1 => sp (vs ++ dvs) H1 Q E) : tCall sp dvs E tA σ H Q := h
theorem s_cb {r : List V → Hp → VK → Prop} (h : tA σ H fun vs H1 => r vs H1 Q) : tCB r tA σ H Q := h
-- ifs
theorem s_ite {b : Bool} {A B : Prop} (h1 : b = true → A) (h2 : b = false → B) : if b = true then A else B := by
  cases b with
  | true => exact iteT (h1 rfl)
  | false => exact iteF (h2 rfl)
theorem s_iteN {b : Bool} {A B : Prop} (h : if b = true then B else A) : if (!b) = true then A else B := by
  cases b with
  | true => exact iteF (by simpa using h)
  | false => exact iteT (by simpa using h)
theorem s_iteD {p : Prop} [Decidable p] {A B : Prop} (h1 : p → A) (h2 : ¬ p → B) : if decide p = true then A else B := s_ite (fun h => h1 (of_decide_eq_true h)) fun h => h2 (of_decide_eq_false h)
theorem s_iteDp {p : Prop} [Decidable p] {A B : Prop} (hp : p) (h1 : A) : if decide p = true then A else B := s_iteD (fun _ => h1) fun q => absurd hp q
theorem s_iteDn {p : Prop} [Decidable p] {A B : Prop} (hp : ¬ p) (h1 : B) : if decide p = true then A else B := s_iteD (fun q => absurd q hp) fun _ => h1
theorem s_iteI {i j : Int} {A B : Prop} (h1 : i = j → A) (h2 : i ≠ j → B) : if decide (V.int i = V.int j) = true then A else B := s_iteD (fun h => h1 (V.int.inj h)) fun h => h2 fun e => h (congrArg V.int e)
theorem s_iteIp {i j : Int} {A B : Prop} (hp : i = j) (h1 : A) : if decide (V.int i = V.int j) = true then A else B := s_iteI (fun _ => h1) fun q => absurd hp q
theorem s_iteIn {i j : Int} {A B : Prop} (hp : i ≠ j) (h1 : B) : if decide (V.int i = V.int j) = true then A else B := s_iteI (fun q => absurd q hp) fun _ => h1
-- ints
theorem s_I0 {f : Int → Int → V} {i j : Int} (q : Q (f i j) H) : rI0 f (.int i) (.int j) H Q := ⟨i, j, rfl, rfl, q⟩
theorem s_I {C : Int → Int → Prop} {f : Int → Int → V} {i j : Int} (hc : C i j) (q : Q (f i j) H) : rI C f (.int i) (.int j) H Q := ⟨i, j, rfl, rfl, hc, q⟩
theorem s_U {f : Int → V} {i : Int} (q : Q (f i) H) : rU f (.int i) H Q := ⟨i, rfl, q⟩
theorem s_add {i j : Int} (q : Q (.int (i + j)) H) : rAddU K (.int i) (.int j) H Q := .inl ⟨i, j, rfl, rfl, q⟩
theorem s_addS {i j : Str} (h : i.length + j.length ≤ sizeLine) (q : Q (.str (i ++ j)) H) : rAddU K (.str i) (.str j) H Q := .inr (.inl ⟨i, j, rfl, rfl, h, q⟩)
theorem s_mul {i j : Int} (hc : CMulW i j) (q : Q (.int (i * j)) H) : rMulU (.int i) (.int j) H Q := .inl ⟨i, j, rfl, rfl, hc, q⟩
theorem s_eq (h : scal x y = true) (q : Q (.bl (decide (x = y))) H) : rEqU K x y H Q := .inl ⟨h, q⟩
theorem s_ne (h : scal x y = true) (q : Q (.bl (!decide (x = y))) H) : rNeU K x y H Q := .inl ⟨h, q⟩
theorem s_abs {i : Int} (q : Q (.int (if i < 0 then -i else i)) H) : rAbs [.int i] H Q := ⟨i, rfl, q⟩
theorem s_intB {b : Bool} (q : Q (.int (if b then 1 else 0)) H) : rInt1 [.bl b] H Q := .inr ⟨b, rfl, q⟩
theorem s_intI {i : Int} (q : Q (.int i) H) : rInt1 [.int i] H Q := .inl ⟨i, rfl, q⟩
theorem s_min2 {i j : Int} (q : Q (.int (if j < i then j else i)) H) : rMinU K [.int i, .int j] H Q := .inl ⟨i, j, rfl, q⟩
theorem s_max2 {i j : Int} (q : Q (.int (if j > i then j else i)) H) : rMaxU K [.int i, .int j] H Q := .inl ⟨i, j, rfl, q⟩
-- reading what stays
theorem atI_isa {i : Int} (a : IsA I vs ds) (h : atI ds i = some d) : ∃ v, atI vs i = some v ∧ Is I v d := by
  unfold atI at h ⊢
  rw [a.length]
  cases e : ixN ds.length i with
  | none => rw [e] at h; cases h
  | some j => rw [e] at h; exact a.get h
theorem s_ixT {i : Int} (w : W I H M) (h : Is I v (.tup ds)) (hd : atI ds i = some d) (q : ∀ u, Is I u d → Q u H) : rIx K v (.int i) H Q := by
  obtain ⟨p, vs, rfl, hp, a⟩ := h.tup_ex
  obtain ⟨u, e, hu⟩ := atI_isa a hd
  exact .inr (.inl ⟨p, vs, i, u, rfl, rfl, .inl (.inl (w.imm _ _ hp)), e, q u hu⟩)
theorem s_ixL {i : Int} (w : W I H M) (h : Is I v (.lst ds)) (hd : atI ds i = some d) (q : ∀ u, Is I u d → Q u H) : rIx K v (.int i) H Q := by
  obtain ⟨p, vs, rfl, hp, a⟩ := h.lst_ex
  obtain ⟨u, e, hu⟩ := atI_isa a hd
  exact .inl ⟨p, vs, i, u, rfl, rfl, .inl (.inl (w.imm _ _ hp)), e, q u hu⟩
/-- .. of a list that may be changed -/
theorem s_ixM {p : Addr} {i : Int} (h : H p = some (.lst vs)) (hd : atI vs i = some v) (q : Q v H) : rIx K (.ref p) (.int i) H Q := .inl ⟨p, vs, i, v, rfl, rfl, .inl (.inl h), hd, q⟩
theorem s_lenL (w : W I H M) (h : Is I v (.lst ds)) (q : Q (.int ds.length) H) : rLenU K [v] H Q := by
  obtain ⟨p, vs, rfl, hp, a⟩ := h.lst_ex
  exact .inl ⟨p, vs, rfl, .inl (.inl (.inl (w.imm _ _ hp))), by rw [a.length]; exact q⟩
theorem s_lenT (w : W I H M) (h : Is I v (.tup ds)) (q : Q (.int ds.length) H) : rLenU K [v] H Q := by
  obtain ⟨p, vs, rfl, hp, a⟩ := h.tup_ex
  exact .inl ⟨p, vs, rfl, .inr (.inl (.inl (w.imm _ _ hp))), by rw [a.length]; exact q⟩
theorem s_lenM {p : Addr} (h : H p = some (.lst vs)) (q : Q (.int vs.length) H) : rLenU K [.ref p] H Q := .inl ⟨p, vs, rfl, .inl (.inl (.inl h)), q⟩
-- new things
def NewT (Q : VK) (xs : List V) (H : Hp) : Prop := xs.length ≤ sizeLine ∧ ∀ p, H p = none → Q (.ref p) (upd H p (.tup xs))
def NewL (Q : VK) (xs : List V) (H : Hp) : Prop := xs.length ≤ sizeLine ∧ ∀ p, H p = none → Q (.ref p) (upd H p (.lst xs))
theorem s_tup (h : tA σ H fun xs H1 => NewT Q xs H1) : tTup tA σ H Q := h
theorem s_lst (h : tA σ H fun xs H1 => NewL Q xs H1) : tLst tA σ H Q := h
theorem s_newT (w : W I H M) (a : IsA I xs ds) (hz : xs.length ≤ 1000) (q : ∀ p J H', Same I J → I p = none → W J H' M → Is J (.ref p) (.tup ds) → Q (.ref p) H') : NewT Q xs H :=
  ⟨Nat.le_trans hz (by decide), fun p hp => q p _ _ (w.same hp) (w.fresh hp) (w.newI hp) (.tup upd_same (a.mono (w.same hp)))⟩
theorem s_newL (w : W I H M) (a : IsA I xs ds) (hz : xs.length ≤ 1000) (q : ∀ p J H', Same I J → I p = none → W J H' M → Is J (.ref p) (.lst ds) → Q (.ref p) H') : NewL Q xs H :=
  ⟨Nat.le_trans hz (by decide), fun p hp => q p _ _ (w.same hp) (w.fresh hp) (w.newI hp) (.lst upd_same (a.mono (w.same hp)))⟩
theorem s_newM (w : W I H M) (hz : xs.length ≤ 1000) (q : ∀ p H', W I H' ((p, .lst xs) :: M) → Q (.ref p) H') : NewL Q xs H :=
  ⟨Nat.le_trans hz (by decide), fun p hp => q p _ (w.newM hp)⟩
/-- .. behind the head (the bag) -/
theorem s_newM2 {m : Addr × HO} (w : W I H (m :: M)) (hz : xs.length ≤ 1000) (q : ∀ p H', W I H' (m :: (p, .lst xs) :: M) → Q (.ref p) H') : NewL Q xs H :=
  ⟨Nat.le_trans hz (by decide), fun p hp => q p _ (w.newM2 hp)⟩
-- unpacking
theorem s_gtup {n : Nat} {gs : TGs} {T : L2.St → Hp → Prop} (w : W I H M) (h : Is I v (.tup ds)) (hn : ds.length = n) (q : ∀ xs, IsA I xs ds → gs xs σ H T) : gTup K n gs v σ H T := by
  obtain ⟨p, vs, rfl, hp, a⟩ := h.tup_ex
  exact ⟨p, vs, rfl, .inl (.inl (w.imm _ _ hp)), by rw [a.length]; exact hn, q vs a⟩
theorem s_gtup2 {gs : TGs} {T : L2.St → Hp → Prop} {d0 d1 : D} (w : W I H M) (h : Is I v (.tup [d0, d1])) (q : ∀ x y, Is I x d0 → Is I y d1 → gs [x, y] σ H T) : gTup K 2 gs v σ H T :=
  s_gtup w h rfl fun _ a => by
    cases a with | cons h0 a =>
    cases a with | cons h1 a =>
    cases a
    exact q _ _ h0 h1
theorem s_gtup3 {gs : TGs} {T : L2.St → Hp → Prop} {d0 d1 d2 : D} (w : W I H M) (h : Is I v (.tup [d0, d1, d2])) (q : ∀ x y z, Is I x d0 → Is I y d1 → Is I z d2 → gs [x, y, z] σ H T) : gTup K 3 gs v σ H T :=
  s_gtup w h rfl fun _ a => by
    cases a with | cons h0 a =>
    cases a with | cons h1 a =>
    cases a with | cons h2 a =>
    cases a
    exact q _ _ _ h0 h1 h2
theorem s_gtup4 {gs : TGs} {T : L2.St → Hp → Prop} {d0 d1 d2 d3 : D} (w : W I H M) (h : Is I v (.tup [d0, d1, d2, d3])) (q : ∀ x y z u, Is I x d0 → Is I y d1 → Is I z d2 → Is I u d3 → gs [x, y, z, u] σ H T) : gTup K 4 gs v σ H T :=
  s_gtup w h rfl fun _ a => by
    cases a with | cons h0 a =>
    cases a with | cons h1 a =>
    cases a with | cons h2 a =>
    cases a with | cons h3 a =>
    cases a
    exact q _ _ _ _ h0 h1 h2 h3
theorem s_gtup5 {gs : TGs} {T : L2.St → Hp → Prop} {d0 d1 d2 d3 d4 : D} (w : W I H M) (h : Is I v (.tup [d0, d1, d2, d3, d4])) (q : ∀ x y z u t, Is I x d0 → Is I y d1 → Is I z d2 → Is I u d3 → Is I t d4 → gs [x, y, z, u, t] σ H T) : gTup K 5 gs v σ H T :=
  s_gtup w h rfl fun _ a => by
    cases a with | cons h0 a =>
    cases a with | cons h1 a =>
    cases a with | cons h2 a =>
    cases a with | cons h3 a =>
    cases a with | cons h4 a =>
    cases a
    exact q _ _ _ _ _ h0 h1 h2 h3 h4
theorem s_gnil {T : L2.St → Hp → Prop} (q : T σ H) : gNil [] σ H T := ⟨rfl, q⟩
theorem s_gcons {gs : TGs} {T : L2.St → Hp → Prop} (h : g x σ H fun σ' H' => gs xs σ' H' T) : gCons g gs (x :: xs) σ H T := ⟨x, xs, rfl, h⟩
-- fields
theorem s_fld {f : Str} (h : ta σ H fun x H1 => ∃ a C dx fs v, x = .ref a ∧ H1 a = some (.ins C dx fs) ∧ Cls K C ∧ NoAttr K C f ∧ fs.lookup f = some v ∧ Q v H1) : tFld K ta f σ H Q := h
theorem s_fldAt {C : Addr} {f : Str} {fs : List (Str × D)} (w : W I H M) (h : Is I v (.obj C fs)) (hc : Cls K C) (hn : NoAttr K C f) (hd : fs.lookup f = some d) (q : ∀ u, Is I u d → Q u H) :
    ∃ a C dx fs u, v = .ref a ∧ H a = some (.ins C dx fs) ∧ Cls K C ∧ NoAttr K C f ∧ fs.lookup f = some u ∧ Q u H := by
  obtain ⟨p, dx, vs, rfl, hp, a⟩ := h.obj_ex
  obtain ⟨u, e, hu⟩ := a.get hd
  exact ⟨p, C, dx, vs, u, rfl, w.imm _ _ hp, hc, hn, e, q u hu⟩
-- isinstance
def D.tn : D → Option String
  | .non => some "NoneType" | .bl _ => some "bool" | .int _ => some "int" | .str _ => some "str" | .tup _ => some "tuple" | .lst _ => some "list" | .dict => some "dict" | _ => none
theorem Is.tyx {a : String} (w : W I H M) (h : Is I v d) (e : d.tn = some a) : TyX K H v (.type a) := by
  cases h with
  | non => cases e; exact .base .non
  | bl b => cases e; exact .base (.bl b)
  | int n => cases e; exact .base (.int n)
  | str n => cases e; exact .base (.str n)
  | tup hp _ => cases e; exact .base (.tup (w.imm _ _ hp))
  | lst hp _ => cases e; exact .base (.lst (w.imm _ _ hp))
  | ref a => cases e
  | ty n => cases e
  | obj _ _ => cases e
  | dct hp => cases e; exact .base (.dK (w.imm _ _ hp))
  | fact _ _ => cases e
theorem s_isi {a b : String} {k : Bool} (w : W I H M) (h : Is I v d) (e : d.tn = some a) (hb : kitB a b = some k) (q : Q (.bl k) H) : rIsiU K [v, .ty b] H Q :=
  .inl ⟨v, .ty b, .type a, .type b, k, rfl, .ty b, h.tyx w e, kit_ty hb, q⟩
theorem kit_ii : kitB "int" "int" = some true := by decide +kernel
theorem kit_ib : kitB "int" "bool" = some false := by decide +kernel
theorem kit_bi : kitB "bool" "int" = some true := by decide +kernel
theorem kit_bb : kitB "bool" "bool" = some true := by decide +kernel
theorem kit_tt : kitB "tuple" "tuple" = some true := by decide +kernel
theorem kit_ll : kitB "list" "list" = some true := by decide +kernel
end
end Fs

namespace Fs
open PySem PySem.Spec PyProof.Rows L2

/-! ### the built-ins' names -/
structure Bn (mg : Str → Option Value) : Prop where
  len_ : mg "len" = none
  abs_ : mg "abs" = none
  isinstance_ : mg "isinstance" = none
  min_ : mg "min" = none
  max_ : mg "max" = none
  sum_ : mg "sum" = none
  sorted_ : mg "sorted" = none
  range_ : mg "range" = none
  zip_ : mg "zip" = none
  enumerate_ : mg "enumerate" = none
  reversed_ : mg "reversed" = none
  int_ : mg "int" = none
  bool_ : mg "bool" = none
  tuple_ : mg "tuple" = none
  list_ : mg "list" = none
  str_ : mg "str" = none
  dict_ : mg "dict" = none
  ValueError_ : mg "ValueError" = none
  set_ : mg "set" = none
  any_ : mg "any" = none
  all_ : mg "all" = none
  ord_ : mg "ord" = none
section
variable {X : Cx} {pos : Pos}
theorem pe_globI {x : Str} {n : Int} (hg : Gl X x) (hm : ∃ t, X.mg x = some (.int n t)) (hd : (x == ("__debug__" : Str)) = false := by decide) : PE X (.Name x pos) (tC (.int n)) := by
  obtain ⟨t, e⟩ := hm
  exact pe_glob hg e ⟨t, rfl⟩ hd
theorem get_list : PGet X (rIxL X.K) := by
  intro pins s σ H x y v u Q I rx ry h
  obtain ⟨p, xs, i, z, rfl, rfl, hq, he, q⟩ := h
  cases rx
  obtain ⟨t, rfl⟩ := ry
  obtain ⟨its, r, pl, hz⟩ := I.list hq
  obtain ⟨j, h1, h2, h3, h4, h5⟩ := atI_get he
  obtain ⟨w, ew, rw'⟩ := r.get h2
  have hl := r.length
  have hn := line63
  have fin : EP X pins σ Q w s := ⟨z, H, I, rw', q⟩
  by_cases h0 : 0 ≤ i
  · have hj : i.toNat = j := by
      rw [seqIndex_of h0 h5] at h1
      exact Option.some.inj h1
    exact wpAny_getItem_list pl.isList h0 (by omega) (by rw [hj]; simpa using ew) fin
  · have hj : (i + (its.toArray.size : Int)).toNat = j := by
      rw [seqIndex_neg (by omega) h4] at h1
      rw [List.size_toArray, ← hl]
      exact Option.some.inj h1
    exact wpAny_getItem_list_neg pl.isList (by omega) (by rw [List.size_toArray] <;> omega) (by omega) (by rw [hj]; simpa using ew) fin
theorem ps_augL {o i e : Expr} {to ti te : TE} {tpos : Pos} (ho : PE X o to) (hi : PE X i ti) (he : PE X e te)
    (ha : ∀ ov iv new, augStore i ov iv new = (do holding [new, ov, iv] (setItem ov iv new); release [new, ov, iv] []; pure .next) := by intros; rfl) : PS X (.AugAssign (.Subscript o i tpos) .Add e pos) (tAugS to ti te (rIxL X.K) (ipI fun i j => i + j) rSetL) :=
  ps_augS ho hi get_list he ip_add set_list ha
end

/-! ### loops -/
section
variable {K : PySem.W.Frag} {σ : L2.St} {I H : Hp} {M : List (Addr × HO)} {G : Ends} {c : TT} {tb : TS} {g : TG}
theorem s_while (Pv : L2.St → Hp → Prop) (μ : L2.St → Nat) (h0 : Pv σ H)
    (hs : ∀ σ H, Pv σ H → c σ H fun b H1 => if b = true then ∃ N : L2.St → Hp → Prop, (∀ σ' H', N σ' H' → ∃ m', m' < μ σ ∧ m' = μ σ' ∧ Pv σ' H') ∧ tb { G with nx := N, ct := N, bk := G.nx } σ H1 else G.nx σ H1) : tWhile c tb G σ H := by
  refine ⟨fun m σ H => m = μ σ ∧ Pv σ H, ⟨_, rfl, h0⟩, ?_⟩
  rintro m σ H ⟨rfl, p⟩
  exact hs σ H p
theorem s_wN {Pv : L2.St → Hp → Prop} {μ : L2.St → Nat} {m : Nat} {σ1 : L2.St} (h : tb { G with nx := fun σ' H' => Pv σ' H' ∧ μ σ' < m, ct := fun σ' H' => Pv σ' H' ∧ μ σ' < m, bk := G.nx } σ1 H) :
    ∃ N : L2.St → Hp → Prop, (∀ σ' H', N σ' H' → ∃ m', m' < m ∧ m' = μ σ' ∧ Pv σ' H') ∧ tb { G with nx := N, ct := N, bk := G.nx } σ1 H :=
  ⟨_, fun _ _ h => ⟨_, h.2, rfl, h.1⟩, h⟩
theorem s_for {wi : TI} (h : wi σ H fun J H1 => ∃ W : Nat → Nat → L2.St → Hp → Prop, (∃ m, W 0 m σ H1) ∧ ∀ i m σ H, W i m σ H →
  (J.stop i H ∧ G.nx σ H) ∨ (J.go i H ∧ ∃ N : L2.St → Hp → Prop, (∀ σ' H', N σ' H' → ∃ m', m' < m ∧ W (i + 1) m' σ' H') ∧ ∀ x H', J.yld i H x H' → g x σ H' fun σ2 H2 => tb { G with nx := N, ct := N, bk := G.nx } σ2 H2)) : tFor wi g tb G σ H := h
theorem s_rng1 {ta : TA} {R : It → Hp → Prop} (h : ta σ H fun vs H1 => ∃ j : Int, vs = [.int j] ∧ -(2 ^ 62) ≤ j ∧ j < 2 ^ 62 ∧ R (Itr 0 j.toNat) H1) : iRng1 ta σ H R := h
theorem s_rng1' {P : Int → Prop} {j : Int} (h1 : -(2 ^ 62) ≤ j) (h2 : j < 2 ^ 62) (h : P j) : ∃ i : Int, [V.int j] = [.int i] ∧ -(2 ^ 62) ≤ i ∧ i < 2 ^ 62 ∧ P i := ⟨j, rfl, h1, h2, h⟩
theorem s_iL {tl : TE} {R : It → Hp → Prop} (h : tl σ H fun x H1 => ∃ a, x = .ref a ∧ (∃ xs, SqL K H1 a xs) ∧ R (Itl K a) H1) : iList K tl σ H R := h
theorem s_iT {tl : TE} {R : It → Hp → Prop} (h : tl σ H fun x H1 => ∃ a, x = .ref a ∧ (∃ xs, SqT K H1 a xs) ∧ R (Itt K a) H1) : iTup K tl σ H R := h
/-- a for over a list that stays: the word Pv over the turn, the slots, the heap; it says W of an extension of I -/
theorem s_forL {ds : List D} {v : V} (w : W I H M) (h : Is I v (.lst ds)) (Pv : Nat → L2.St → Hp → Prop) (h0 : Pv 0 σ H) (hI : ∀ i σ H, Pv i σ H → Same I H)
    (hs : ∀ i d x σ H, ds[i]? = some d → Is I x d → Pv i σ H → g x σ H fun σ2 H2 => tb { G with nx := Pv (i + 1), ct := Pv (i + 1), bk := G.nx } σ2 H2) (hd : ∀ σ H, Pv ds.length σ H → G.nx σ H) :
    ∃ a, v = .ref a ∧ (∃ xs, SqL K H a xs) ∧ ∃ W : Nat → Nat → L2.St → Hp → Prop, (∃ m, W 0 m σ H) ∧ ∀ i m σ H, W i m σ H →
      ((Itl K a).stop i H ∧ G.nx σ H) ∨ ((Itl K a).go i H ∧ ∃ N : L2.St → Hp → Prop, (∀ σ' H', N σ' H' → ∃ m', m' < m ∧ W (i + 1) m' σ' H') ∧ ∀ x H', (Itl K a).yld i H x H' → g x σ H' fun σ2 H2 => tb { G with nx := N, ct := N, bk := G.nx } σ2 H2) := by
  obtain ⟨p, vs, rfl, hp, a⟩ := h.lst_ex
  refine ⟨p, rfl, ⟨vs, .inl (.inl (w.imm _ _ hp))⟩, ?_⟩
  refine for_it (walk_list (K := K) (xs := vs)) Pv h0 (fun i σ H _ q => .inl (.inl (hI i σ H q _ _ hp))) (fun i x σ H H' hi q y => ?_) (fun σ H q => hd σ H (by rw [← a.length]; exact q))
  obtain ⟨rfl, e⟩ := y
  obtain ⟨d, e1, e2⟩ := a.of e
  exact hs i d x σ _ e1 e2 q
theorem s_forT {ds : List D} {v : V} (w : W I H M) (h : Is I v (.tup ds)) (Pv : Nat → L2.St → Hp → Prop) (h0 : Pv 0 σ H) (hI : ∀ i σ H, Pv i σ H → Same I H)
    (hs : ∀ i d x σ H, ds[i]? = some d → Is I x d → Pv i σ H → g x σ H fun σ2 H2 => tb { G with nx := Pv (i + 1), ct := Pv (i + 1), bk := G.nx } σ2 H2) (hd : ∀ σ H, Pv ds.length σ H → G.nx σ H) :
    ∃ a, v = .ref a ∧ (∃ xs, SqT K H a xs) ∧ ∃ W : Nat → Nat → L2.St → Hp → Prop, (∃ m, W 0 m σ H) ∧ ∀ i m σ H, W i m σ H →
      ((Itt K a).stop i H ∧ G.nx σ H) ∨ ((Itt K a).go i H ∧ ∃ N : L2.St → Hp → Prop, (∀ σ' H', N σ' H' → ∃ m', m' < m ∧ W (i + 1) m' σ' H') ∧ ∀ x H', (Itt K a).yld i H x H' → g x σ H' fun σ2 H2 => tb { G with nx := N, ct := N, bk := G.nx } σ2 H2) := by
  obtain ⟨p, vs, rfl, hp, a⟩ := h.tup_ex
  refine ⟨p, rfl, ⟨vs, .inl (.inl (w.imm _ _ hp))⟩, ?_⟩
  refine for_it (walk_tup (K := K) (xs := vs)) Pv h0 (fun i σ H _ q => .inl (.inl (hI i σ H q _ _ hp))) (fun i x σ H H' hi q y => ?_) (fun σ H q => hd σ H (by rw [← a.length]; exact q))
  obtain ⟨rfl, e⟩ := y
  obtain ⟨d, e1, e2⟩ := a.of e
  exact hs i d x σ _ e1 e2 q
theorem s_forR {lo : Int} {n : Nat} (Pv : Nat → L2.St → Hp → Prop) (h0 : Pv 0 σ H)
    (hs : ∀ i σ H, i < n → Pv i σ H → g (.int (lo + i)) σ H fun σ2 H2 => tb { G with nx := Pv (i + 1), ct := Pv (i + 1), bk := G.nx } σ2 H2) (hd : ∀ σ H, Pv n σ H → G.nx σ H) :
    ∃ W : Nat → Nat → L2.St → Hp → Prop, (∃ m, W 0 m σ H) ∧ ∀ i m σ H, W i m σ H →
      ((Itr lo n).stop i H ∧ G.nx σ H) ∨ ((Itr lo n).go i H ∧ ∃ N : L2.St → Hp → Prop, (∀ σ' H', N σ' H' → ∃ m', m' < m ∧ W (i + 1) m' σ' H') ∧ ∀ x H', (Itr lo n).yld i H x H' → g x σ H' fun σ2 H2 => tb { G with nx := N, ct := N, bk := G.nx } σ2 H2) := for_range Pv h0 hs hd
end

/-! ### changing a list -/
section
variable {K : PySem.W.Frag} {σ : L2.St} {I H : Hp} {M : List (Addr × HO)} {Q : VK} {x v : V} {xs vs : List V} {p : Addr} {ta te ti : TE} {tA : TA}
theorem s_bm {T : String} {r : V → List V → Hp → VK → Prop} (h : ta σ H fun x H1 => tyV K T x H1 ∧ tA σ H1 fun xs H2 => r x xs H2 Q) : tBM K T r ta tA σ H Q := h
theorem s_bm0 {T : String} {r : V → List V → Hp → VK → Prop} (h : ta σ H fun x H1 => tyV K T x H1 ∧ r x [] H1 Q) : tBM0 K T r ta σ H Q := h
theorem s_tyL {A : Prop} (h : H p = some (.lst xs)) (a : A) : tyV K "list" (.ref p) H ∧ A := ⟨.inl ⟨rfl, _, .inl (.inl h)⟩, a⟩
theorem s_app (h : H p = some (.lst xs)) (hz : xs.length ≤ 100000) (q : Q .non (upd H p (.lst (xs ++ [x])))) : rAppend (.ref p) [x] H Q := ⟨p, xs, x, rfl, rfl, h, Nat.lt_of_le_of_lt hz (by decide), q⟩
theorem s_clear (h : H p = some (.lst xs)) (q : Q .non (upd H p (.lst []))) : rClear (.ref p) [] H Q := ⟨p, xs, rfl, rfl, h, q⟩
theorem s_gsub {T : L2.St → Hp → Prop} {t : TSet} (h : ta σ H fun o H1 => ti σ H1 fun i H2 => t o i v H2 fun H3 => T σ H3) : gSub ta ti t v σ H T := h
theorem s_setL {T : Hp → Prop} {k : Int} {j : Nat} (h : H p = some (.lst xs)) (hj : ixN xs.length k = some j) (q : T (upd H p (.lst (xs.set j v)))) : rSetL (.ref p) (.int k) v H T := ⟨p, xs, k, j, rfl, rfl, h, hj, q⟩
theorem s_augS {G : Ends} {tget : V → V → Hp → VK → Prop} {tip : TIp} {tset : TSet} (h : ta σ H fun o H1 => ti σ H1 fun i H2 => tget o i H2 fun x H3 => te σ H3 fun y H4 => tip x y H4 fun z H5 => tset o i z H5 fun H6 => G.nx σ H6) : tAugS ta ti te tget tip tset G σ H := h
theorem s_ixLM {k : Int} (h : H p = some (.lst xs)) (hd : atI xs k = some v) (q : Q v H) : rIxL K (.ref p) (.int k) H Q := ⟨p, xs, k, v, rfl, rfl, .inl (.inl h), hd, q⟩
theorem s_ipI {f : Int → Int → Int} {i j : Int} (q : Q (.int (f i j)) H) : ipI f (.int i) (.int j) H Q := ⟨i, j, rfl, rfl, q⟩
def RevQ (K : PySem.W.Frag) (Q : VK) (v : V) (H : Hp) : Prop := ∃ a xs, v = .ref a ∧ SqL K H a xs ∧ ∀ p, H p = none → Q (.ref p) (upd H p (.lst xs.reverse))
theorem s_rev (h : te σ H fun x H1 => RevQ K Q x H1) : tRevL K te σ H Q := h
theorem s_rev' {ds : List D} (w : W I H M) (h : Is I v (.lst ds)) (q : ∀ p J H', Same I J → I p = none → W J H' M → Is J (.ref p) (.lst ds.reverse) → Q (.ref p) H') : RevQ K Q v H := by
  obtain ⟨p, vs, rfl, hp, a⟩ := h.lst_ex
  exact ⟨p, vs, rfl, .inl (.inl (w.imm _ _ hp)), fun l hl => q l _ _ (w.same hl) (w.fresh hl) (w.newI hl) (.lst upd_same (a.rev.mono (w.same hl)))⟩
end

section
variable {K : PySem.W.Frag} {σ : L2.St} {I H : Hp} {M : List (Addr × HO)} {Q : VK} {x v : V} {xs vs : List V} {p : Addr} {ta te ti : TE} {tA : TA} {m0 m1 : Addr × HO} {d0 d1 : D} {ds : List D}
theorem s_setW0 {T : Hp → Prop} {k : Int} {j : Nat} (w : W I H ((p, .lst xs) :: M)) (hj : ixN xs.length k = some j) (q : ∀ H', W I H' ((p, .lst (xs.set j v)) :: M) → T H') : rSetL (.ref p) (.int k) v H T := s_setL w.at0 hj (q _ w.put0)
theorem s_setW1 {T : Hp → Prop} {k : Int} {j : Nat} (w : W I H (m0 :: (p, .lst xs) :: M)) (hj : ixN xs.length k = some j) (q : ∀ H', W I H' (m0 :: (p, .lst (xs.set j v)) :: M) → T H') : rSetL (.ref p) (.int k) v H T := s_setL w.at1 hj (q _ w.put1)
theorem s_appW0 (w : W I H ((p, .lst xs) :: M)) (hz : xs.length ≤ 100000) (q : ∀ H', W I H' ((p, .lst (xs ++ [x])) :: M) → Q .non H') : rAppend (.ref p) [x] H Q := s_app w.at0 hz (q _ w.put0)
theorem s_appW1 (w : W I H (m0 :: (p, .lst xs) :: M)) (hz : xs.length ≤ 100000) (q : ∀ H', W I H' (m0 :: (p, .lst (xs ++ [x])) :: M) → Q .non H') : rAppend (.ref p) [x] H Q := s_app w.at1 hz (q _ w.put1)
theorem s_appW2 (w : W I H (m0 :: m1 :: (p, .lst xs) :: M)) (hz : xs.length ≤ 100000) (q : ∀ H', W I H' (m0 :: m1 :: (p, .lst (xs ++ [x])) :: M) → Q .non H') : rAppend (.ref p) [x] H Q := s_app w.at2 hz (q _ w.put2)
theorem W.frz0 {o : HO} (w : W I H ((p, o) :: M)) : W (upd I p o) H M := W.frz (M1 := []) w
theorem W.frz1 {o : HO} (w : W I H (m0 :: (p, o) :: M)) : W (upd I p o) H (m0 :: M) := W.frz (M1 := [m0]) w
theorem W.frz2 {o : HO} (w : W I H (m0 :: m1 :: (p, o) :: M)) : W (upd I p o) H (m0 :: m1 :: M) := W.frz (M1 := [m0, m1]) w
theorem W.frzS0 {o : HO} (w : W I H ((p, o) :: M)) : Same I (upd I p o) := W.frzS (M1 := []) w
theorem W.frzS1 {o : HO} (w : W I H (m0 :: (p, o) :: M)) : Same I (upd I p o) := W.frzS (M1 := [m0]) w
theorem W.frzS2 {o : HO} (w : W I H (m0 :: m1 :: (p, o) :: M)) : Same I (upd I p o) := W.frzS (M1 := [m0, m1]) w
/-- a list that grew stays from now on -/
theorem W.done0 (w : W I H ((p, .lst vs) :: M)) (a : IsA I vs ds) : ∃ J, Same I J ∧ W J H M ∧ Is J (.ref p) (.lst ds) := ⟨_, w.frzS0, w.frz0, .lst upd_same (a.mono w.frzS0)⟩
theorem W.done1 (w : W I H (m0 :: (p, .lst vs) :: M)) (a : IsA I vs ds) : ∃ J, Same I J ∧ W J H (m0 :: M) ∧ Is J (.ref p) (.lst ds) := ⟨_, w.frzS1, w.frz1, .lst upd_same (a.mono w.frzS1)⟩
theorem W.done2 (w : W I H (m0 :: m1 :: (p, .lst vs) :: M)) (a : IsA I vs ds) : ∃ J, Same I J ∧ W J H (m0 :: m1 :: M) ∧ Is J (.ref p) (.lst ds) := ⟨_, w.frzS2, w.frz2, .lst upd_same (a.mono w.frzS2)⟩
-- an item by an open place
theorem at_nat {α : Type} {l : List α} {i : Int} (h0 : 0 ≤ i) (h1 : i < l.length) : ∃ d, d ∈ l ∧ atI l i = some d := by
  have h2 : i.toNat < l.length := by omega
  have e : (i.toNat : Int) = i := by omega
  refine ⟨l[i.toNat], List.getElem_mem h2, ?_⟩
  have q := atI_nat (List.getElem?_eq_getElem h2)
  rw [e] at q
  exact q
theorem at_ints {ns : List Int} {z : Int} (h0 : 0 ≤ z) (h1 : z < ns.length) : ∃ n, n ∈ ns ∧ atI (ns.map D.int) z = some (.int n) := by
  obtain ⟨d, hd, e⟩ := at_nat (l := ns.map D.int) h0 (by simpa using h1)
  obtain ⟨n, hn, rfl⟩ := List.mem_map.mp hd
  exact ⟨n, hn, e⟩
theorem s_ixAny {i : Int} (w : W I H M) (h : Is I v (.lst ds)) (h0 : 0 ≤ i) (h1 : i < ds.length) (q : ∀ d u, d ∈ ds → Is I u d → Q u H) : rIx K v (.int i) H Q := by
  obtain ⟨d, hd, e⟩ := at_nat h0 h1
  exact s_ixL w h e fun u hu => q d u hd hu
theorem s_ixB {b : Bool} {m n : Int} (w : W I H M) (h : Is I v (.lst [.int m, .int n])) (q : ∀ k, k = m ∨ k = n → Q (.int k) H) : rIx K v (.int (if b then 1 else 0)) H Q := by
  cases b with
  | true => exact s_ixL w h (d := .int n) rfl fun u hu => by rw [hu.int_eq]; exact q n (.inr rfl)
  | false => exact s_ixL w h (d := .int m) rfl fun u hu => by rw [hu.int_eq]; exact q m (.inl rfl)
-- slices
theorem s_sl {r : V → Option Int → Option Int → Hp → VK → Prop} {tl th : TO} (h : te σ H fun x H1 => tl σ H1 fun lo H2 => th σ H2 fun hi H3 => r x lo hi H3 Q) : tSl r te tl th σ H Q := h
theorem s_noP {R : Option Int → Hp → Prop} (h : R none H) : tNoPart σ H R := h
theorem s_part {R : Option Int → Hp → Prop} (h : te σ H fun x H1 => ∃ i, x = .int i ∧ R (some i) H1) : tPart te σ H R := h
theorem s_part' {P : Int → Prop} {i : Int} (h : P i) : ∃ j, V.int i = .int j ∧ P j := ⟨i, rfl, h⟩
theorem s_slK {a : Addr} {lo hi : Option Int} (h : SqL K H a xs) (q : ∀ p, H p = none → Q (.ref p) (upd H p (.lst (cutV xs lo hi)))) : rSlL K (.ref a) lo hi H Q := ⟨a, xs, rfl, h, q⟩
-- comprehensions
theorem s_lc0 {wi : TI} {g : TG} {tt : TT} {xs : List Nat} (h : wi σ H fun J H1 => ∀ D, H1 D = none → ∃ W : Nat → Nat → Hp → Prop, (∃ m, W 0 m (upd H1 D (.lst []))) ∧ ∀ i m H, W i m H →
  (J.stop i H ∧ Q (.ref D) H) ∨ (J.go i H ∧ ∃ Nx : Hp → Prop, (∀ H', Nx H' → ∃ m', m' < m ∧ W (i + 1) m' H') ∧ ∀ x H', J.yld i H x H' → g x (wipe σ xs) H' fun σ2 H2 => wipe σ2 xs = wipe σ xs ∧ tt σ2 H2 fun b H3 =>
    if b = true then te σ2 H3 fun y H4 => ∃ acc, H4 D = some (.lst acc) ∧ acc.length < sizeLine ∧ Nx (upd H4 D (.lst (acc ++ [y]))) else Nx H3)) : tLc wi g tt te xs σ H Q := h
theorem s_yes {R : Bool → Hp → Prop} (h : R true H) : tYes σ H R := h
theorem s_iL' {R : Addr → Prop} (w : W I H M) (h : Is I v (.lst ds)) (q : ∀ a vs, v = .ref a → I a = some (.lst vs) → IsA I vs ds → R a) : ∃ a, v = .ref a ∧ (∃ xs, SqL K H a xs) ∧ R a := by
  obtain ⟨p, vs, rfl, hp, a⟩ := h.lst_ex
  exact ⟨p, rfl, ⟨vs, .inl (.inl (w.imm _ _ hp))⟩, q p vs rfl hp a⟩
end
/-- a written power -/
theorem op_powC {X : Cx} (n : Int) : OpR X (binaryOp .Pow) (rI (fun i j => CPow i j ∧ i ^ j.toNat = n) fun _ _ => .int n) := by
  intro pins s σ H x y v u Q I rx ry h
  obtain ⟨i, j, rfl, rfl, ⟨hc, e⟩, q⟩ := h
  exact op_pow pins s σ H _ _ v u Q I rx ry ⟨i, j, rfl, rfl, hc, by show Q (V.int (i ^ j.toNat)) H; rw [e]; exact q⟩
theorem cut63 (ns : List Int) (lo hi : Option Int) : ∃ ms : List Int, cutV (ns.map V.int) lo hi = ms.map V.int := by
  unfold cutV
  refine ⟨(ns.drop (HT.sIx (ns.map V.int).length 0 lo)).take (HT.sIx (ns.map V.int).length (ns.map V.int).length hi - HT.sIx (ns.map V.int).length 0 lo), ?_⟩
  rw [List.map_take, List.map_drop]

/-! ### sizes of numbers -/
def Bd (k : Nat) (x : Int) : Prop := x.natAbs < 2 ^ k
theorem Bd.mono {j k : Nat} {x : Int} (h : Bd j x) (hk : j ≤ k) : Bd k x := Nat.lt_of_lt_of_le h (Nat.pow_le_pow_right (by decide) hk)
theorem Bd.mul {j k : Nat} {x y : Int} (hx : Bd j x) (hy : Bd k y) : Bd (j + k) (x * y) := wide_lt hx hy
theorem Bd.neg {k : Nat} {x : Int} (h : Bd k x) : Bd k (-x) := by unfold Bd at *; rw [Int.natAbs_neg]; exact h
theorem Bd.add {k : Nat} {x y : Int} (hx : Bd k x) (hy : Bd k y) : Bd (k + 1) (x + y) := by
  unfold Bd at *
  have : (2 : Nat) ^ (k + 1) = 2 ^ k + 2 ^ k := by rw [Nat.pow_succ]; omega
  omega
theorem Bd.sub {k : Nat} {x y : Int} (hx : Bd k x) (hy : Bd k y) : Bd (k + 1) (x - y) := by
  unfold Bd at *
  have : (2 : Nat) ^ (k + 1) = 2 ^ k + 2 ^ k := by rw [Nat.pow_succ]; omega
  omega
theorem Bd.le {k : Nat} {x y : Int} (h : Bd k y) (hx : x.natAbs ≤ y.natAbs) : Bd k x := Nat.lt_of_le_of_lt hx h
theorem Bd.of {k : Nat} {x : Int} (n : Nat) (h : x.natAbs ≤ n) (hn : n < 2 ^ k := by decide) : Bd k x := Nat.lt_of_le_of_lt h hn
theorem Bd.cm {j k : Nat} {x y : Int} (hx : Bd j x) (hy : Bd k y) (h : j + k ≤ 900000 := by omega) : CMulW x y :=
  wide_mul (hx.mono (Nat.le_succ j)) (hy.mono (Nat.le_succ k)) (Nat.succ_pos _) (Nat.succ_pos _) (by omega)
theorem Bd.cd {k : Nat} {x y : Int} (hy : Bd k y) (h0 : 0 < y) (h : k ≤ 8000 := by omega) : CDivW x y := wide_div h0 (hy.mono (Nat.le_succ k)) (Nat.succ_pos _) (by omega)
theorem cm64 {i j : Int} (h1 : -18446744073709551616 ≤ i) (h2 : i ≤ 18446744073709551616) (h3 : -18446744073709551616 ≤ j) (h4 : j ≤ 18446744073709551616) : CMulW i j :=
  Bd.cm (j := 65) (k := 65) (Bd.of 18446744073709551616 (by omega)) (Bd.of 18446744073709551616 (by omega))
theorem cd64 {i j : Int} (h1 : 0 < j) (h2 : j ≤ 18446744073709551616) : CDivW i j := Bd.cd (k := 65) (Bd.of 18446744073709551616 (by omega)) h1

theorem W.zero {H : Hp} : W (fun _ => none) H [] := ⟨fun _ _ h => (nomatch h), fun _ h => (nomatch h), List.nodup_nil⟩
/-! ### fractions as data -/
abbrev fr (a b : Int) : D := .tup [.int a, .int b]

/-! ### the bag of draws: c is where its cells stand -/
structure BagAt (o : HO) (c : Addr) (x y z : Int) : Prop where
  ob : o = .lst [.int x, .int y, .int z, .ref c]
  x0 : 0 ≤ x
  y0 : 0 ≤ y
  y1 : y < 2147483647
  z0 : 0 ≤ z
def Bag (I : Hp) (c : Addr) (o : HO) : Prop := (∃ ns : List Int, I c = some (.lst (ns.map V.int)) ∧ ∀ n ∈ ns, 0 ≤ n) ∧ ∃ x y z, BagAt o c x y z
theorem Bag.mono {I J : Hp} {c : Addr} {o : HO} (s : Same I J) (h : Bag I c o) : Bag J c o := by
  obtain ⟨⟨ns, h1, h2⟩, h3⟩ := h
  exact ⟨⟨ns, s _ _ h1, h2⟩, h3⟩
end Fs

namespace Fs
open PySem PySem.Spec PyProof.Rows L2

/-! ### what stayed may be changed from now on -/
def del (I : Hp) (p : Addr) : Hp := fun a => if a = p then none else I a
theorem del_ne {I : Hp} {p a : Addr} (h : a ≠ p) : del I p a = I a := if_neg h
theorem del_same {I : Hp} {p : Addr} : del I p p = none := if_pos rfl
theorem same_del {J I : Hp} {p : Addr} (s : Same J I) (h : J p = none) : Same J (del I p) := fun b o e => by
  rw [del_ne (ne_of_none e h)]
  exact s b o e
section
variable {I J H : Hp} {M : List (Addr × HO)} {p : Addr} {o : HO} {m : Addr × HO}
theorem W.unf (w : W I H M) (h : I p = some o) : W (del I p) H ((p, o) :: M) where
  imm := fun b x e => by
    by_cases hb : b = p
    · subst hb; rw [del_same] at e; cases e
    · rw [del_ne hb] at e; exact w.imm b x e
  mu := fun x hx => by
    rcases List.mem_cons.mp hx with e | hx
    · subst e; exact ⟨w.imm _ _ h, del_same⟩
    · have q := w.mu x hx
      refine ⟨q.1, ?_⟩
      by_cases hb : x.1 = p
      · rw [hb]; exact del_same
      · rw [del_ne hb]; exact q.2
  nd := List.nodup_cons.mpr (And.intro (fun q => (by
    obtain ⟨x, hx, e⟩ := List.mem_map.mp q
    have := (w.mu x hx).2
    rw [e, h] at this
    cases this)) w.nd)
theorem W.swap {m0 m1 : Addr × HO} (w : W I H (m0 :: m1 :: M)) : W I H (m1 :: m0 :: M) := by
  refine ⟨w.imm, fun x hx => w.mu x ?_, ?_⟩
  · rcases List.mem_cons.mp hx with e | hx
    · exact List.mem_cons.mpr (.inr (List.mem_cons.mpr (.inl e)))
    · rcases List.mem_cons.mp hx with e | hx
      · exact List.mem_cons.mpr (.inl e)
      · exact List.mem_cons.mpr (.inr (List.mem_cons.mpr (.inr hx)))
  · have n := w.nd
    simp only [List.map_cons, List.nodup_cons, List.mem_cons, not_or] at n ⊢
    exact ⟨⟨fun e => n.1.1 e.symm, n.2.1⟩, n.1.2, n.2.2⟩
/-- behind the head -/
theorem W.unf1 (w : W I H (m :: M)) (h : I p = some o) : W (del I p) H (m :: (p, o) :: M) := (w.unf h).swap
theorem W.less (w : W I H (m :: M)) : W I H M := ⟨w.imm, fun x hx => w.mu x (List.mem_cons_of_mem _ hx), (List.nodup_cons.mp w.nd).2⟩
/-- fewer facts -/
theorem W.sub (w : W I H M) (s : Same J I) : W J H M := ⟨s.trans w.imm, fun x hx => ⟨(w.mu x hx).1, s.free (w.mu x hx).2⟩, w.nd⟩
theorem Bag.at {c : Addr} (h : Bag I c o) (hp : I p = none) : c ≠ p := by
  obtain ⟨⟨ns, h1, _⟩, _⟩ := h
  exact ne_of_none h1 hp
theorem Bag.del {c : Addr} (h : Bag I c o) (hp : c ≠ p) : Bag (del I p) c o := by
  obtain ⟨⟨ns, h1, h2⟩, h3⟩ := h
  exact ⟨⟨ns, by rw [del_ne hp]; exact h1, h2⟩, h3⟩
end

/-! ### == of data without truths -/
mutual
def D.pd : D → PyData
  | .non => .none
  | .bl b => .bool b
  | .int i => .int i
  | .str x => .str x
  | .ref _ => .none
  | .ty _ => .none
  | .tup ds => .tuple (D.pds ds)
  | .lst ds => .list (D.pds ds)
  | .obj _ _ => .none
  | .dict => .none
  | .fact _ => .none
def D.pds : List D → List PyData
  | [] => []
  | d :: ds => D.pd d :: D.pds ds
end
/-- data of at most this depth, no truths in it -/
inductive NB : Nat → D → Prop
  | non {k : Nat} : NB k .non
  | int {k : Nat} (i : Int) : NB k (.int i)
  | str {k : Nat} {x : Str} (h : PyData.strOk x = true) : NB k (.str x)
  | tup {k : Nat} {ds : List D} (h : ∀ d ∈ ds, NB k d) : NB (k + 1) (.tup ds)
  | lst {k : Nat} {ds : List D} (h : ∀ d ∈ ds, NB k d) : NB (k + 1) (.lst ds)
theorem NB.mono {j : Nat} {d : D} (h : NB j d) : ∀ {k : Nat}, j ≤ k → NB k d := by
  induction h with
  | non => intro k _; exact .non
  | int i => intro k _; exact .int i
  | str h => intro k _; exact .str h
  | @tup j ds h ih =>
    intro k e
    cases k with
    | zero => omega
    | succ k => exact .tup fun d hd => ih d hd (by omega)
  | @lst j ds h ih =>
    intro k e
    cases k with
    | zero => omega
    | succ k => exact .lst fun d hd => ih d hd (by omega)
theorem pds_can : ∀ {ds : List D} {k : Nat}, (∀ d ∈ ds, (D.pd d).canLay0 = true ∧ (D.pd d).depth ≤ k) → PyData.canLayAll0 (D.pds ds) = true ∧ PyData.depthAll (D.pds ds) ≤ k
  | [], _, _ => ⟨by simp [D.pds, PyData.canLayAll0], by simp [D.pds, PyData.depthAll]⟩
  | d :: ds, k, h => by
    obtain ⟨h1, h2⟩ := h d List.mem_cons_self
    obtain ⟨h3, h4⟩ := pds_can (ds := ds) (k := k) fun e he => h e (List.mem_cons_of_mem _ he)
    exact ⟨by simp [D.pds, PyData.canLayAll0, h1, h3], by simp only [D.pds, PyData.depthAll]; omega⟩
theorem NB.can {k : Nat} {d : D} (h : NB k d) : (D.pd d).canLay0 = true ∧ (D.pd d).depth ≤ k := by
  induction h with
  | non => exact ⟨by simp [D.pd, PyData.canLay0], by simp [D.pd, PyData.depth]⟩
  | int i => exact ⟨by simp [D.pd, PyData.canLay0], by simp [D.pd, PyData.depth]⟩
  | str h => exact ⟨by simp [D.pd, PyData.canLay0, h], by simp [D.pd, PyData.depth]⟩
  | tup h ih =>
    obtain ⟨h1, h2⟩ := pds_can ih
    exact ⟨by simp [D.pd, PyData.canLay0, h1], by simp only [D.pd, PyData.depth]; omega⟩
  | lst h ih =>
    obtain ⟨h1, h2⟩ := pds_can ih
    exact ⟨by simp [D.pd, PyData.canLay0, h1], by simp only [D.pd, PyData.depth]; omega⟩
theorem NB.shaped {k : Nat} {d : D} (h : NB k d) (hk : k ≤ 64) : SeqAt.shaped (D.pd d) = true := by
  obtain ⟨h1, h2⟩ := h.can
  unfold SeqAt.shaped
  rw [h1, decide_eq_true (by omega)]
  rfl
theorem pds_eqv : ∀ {ds es : List D} {P : D → Prop}, (∀ d ∈ ds, ∀ e, P e → (PyData.eqv d.pd e.pd = true ↔ d = e)) → (∀ e ∈ es, P e) → (PyData.eqvAll (D.pds ds) (D.pds es) = true ↔ ds = es)
  | [], [], _, _, _ => by simp [D.pds, PyData.eqvAll]
  | [], e :: es, _, _, _ => by simp [D.pds, PyData.eqvAll]
  | d :: ds, [], _, _, _ => by simp [D.pds, PyData.eqvAll]
  | d :: ds, e :: es, P, h, g => by
    have h1 := h d List.mem_cons_self e (g e List.mem_cons_self)
    have h2 := pds_eqv (ds := ds) (es := es) (P := P) (fun x hx => h x (List.mem_cons_of_mem _ hx)) fun x hx => g x (List.mem_cons_of_mem _ hx)
    simp only [D.pds, PyData.eqvAll, Bool.and_eq_true, h1, h2, List.cons.injEq]
theorem NB.eqv {k : Nat} {d : D} (h : NB k d) : ∀ {j : Nat} {e : D}, NB j e → (PyData.eqv d.pd e.pd = true ↔ d = e) := by
  induction h with
  | non => intro j e g; cases g <;> simp [D.pd, PyData.eqv]
  | int i => intro j e g; cases g <;> simp [D.pd, PyData.eqv]
  | str h => intro j e g; cases g <;> simp [D.pd, PyData.eqv]
  | @tup k ds h ih =>
    intro j e g
    cases g with
    | non => simp [D.pd, PyData.eqv]
    | int i => simp [D.pd, PyData.eqv]
    | str h => simp [D.pd, PyData.eqv]
    | @tup j es g =>
      simp only [D.pd, PyData.eqv, D.tup.injEq]
      exact pds_eqv (P := fun e => ∃ j, NB j e) (fun d hd e he => by obtain ⟨j, he⟩ := he; exact ih d hd he) fun e he => ⟨_, g e he⟩
    | lst g => simp [D.pd, PyData.eqv]
  | @lst k ds h ih =>
    intro j e g
    cases g with
    | non => simp [D.pd, PyData.eqv]
    | int i => simp [D.pd, PyData.eqv]
    | str h => simp [D.pd, PyData.eqv]
    | @lst j es g =>
      simp only [D.pd, PyData.eqv, D.lst.injEq]
      exact pds_eqv (P := fun e => ∃ j, NB j e) (fun d hd e he => by obtain ⟨j, he⟩ := he; exact ih d hd he) fun e he => ⟨_, g e he⟩
    | tup g => simp [D.pd, PyData.eqv]
section
variable {K : PySem.W.Frag} {I H : Hp} {M : List (Addr × HO)} {Q : VK} {x y v : V} {d e : D} {ds es : List D} {j k : Nat}
theorem isA_dp (f : ∀ d ∈ ds, ∀ v, Is I v d → Dp K H v d.pd) : ∀ {vs : List V}, IsA I vs ds → DpAll K H vs (D.pds ds) := by
  induction ds with
  | nil => intro vs a; cases a; exact .nil
  | cons d ds ih =>
    intro vs a
    cases a with
    | cons h a => exact .cons (f d List.mem_cons_self _ h) (ih (fun e he => f e (List.mem_cons_of_mem _ he)) a)
theorem NB.dp (w : W I H M) (n : NB k d) : ∀ {v : V}, Is I v d → Dp K H v d.pd := by
  induction n with
  | non => intro v h; cases h; exact .non
  | int i => intro v h; cases h; exact .int i
  | str s => intro v h; cases h; exact .str _
  | tup n ih =>
    intro v h
    cases h with
    | tup hp a => exact .tup (.inl (.inl (w.imm _ _ hp))) (isA_dp (fun d hd v hv => ih d hd hv) a)
  | lst n ih =>
    intro v h
    cases h with
    | lst hp a => exact .lst (.inl (.inl (w.imm _ _ hp))) (isA_dp (fun d hd v hv => ih d hd hv) a)
theorem s_eqD {b : Bool} (w : W I H M) (hx : Is I x d) (hy : Is I y e) (n : NB k d) (m : NB j e) (hk : k ≤ 64) (hj : j ≤ 64) (hb : b = true ↔ d = e) (q : Q (.bl b) H) : rEqU K x y H Q :=
  .inr ⟨d.pd, e.pd, n.dp w hx, m.dp w hy, n.shaped hk, m.shaped hj, by
    have h1 := n.eqv m
    have h2 : PyData.eqv d.pd e.pd = b := by rw [Bool.eq_iff_iff, h1, hb]
    rw [h2]; exact q⟩
theorem s_neD {b : Bool} (w : W I H M) (hx : Is I x d) (hy : Is I y e) (n : NB k d) (m : NB j e) (hk : k ≤ 64) (hj : j ≤ 64) (hb : b = true ↔ d = e) (q : Q (.bl (!b)) H) : rNeU K x y H Q :=
  .inr ⟨d.pd, e.pd, n.dp w hx, m.dp w hy, n.shaped hk, m.shaped hj, by
    have h1 := n.eqv m
    have h2 : PyData.eqv d.pd e.pd = b := by rw [Bool.eq_iff_iff, h1, hb]
    rw [h2]; exact q⟩
theorem s_eqT (w : W I H M) (hx : Is I x d) (hy : Is I y d) (n : NB 60 d) (q : Q (.bl true) H) : rEqU K x y H Q := s_eqD w hx hy n n (by decide) (by decide) (b := true) (by simp) q
theorem s_neT (w : W I H M) (hx : Is I x d) (hy : Is I y d) (n : NB 60 d) (q : Q (.bl false) H) : rNeU K x y H Q := s_neD w hx hy n n (by decide) (by decide) (b := true) (by simp) q
theorem NB.fr {a b : Int} {k : Nat} : NB (k + 1) (fr a b) := .tup fun d hd => by
  rcases List.mem_cons.mp hd with rfl | hd
  · exact .int a
  · rw [List.mem_singleton.mp hd]; exact .int b
/-- lists -/
theorem s_catI (w : W I H M) (hx : Is I x (.lst ds)) (hy : Is I y (.lst es)) (hz : ds.length + es.length ≤ 100000) (q : ∀ p J H', Same I J → I p = none → W J H' M → Is J (.ref p) (.lst (ds ++ es)) → Q (.ref p) H') : rAddU K x y H Q := by
  obtain ⟨p1, vs, rfl, h1, a1⟩ := hx.lst_ex
  obtain ⟨p2, us, rfl, h2, a2⟩ := hy.lst_ex
  exact .inr (.inr (.inl ⟨p1, p2, vs, us, rfl, rfl, w.imm _ _ h1, w.imm _ _ h2, by rw [a1.length, a2.length]; exact Nat.le_trans hz (by decide), fun p hp => q p _ _ (w.same hp) (w.fresh hp) (w.newI hp) (.lst upd_same ((a1.app a2).mono (w.same hp)))⟩))
theorem s_listI (w : W I H M) (hx : Is I x (.lst ds)) (q : ∀ p J H', Same I J → I p = none → W J H' M → Is J (.ref p) (.lst ds) → Q (.ref p) H') : rListOf K [x] H Q := by
  obtain ⟨p1, vs, rfl, h1, a1⟩ := hx.lst_ex
  exact ⟨p1, vs, rfl, .inl (.inl (.inl (w.imm _ _ h1))), fun p hp => q p _ _ (w.same hp) (w.fresh hp) (w.newI hp) (.lst upd_same (a1.mono (w.same hp)))⟩
theorem s_listT (w : W I H M) (hx : Is I x (.tup ds)) (q : ∀ p J H', Same I J → I p = none → W J H' M → Is J (.ref p) (.lst ds) → Q (.ref p) H') : rListOf K [x] H Q := by
  obtain ⟨p1, vs, rfl, h1, a1⟩ := hx.tup_ex
  exact ⟨p1, vs, rfl, .inr (.inl (.inl (w.imm _ _ h1))), fun p hp => q p _ _ (w.same hp) (w.fresh hp) (w.newI hp) (.lst upd_same (a1.mono (w.same hp)))⟩
def cutD (ds : List D) (lo hi : Option Int) : List D := (ds.drop (HT.sIx ds.length 0 lo)).take (HT.sIx ds.length ds.length hi - HT.sIx ds.length 0 lo)
theorem IsA.cut {vs : List V} (a : IsA I vs ds) (lo hi : Option Int) : IsA I (cutV vs lo hi) (cutD ds lo hi) := by
  unfold cutV cutD
  rw [a.length]
  exact (a.drop _).take _
theorem s_slI {lo hi : Option Int} (w : W I H M) (hx : Is I x (.lst ds)) (q : ∀ p J H', Same I J → I p = none → W J H' M → Is J (.ref p) (.lst (cutD ds lo hi)) → Q (.ref p) H') : rSlL K x lo hi H Q := by
  obtain ⟨p1, vs, rfl, h1, a1⟩ := hx.lst_ex
  exact ⟨p1, vs, rfl, .inl (.inl (w.imm _ _ h1)), fun p hp => q p _ _ (w.same hp) (w.fresh hp) (w.newI hp) (.lst upd_same ((a1.cut lo hi).mono (w.same hp)))⟩
end

/-! ### defs with defaults -/
section
variable {P : Program} {w : World} {K : PySem.W.Frag} {mg : Str → Option Value} {base : Heap}
theorem _root_.L2.FunD.ok0 {x qual : Str} {st : Stmt} {dvs : List V} {f : Addr} {fd : FuncData} {N ps : List Str} {k : Nat} {sp : Sp} (F : FunD K x qual (defArgs st) (defBody st) (defScope st) dvs [] f fd) (S : FnScope N ps (defScope st)) (len : ∀ vs H Q E, sp vs H Q E → vs.length = ps.length)
    (hbody : ∀ (cdv : Value) (A : Around) (outer : List Env) (s : Shared) (H : Hp) (vs : List V) (Q : VK) (E : XK), Room k (A.deeper (envOfC qual (defScope st) s.heap.objs.size f cdv)) → sp vs H Q E →
      ∃ t, PSs (cxOf CX0 P w K mg base N qual (defScope st) f cdv A outer s H E).nox (defBody st) t ∧ t { nx := fun _ H' => Q .non H', rt := Q } (start N vs) H) : FnOk P w K mg base CX0 (k + 1) f fd ps sp :=
  F.ok S len fun cdv A outer s H vs Q E hr h => let ⟨t, a, b⟩ := hbody cdv A outer s H vs Q E hr h; ⟨t, a.nox, b⟩
/-- what the top has left of such a def -/
theorem funD_mk {x qual : Str} {st : Stmt} {f T : Addr} {oc to_ : Value} {od an td : Option Addr} {osl tsl : Array (Option Value)} {kV doc pm cdv ct : Value} {its : List Value} {n : Nat} {dvs : List V} (l : K.lookup f = some ⟨oc, od, .func (PySem.W.fnOf x qual (defArgs st) (defBody st) (defScope st) (.ref T) kV doc pm an cdv ct), osl⟩)
    (c : PySem.W.codeIn K cdv qual = true) (k : PySem.W.keepIn K (.ref f) = true) (lT : K.lookup T = some ⟨to_, td, .seq its.toArray n, tsl⟩) (hv : Vals dvs its) (hd : dvs ≠ []) :
    FunD K x qual (defArgs st) (defBody st) (defScope st) dvs [] f (PySem.W.fnOf x qual (defArgs st) (defBody st) (defScope st) (.ref T) kV doc pm an cdv ct) :=
  ⟨⟨oc, od, .ref T, kV, doc, pm, an, cdv, ct, osl, rfl, l, c, .inr ⟨hd, T, _, its, n, rfl, lT, rfl, hv⟩, .inl rfl⟩, k⟩
end
end Fs

namespace Fs
open PySem PySem.Spec PyProof.Rows L2
/-! ### fractions are rational numbers -/
abbrev frq (q : Rat) : D := fr q.num q.den
/-- its numbers have at most so many bits -/
structure Sz (k : Nat) (q : Rat) : Prop where
  n : Bd k q.num
  d : Bd k (q.den : Int)
theorem Sz.mono {j k : Nat} {q : Rat} (h : Sz j q) (hk : j ≤ k) : Sz k q := ⟨h.n.mono hk, h.d.mono hk⟩
theorem den_pos' (q : Rat) : (0 : Int) < (q.den : Int) := by have := q.den_pos; omega
theorem gcd_q (q : Rat) : Int.gcd q.num q.den = 1 := q.reduced
theorem gcd_pos' {t b : Int} (h : b ≠ 0) : (0 : Int) < (Int.gcd t b : Int) := by
  have : 0 < Int.gcd t b := Int.gcd_pos_of_ne_zero_right _ h
  omega
theorem gcd_abs (t b : Int) : Int.gcd (if t < 0 then -t else t) (if b < 0 then -b else b) = Int.gcd t b := by
  split <;> split <;> simp [Int.gcd_neg, Int.neg_gcd]
theorem gcd_le_right' {t b : Int} (h : b ≠ 0) : (Int.gcd t b : Int).natAbs ≤ b.natAbs := by
  have := Nat.le_of_dvd (by omega) (Nat.gcd_dvd_right t.natAbs b.natAbs)
  show Int.gcd t b ≤ _
  exact this
theorem low_num {t b : Int} (h : b ≠ 0) : (if b < 0 then -t else t) / (Int.gcd t b : Int) = (Rat.divInt t b).num := by
  rw [Rat.num_divInt, Int.gcd_comm b t]
  by_cases hb : b < 0
  · rw [if_pos hb, Int.sign_eq_neg_one_of_neg hb]
    congr 1
    omega
  · rw [if_neg hb, Int.sign_eq_one_of_pos (by omega)]
    congr 1
    omega
theorem low_den {t b : Int} (h : b ≠ 0) : (if b < 0 then -b else b) / (Int.gcd t b : Int) = ((Rat.divInt t b).den : Int) := by
  rw [Rat.den_divInt, if_neg h, Int.gcd_comm b t, Int.natCast_ediv]
  congr 1
  split <;> omega
theorem div_abs_le {a g : Int} (hg : 0 < g) (hd : g ∣ a) : (a / g).natAbs ≤ a.natAbs := by
  obtain ⟨c, rfl⟩ := hd
  rw [Int.mul_ediv_cancel_left _ (by omega), Int.natAbs_mul]
  exact Nat.le_mul_of_pos_left _ (by omega)
theorem num_le {t b : Int} (h : b ≠ 0) : (Rat.divInt t b).num.natAbs ≤ t.natAbs := by
  rw [← low_num h]
  have hd : (Int.gcd t b : Int) ∣ (if b < 0 then -t else t) := by
    split
    · exact Int.dvd_neg.mpr (Int.gcd_dvd_left _ _)
    · exact Int.gcd_dvd_left _ _
  have := div_abs_le (gcd_pos' (t := t) h) hd
  split at this <;> split <;> omega
theorem den_le {t b : Int} (h : b ≠ 0) : ((Rat.divInt t b).den : Int).natAbs ≤ b.natAbs := by
  rw [← low_den h]
  have hd : (Int.gcd t b : Int) ∣ (if b < 0 then -b else b) := by
    split
    · exact Int.dvd_neg.mpr (Int.gcd_dvd_right _ _)
    · exact Int.gcd_dvd_right _ _
  have := div_abs_le (gcd_pos' (t := t) h) hd
  split at this <;> split <;> omega
theorem Sz.divInt {j k : Nat} {t b : Int} (h : b ≠ 0) (ht : Bd j t) (hb : Bd k b) (m : Nat) (hj : j ≤ m := by omega) (hk : k ≤ m := by omega) : Sz m (Rat.divInt t b) := ⟨(ht.le (num_le h)).mono hj, (hb.le (den_le h)).mono hk⟩
theorem den_ne (q : Rat) : (q.den : Int) ≠ 0 := by have := q.den_pos; omega
theorem add_dv (p q : Rat) : Rat.divInt (p.num * q.den + q.num * p.den) (p.den * q.den) = p + q := by
  have h := Rat.divInt_add_divInt p.num q.num (den_ne p) (den_ne q)
  rw [Rat.num_divInt_den, Rat.num_divInt_den] at h
  exact h.symm
theorem sub_dv (p q : Rat) : Rat.divInt (p.num * q.den - q.num * p.den) (p.den * q.den) = p - q := by
  have h := Rat.divInt_sub_divInt p.num q.num (den_ne p) (den_ne q)
  rw [Rat.num_divInt_den, Rat.num_divInt_den] at h
  exact h.symm
theorem mul_dv (p q : Rat) : Rat.divInt (p.num * q.num) (p.den * q.den) = p * q := by
  have h := Rat.divInt_mul_divInt p.num q.num (d₁ := p.den) (d₂ := q.den)
  rw [Rat.num_divInt_den, Rat.num_divInt_den] at h
  exact h.symm
theorem div_dv (p q : Rat) : Rat.divInt (p.num * q.den) (p.den * q.num) = p / q := by
  have h := Rat.divInt_mul_divInt p.num q.den (d₁ := p.den) (d₂ := q.num)
  rw [Rat.num_divInt_den, ← Rat.inv_divInt q.num q.den, Rat.num_divInt_den] at h
  rw [Rat.div_def]
  exact h.symm
theorem den_mul_ne (p q : Rat) : (p.den * q.den : Int) ≠ 0 := Int.mul_ne_zero (den_ne p) (den_ne q)
theorem Sz.add {j k : Nat} {p q : Rat} (hp : Sz j p) (hq : Sz k q) : Sz (j + k + 1) (p + q) := by
  rw [← add_dv]
  exact Sz.divInt (den_mul_ne p q) (Bd.add (hp.n.mul hq.d) ((hq.n.mul hp.d).mono (by omega))) (hp.d.mul hq.d) _
theorem Sz.sub {j k : Nat} {p q : Rat} (hp : Sz j p) (hq : Sz k q) : Sz (j + k + 1) (p - q) := by
  rw [← sub_dv]
  exact Sz.divInt (den_mul_ne p q) (Bd.sub (hp.n.mul hq.d) ((hq.n.mul hp.d).mono (by omega))) (hp.d.mul hq.d) _
theorem Sz.mul {j k : Nat} {p q : Rat} (hp : Sz j p) (hq : Sz k q) : Sz (j + k) (p * q) := by
  rw [← mul_dv]
  exact Sz.divInt (den_mul_ne p q) (hp.n.mul hq.n) (hp.d.mul hq.d) _
theorem Sz.div {j k : Nat} {p q : Rat} (hp : Sz j p) (hq : Sz k q) (h0 : q ≠ 0) : Sz (j + k) (p / q) := by
  rw [← div_dv]
  exact Sz.divInt (Int.mul_ne_zero (den_ne p) (fun h => h0 (Rat.num_eq_zero.mp h))) (hp.n.mul hq.d) (hp.d.mul hq.n) _
theorem Sz.neg {k : Nat} {q : Rat} (h : Sz k q) : Sz k (-q) := ⟨by rw [Rat.neg_num]; exact h.n.neg, by rw [Rat.neg_den]; exact h.d⟩
theorem Sz.int {k : Nat} {n : Int} (h : Bd k n) (hk : 0 < k := by decide) : Sz k (n : Rat) := ⟨h, Bd.of 1 (by rw [Rat.den_intCast]; decide) (by
  have : 2 ^ 1 ≤ 2 ^ k := Nat.pow_le_pow_right (by decide) hk
  omega)⟩
theorem frq_int (n : Int) : frq (n : Rat) = fr n 1 := rfl
theorem frq_zero : frq 0 = fr 0 1 := rfl
theorem frq_inj {p q : Rat} (h : frq p = frq q) : p = q := by
  injection h with h
  injection h with h1 h
  injection h with h2 _
  injection h1 with h1
  injection h2 with h2
  exact Rat.ext h1 (by omega)
theorem frq_of {a b : Int} (hb : 0 < b) (g : Int.gcd a b = 1) : fr a b = frq (Rat.divInt a b) := by
  have h1 := low_num (t := a) (b := b) (by omega)
  have h2 := low_den (t := a) (b := b) (by omega)
  rw [if_neg (by omega), g] at h1 h2
  simp only [Int.natCast_one, Int.ediv_one] at h1 h2
  rw [frq, ← h1, ← h2]
theorem gcd_step {a b : Int} (ha : 0 ≤ a) (hb : 0 ≤ b) : Int.gcd b (a % b) = Int.gcd a b := by
  obtain ⟨m, rfl⟩ := Int.eq_ofNat_of_zero_le ha
  obtain ⟨n, rfl⟩ := Int.eq_ofNat_of_zero_le hb
  show Nat.gcd n (m % n) = Nat.gcd m n
  rw [Nat.gcd_comm n, ← Nat.gcd_rec, Nat.gcd_comm]
theorem gcd_end {a : Int} (ha : 0 ≤ a) : (Int.gcd a 0 : Int) = a := by
  rw [Int.gcd_zero_right]
  omega
end Fs

namespace Fs
open PySem PySem.Spec PyProof.Rows L2
/-! ### the rules with the written part as a letter (for a comprehension's block) -/
section
variable {X : Cx} {K : PySem.W.Frag}
theorem k_add (h : X.K = K) : OpR X (binaryOp .Add) (rAddU K) := h ▸ uo_add
theorem k_eq (h : X.K = K) (hu : X.A.units + 64 < cLine) : OpR X (compareOp .Eq) (rEqU K) := h ▸ uo_eq hu
theorem k_ne (h : X.K = K) (hu : X.A.units + 64 < cLine) : OpR X (compareOp .NotEq) (rNeU K) := h ▸ uo_ne hu
theorem k_ix (h : X.K = K) : IxR X (rIx K) := h ▸ ix_seq
theorem k_len (h : X.K = K) : CallR X (.builtin "len") (rLenU K) := h ▸ uc_len
theorem k_isi (h : X.K = K) : CallR X (.builtin "isinstance") (rIsiU K) := h ▸ uc_isi
theorem k_min (h : X.K = K) (hc : X.calm = true) : CallR X (.builtin "min") (rMinU K) := h ▸ uc_min hc
theorem k_max (h : X.K = K) (hc : X.calm = true) : CallR X (.builtin "max") (rMaxU K) := h ▸ uc_max hc
theorem k_sum (h : X.K = K) (hc : X.calm = true) : CallR X (.builtin "sum") (rSum K) := h ▸ cr_sum hc
theorem k_list (h : X.K = K) : CallR X (.type "list") (rListOf K) := h ▸ uc_list
theorem k_sl (h : X.K = K) : SlR X (rSlL K) := h ▸ sl_list
theorem kpi_list {tg l : Expr} {tl : TE} (h : X.K = K) (e : PE X l tl) : PI X tg l (iList K tl) := h ▸ pi_list e
theorem kpi_tup {tg l : Expr} {tl : TE} (h : X.K = K) (e : PE X l tl) : PI X tg l (iTup K tl) := h ▸ pi_tup e
theorem kpe_fld {e : Expr} {ta : TE} {f : Str} {pos : Pos} (h : X.K = K) (he : PE X e ta) (hb : attributeBase e f X.env (eval e X.env) = eval e X.env) : PE X (.Attribute e f pos) (tFld K ta f) := h ▸ pe_fld he hb
theorem kpg_tup {es : List Expr} {k : Nat} {t : TGs} {n : Nat} {pos : Pos} (h : X.K = K) (hc : X.calm = true) (hg : PGs X es t)
    (hn : (assignEach es X.env).length = n := by rfl) (hst : (assignEach es X.env).findIdx? (·.1) = none := by rfl) : PG X (.Tuple es k pos) (gTup K n t) := h ▸ pg_tup hc hg hn hst
end
/-! ### comprehensions -/
/-- what stands behind a comprehension's source -/
def LcGo (J : It) (g : TG) (tt : TT) (te : TE) (xs : List Nat) (σ : L2.St) (Q : VK) (H1 : Hp) : Prop := ∀ D, H1 D = none → ∃ W : Nat → Nat → Hp → Prop, (∃ m, W 0 m (upd H1 D (.lst []))) ∧ ∀ i m H, W i m H →
  (J.stop i H ∧ Q (.ref D) H) ∨ (J.go i H ∧ ∃ Nx : Hp → Prop, (∀ H', Nx H' → ∃ m', m' < m ∧ W (i + 1) m' H') ∧ ∀ x H', J.yld i H x H' → g x (wipe σ xs) H' fun σ2 H2 => wipe σ2 xs = wipe σ xs ∧ tt σ2 H2 fun b H3 =>
    if b = true then te σ2 H3 fun y H4 => ∃ acc, H4 D = some (.lst acc) ∧ acc.length < sizeLine ∧ Nx (upd H4 D (.lst (acc ++ [y]))) else Nx H3)
section
variable {K : PySem.W.Frag} {σ : L2.St} {I H : Hp} {M : List (Addr × HO)} {Q : VK} {x v : V} {b c : Addr} {o : HO} {te : TE} {wi : TI} {g : TG} {tt : TT} {xs : List Nat} {ds : List D} {k : Nat}
theorem s_lcc (h : wi σ H fun J H1 => LcGo J g tt te xs σ Q H1) : tLc wi g tt te xs σ H Q := h
theorem s_lcRng {n : Int} {lo : Int} (h1 : -(2 ^ 62) ≤ n) (h2 : n < 2 ^ 62) (h : LcGo (Itr 0 n.toNat) g tt te xs σ Q H) : ∃ j : Int, [V.int n] = [.int j] ∧ -(2 ^ 62) ≤ j ∧ j < 2 ^ 62 ∧ LcGo (Itr 0 j.toNat) g tt te xs σ Q H := ⟨n, rfl, h1, h2, h⟩
/-- turns that draw nothing, one name as target, no test; what the i-th turn gives is told by f -/
theorem lc_pure {J : It} {n : Nat} {Gd : Hp → Prop} {Y : Nat → Hp → V → Hp → Prop} (wk : Walk J n Gd Y) (w : W I H M) (hG : ∀ H', Same I H' → Gd H') (f : Nat → D) (hn : n ≤ 100000)
    (hw : ∀ v, wipe ((wipe σ xs).set k (some v)) xs = wipe σ xs)
    (step : ∀ i v D acc J' H0 H' C, i < n → Same I J' → W J' H0 ((D, .lst acc) :: M) → Y i H0 v H' → (∀ y J'' H4, Same J' J'' → W J'' H4 ((D, .lst acc) :: M) → Is J'' y (f i) → C y H4) → te ((wipe σ xs).set k (some v)) H' C)
    (q : ∀ p J' H', Same I J' → I p = none → W J' H' M → Is J' (.ref p) (.lst ((List.range n).map f)) → Q (.ref p) H') : LcGo J (gName k) tYes te xs σ Q H := by
  intro D nD
  have w1 := w.newM (o := .lst []) nD
  refine lc_it wk (fun i H' => ∃ acc J', Same I J' ∧ W J' H' ((D, .lst acc) :: M) ∧ IsA J' acc ((List.range i).map f) ∧ acc.length = i) ⟨[], I, Same.refl _, w1, .nil, rfl⟩ (fun i H' _ ⟨acc, J', s, w', _⟩ => hG H' (s.trans w'.imm)) ?_ ?_
  · rintro i v H0 H' hi ⟨acc, J', s, w', a, hl⟩ hy
    refine ⟨hw v, ?_⟩
    refine s_yes (iteT (step i v D acc J' H0 H' _ hi s w' hy fun y J'' H4 s2 w2 h2 => ?_))
    refine ⟨acc, w2.at0, by rw [hl]; exact Nat.lt_of_lt_of_le hi (Nat.le_trans hn (by decide)), acc ++ [y], J'', s.trans s2, w2.put0, ?_, by rw [List.length_append, hl]; rfl⟩
    rw [List.range_succ, List.map_append]
    exact (a.mono s2).app (.one h2)
  · rintro H' ⟨acc, J', s, w', a, hl⟩
    obtain ⟨J2, s2, w2, h2⟩ := w'.done0 a
    refine q D J2 H' (s.trans s2) (w.fresh nD) w2 h2
/-- turns that draw -/
theorem lc_bag {J : It} {n : Nat} {Gd : Hp → Prop} {Y : Nat → Hp → V → Hp → Prop} (wk : Walk J n Gd Y) (w : W I H ((b, o) :: M)) (hb : Bag I c o) (hG : ∀ H', Same I H' → Gd H') (P : Nat → D → Prop) (hn : n ≤ 100000)
    (hw : ∀ v, wipe ((wipe σ xs).set k (some v)) xs = wipe σ xs)
    (step : ∀ i v D acc o' J' H0 H' C, i < n → Same I J' → Bag J' c o' → W J' H0 ((b, o') :: (D, .lst acc) :: M) → Y i H0 v H' →
      (∀ y d o'' J'' H4, Same J' J'' → Bag J'' c o'' → W J'' H4 ((b, o'') :: (D, .lst acc) :: M) → Is J'' y d → P i d → C y H4) → te ((wipe σ xs).set k (some v)) H' C)
    (q : ∀ p ds o' J' H', Same I J' → I p = none → Bag J' c o' → W J' H' ((b, o') :: M) → Is J' (.ref p) (.lst ds) → ds.length = n → (∀ i d, ds[i]? = some d → P i d) → Q (.ref p) H') : LcGo J (gName k) tYes te xs σ Q H := by
  intro D nD
  have w1 := w.newM2 (o := .lst []) nD
  refine lc_it wk (fun i H' => ∃ acc J' o' ds, Same I J' ∧ Bag J' c o' ∧ W J' H' ((b, o') :: (D, .lst acc) :: M) ∧ IsA J' acc ds ∧ acc.length = i ∧ ds.length = i ∧ ∀ j d, ds[j]? = some d → P j d) ⟨[], I, o, [], Same.refl _, hb, w1, .nil, rfl, rfl, fun j d h => by simp at h⟩ (fun i H' _ ⟨acc, J', o', ds, s, _, w', _⟩ => hG H' (s.trans w'.imm)) ?_ ?_
  · rintro i v H0 H' hi ⟨acc, J', o', ds, s, hb', w', a, hl, hl2, hp⟩ hy
    refine ⟨hw v, ?_⟩
    refine s_yes (iteT (step i v D acc o' J' H0 H' _ hi s hb' w' hy fun y d o'' J'' H4 s2 hb2 w2 h2 hd => ?_))
    refine ⟨acc, w2.at1, by rw [hl]; exact Nat.lt_of_lt_of_le hi (Nat.le_trans hn (by decide)), acc ++ [y], J'', o'', ds ++ [d], s.trans s2, hb2, w2.put1, (a.mono s2).app (.one h2), by rw [List.length_append, hl]; rfl, by rw [List.length_append, hl2]; rfl, fun j e h => ?_⟩
    by_cases hj : j < ds.length
    · rw [List.getElem?_append_left hj] at h
      exact hp j e h
    · rw [List.getElem?_append_right (by omega)] at h
      have h3 : j - ds.length = 0 := by
        cases hz : j - ds.length with
        | zero => rfl
        | succ m => rw [hz] at h; simp at h
      rw [h3] at h
      simp at h
      subst h
      have : j = i := by omega
      rw [this]
      exact hd
  · rintro H' ⟨acc, J', o', ds, s, hb', w', a, hl, hl2, hp⟩
    obtain ⟨J2, s2, w2, h2⟩ := w'.done1 a
    exact q D ds o' J2 H' (s.trans s2) (w.fresh nD) (hb'.mono s2) w2 h2 hl2 hp
theorem s_iLc {J : Addr → Prop} (w : W I H M) (h : Is I v (.lst ds)) (q : ∀ a vs, v = .ref a → I a = some (.lst vs) → IsA I vs ds → J a) : ∃ a, v = .ref a ∧ (∃ xs, SqL K H a xs) ∧ J a := s_iL' w h q
end

/-! ### sums of fractions -/
def rs (qs : List Rat) : Rat := qs.foldl (· + ·) 0
theorem rs_nil : rs [] = 0 := rfl
theorem rs_snoc (qs : List Rat) (q : Rat) : rs (qs ++ [q]) = rs qs + q := by simp [rs, List.foldl_append]
theorem rs_take {qs : List Rat} {i : Nat} {q : Rat} (h : qs[i]? = some q) : rs (qs.take (i + 1)) = rs (qs.take i) + q := by
  rw [List.take_add_one, h, ← rs_snoc]
  rfl
theorem rs_from (ys : List Rat) : ∀ a : Rat, ys.foldl (· + ·) a = a + rs ys := by
  induction ys with
  | nil => intro a; simp [rs, Rat.add_zero]
  | cons y ys ih =>
    intro a
    show ys.foldl (· + ·) (a + y) = a + (ys.foldl (· + ·) (0 + y))
    rw [ih, ih, Rat.zero_add, Rat.add_assoc]
theorem rs_cons (y : Rat) (ys : List Rat) : rs (y :: ys) = y + rs ys := by
  show ys.foldl (· + ·) (0 + y) = _
  rw [rs_from, Rat.zero_add]
theorem rs_app (xs ys : List Rat) : rs (xs ++ ys) = rs xs + rs ys := by
  unfold rs
  rw [List.foldl_append, rs_from]
  rfl
/-- top and bottom by themselves -/
structure Sz2 (j k : Nat) (q : Rat) : Prop where
  n : Bd j q.num
  d : Bd k (q.den : Int)
theorem Sz2.mono {i j k l : Nat} {q : Rat} (h : Sz2 i k q) (hj : i ≤ j) (hk : k ≤ l) : Sz2 j l q := ⟨h.n.mono hj, h.d.mono hk⟩
theorem Sz2.sz {j k m : Nat} {q : Rat} (h : Sz2 j k q) (hj : j ≤ m) (hk : k ≤ m) : Sz m q := ⟨h.n.mono hj, h.d.mono hk⟩
theorem Sz.sz2 {k : Nat} {q : Rat} (h : Sz k q) : Sz2 k k q := ⟨h.n, h.d⟩
theorem Sz2.add {j k l m : Nat} {p q : Rat} (hp : Sz2 j k p) (hq : Sz2 l m q) (n : Nat) (h1 : j + m + 1 ≤ n) (h2 : l + k + 1 ≤ n) : Sz2 n (k + m) (p + q) := by
  rw [← add_dv]
  have b1 : Bd (n - 1) (p.num * q.den) := (hp.n.mul hq.d).mono (by omega)
  have b2 : Bd (n - 1) (q.num * p.den) := (hq.n.mul hp.d).mono (by omega)
  have b3 := (Bd.add b1 b2).mono (show n - 1 + 1 ≤ n by omega)
  exact ⟨b3.le (num_le (den_mul_ne p q)), (hp.d.mul hq.d).le (den_le (den_mul_ne p q))⟩
theorem Sz2.rs {j k : Nat} {qs : List Rat} (h : ∀ q ∈ qs, Sz2 j k q) : ∀ i, i ≤ qs.length → Sz2 (j + (k + 1) * i + 1) (k * i + 1) (rs (qs.take i))
  | 0, _ => ⟨Bd.of 0 (by simp [rs_nil]) (Nat.pow_pos (by decide)), Bd.of 1 (by simp [rs_nil]) (by
      have : 2 ^ 1 ≤ 2 ^ (k * 0 + 1) := Nat.pow_le_pow_right (by decide) (by omega)
      omega)⟩
  | i + 1, hi => by
    have hi' : i < qs.length := hi
    have e : qs[i]? = some qs[i] := List.getElem?_eq_getElem hi'
    rw [rs_take e]
    have ih := Sz2.rs h i (by omega)
    have hq := h _ (List.getElem_mem hi')
    have e1 : (k + 1) * (i + 1) = (k + 1) * i + k + 1 := by rw [Nat.mul_add]; omega
    have e2 : k * (i + 1) = k * i + k := by rw [Nat.mul_add]; omega
    have e3 : k * i ≤ (k + 1) * i := Nat.mul_le_mul_right _ (by omega)
    exact (ih.add hq (j + (k + 1) * (i + 1) + 1) (by omega) (by omega)).mono (Nat.le_refl _) (by omega)
theorem frqs_of {S : Rat → Prop} : ∀ {ds : List D}, (∀ (i : Nat) d, ds[i]? = some d → ∃ q, d = frq q ∧ S q) → ∃ qs : List Rat, ds = qs.map frq ∧ ∀ q ∈ qs, S q
  | [], _ => ⟨[], rfl, fun _ h => nomatch h⟩
  | d :: ds, h => by
    obtain ⟨q, rfl, hq⟩ := h 0 _ rfl
    obtain ⟨qs, rfl, hs⟩ := frqs_of (S := S) (ds := ds) fun i e he => h (i + 1) e (by simpa using he)
    exact ⟨q :: qs, rfl, fun r hr => by
      rcases List.mem_cons.mp hr with rfl | hr
      · exact hq
      · exact hs r hr⟩
theorem atI0 {α : Type} {l : List α} {i : Nat} {x : α} (h : l[i]? = some x) : atI l (0 + (i : Int)) = some x := by
  rw [Int.zero_add]
  exact atI_nat h
theorem NB.list {α : Type} {f : α → D} {k : Nat} {l : List α} (h : ∀ x ∈ l, NB k (f x)) : NB (k + 1) (.lst (l.map f)) := .lst fun d hd => by
  obtain ⟨x, hx, rfl⟩ := List.mem_map.mp hd
  exact h x hx
theorem NB.frqs {qs : List Rat} {k : Nat} : NB (k + 2) (.lst (qs.map frq)) := NB.list fun _ _ => NB.fr
theorem NB.ints {ns : List Int} {k : Nat} : NB (k + 1) (.lst (ns.map D.int)) := NB.list fun n _ => .int n
theorem s_listC {K : PySem.W.Frag} {I H : Hp} {M : List (Addr × HO)} {Q : VK} {x : V} {ds : List D} (w : W I H M) (hx : Is I x (.lst ds)) (q : ∀ p vs J H', Same I J → I p = none → W J H' M → J p = some (.lst vs) → IsA I vs ds → Q (.ref p) H') : rListOf K [x] H Q := by
  obtain ⟨p1, vs, rfl, h1, a1⟩ := hx.lst_ex
  exact ⟨p1, vs, rfl, .inl (.inl (.inl (w.imm _ _ h1))), fun p hp => q p vs _ _ (w.same hp) (w.fresh hp) (w.newI hp) upd_same a1⟩
/-- for x, y in zip(xs, ys), two lists of one length that stay -/
def ZipQ (K : PySem.W.Frag) (x y : V) (H : Hp) (R : It → Hp → Prop) : Prop := ∃ a b xs ys, [x, y] = [.ref a, .ref b] ∧ SqL K H a xs ∧ SqL K H b ys ∧ R (Itz K a b) H
theorem s_zip {K : PySem.W.Frag} {σ : L2.St} {H : Hp} {ta : TA} {R : It → Hp → Prop} (h : ta σ H fun vs H1 => ∃ a b xs ys, vs = [.ref a, .ref b] ∧ SqL K H1 a xs ∧ SqL K H1 b ys ∧ R (Itz K a b) H1) : iZip K ta σ H R := h
theorem s_zipL {K : PySem.W.Frag} {σ : L2.St} {I H : Hp} {M : List (Addr × HO)} {x y : V} {ds es : List D} {g : TG} {tb : TS} {G : Ends} (w : W I H M) (hx : Is I x (.lst ds)) (hy : Is I y (.lst es)) (hl : ds.length = es.length) (Pv : Nat → L2.St → Hp → Prop) (h0 : Pv 0 σ H) (hI : ∀ i σ H, Pv i σ H → Same I H)
    (hs : ∀ i d e x y T σ H H', ds[i]? = some d → es[i]? = some e → Is I x d → Is I y e → Pv i σ H → H T = none → H' = upd H T (.tup [x, y]) → g (.ref T) σ H' fun σ2 H2 => tb { G with nx := Pv (i + 1), ct := Pv (i + 1), bk := G.nx } σ2 H2) (hd : ∀ σ H, Pv ds.length σ H → G.nx σ H) :
    ∃ a b xs ys, [x, y] = [V.ref a, .ref b] ∧ SqL K H a xs ∧ SqL K H b ys ∧ ∃ W : Nat → Nat → L2.St → Hp → Prop, (∃ m, W 0 m σ H) ∧ ∀ i m σ H, W i m σ H →
      ((Itz K a b).stop i H ∧ G.nx σ H) ∨ ((Itz K a b).go i H ∧ ∃ N : L2.St → Hp → Prop, (∀ σ' H', N σ' H' → ∃ m', m' < m ∧ W (i + 1) m' σ' H') ∧ ∀ x H', (Itz K a b).yld i H x H' → g x σ H' fun σ2 H2 => tb { G with nx := N, ct := N, bk := G.nx } σ2 H2) := by
  obtain ⟨p1, vs, rfl, h1, a1⟩ := hx.lst_ex
  obtain ⟨p2, us, rfl, h2, a2⟩ := hy.lst_ex
  refine ⟨p1, p2, vs, us, rfl, .inl (.inl (w.imm _ _ h1)), .inl (.inl (w.imm _ _ h2)), ?_⟩
  refine RZ.for_zipL (K := K) (xs := vs) (ys := us) (by rw [a1.length, a2.length, hl]) Pv h0 (fun i σ H q => ⟨.inl (.inl (hI i σ H q _ _ h1)), .inl (.inl (hI i σ H q _ _ h2))⟩) (fun i x y T σ H e1 e2 q nT => ?_) (fun σ H q => hd σ H (by rw [← a1.length]; exact q))
  obtain ⟨d, f1, g1⟩ := a1.of e1
  obtain ⟨e, f2, g2⟩ := a2.of e2
  exact hs i d e x y T σ H _ f1 f2 g1 g2 q nT rfl
theorem s_aug {σ : L2.St} {H : Hp} {G : Ends} {i : Nat} {te : TE} {ti : TIp} {x : V} (h : σ[i]? = some (some x)) (q : te σ H fun y H1 => ti x y H1 fun z H2 => G.nx (σ.set i (some z)) H2) : tAug i te ti G σ H := ⟨x, h, q⟩
/-- a list is taken away: fractions stay -/
theorem Is.delF {I : Hp} {v : V} {a b : Int} {p : Addr} {vs : List V} (h : Is I v (fr a b)) (hp : I p = some (.lst vs)) : Is (del I p) v (fr a b) := by
  obtain ⟨t, us, rfl, ht, au⟩ := h.tup_ex
  have ne : t ≠ p := fun e => by rw [e, hp] at ht; cases ht
  refine .tup (by rw [del_ne ne]; exact ht) ?_
  cases au with | cons h1 au =>
  cases au with | cons h2 au =>
  cases au
  cases h1
  cases h2
  exact .cons (.int _) (.cons (.int _) .nil)
theorem IsA.delF {I : Hp} {p : Addr} {us : List V} (hp : I p = some (.lst us)) : ∀ {qs : List Rat} {vs : List V}, IsA I vs (qs.map frq) → IsA (del I p) vs (qs.map frq)
  | [], _, h => by cases h; exact .nil
  | q :: qs, _, h => by
    cases h with
    | cons h a => exact .cons (h.delF hp) (IsA.delF hp a)
theorem Is.delL {I : Hp} {p l : Addr} {us : List V} {qs : List Rat} (h : Is I (.ref l) (.lst (qs.map frq))) (hp : I p = some (.lst us)) (ne : l ≠ p) : Is (del I p) (.ref l) (.lst (qs.map frq)) := by
  cases h with
  | lst h a => exact .lst (by rw [del_ne ne]; exact h) (a.delF hp)
def rIns : V → List V → Hp → VK → Prop := fun x vs H Q => ∃ (l : Addr) (xs : List V) (i : Int) (y : V), x = .ref l ∧ vs = [.int i, y] ∧ H l = some (.lst xs) ∧ xs.length < sizeLine ∧ 0 ≤ i ∧ i < 2 ^ 63 ∧ Q .non (upd H l (.lst (xs.take i.toNat ++ [y] ++ xs.drop i.toNat)))
theorem mt_ins {X : Cx} : MtR X "list.insert" rIns := mt_insert
theorem s_insW1 {I H : Hp} {M : List (Addr × HO)} {m0 : Addr × HO} {p : Addr} {xs : List V} {i : Int} {y : V} {Q : VK} (w : W I H (m0 :: (p, .lst xs) :: M)) (hz : xs.length ≤ 100000) (h0 : 0 ≤ i) (h1 : i < 1000000) (q : ∀ H', W I H' (m0 :: (p, .lst (xs.take i.toNat ++ [y] ++ xs.drop i.toNat)) :: M) → Q .non H') : rIns (.ref p) [.int i, y] H Q :=
  ⟨p, xs, i, y, rfl, rfl, w.at1, Nat.lt_of_le_of_lt hz (by decide), h0, by omega, q _ w.put1⟩
theorem s_popW1 {I H : Hp} {M : List (Addr × HO)} {m0 : Addr × HO} {p : Addr} {xs : List V} {y : V} {Q : VK} (w : W I H (m0 :: (p, .lst xs) :: M)) (hy : xs[xs.length - 1]? = some y) (q : ∀ H', W I H' (m0 :: (p, .lst xs.dropLast) :: M) → Q y H') : rPop (.ref p) [] H Q :=
  ⟨p, xs, y, rfl, rfl, w.at1, hy, q _ w.put1⟩
/-! ### a displayed dict of one pair -/
def DispQ (Q : VK) (p : Addr) (x y : V) (H2 : Hp) : Prop := H2 p = some (.dK []) ∧ ∃ kvs : List (Key × V), [(x, y)] = kvs.map (fun kv => (kV kv.1, kv.2)) ∧ kvs.length ≤ 15 ∧ Q (.ref p) (upd H2 p (.dK (mergeK [] kvs)))
section
variable {σ : L2.St} {I H : Hp} {M : List (Addr × HO)} {Q : VK} {tk tv : TE} {p : Addr} {y : V}
theorem s_disp1 (w : W I H M) (q : ∀ p H', I p = none → W I H' ((p, .dK []) :: M) → tk σ H' fun x H1 => tv σ H1 fun y H2 => DispQ Q p x y H2) : tDisp [(tk, tv)] σ H Q := fun p hp => q p _ (w.fresh hp) (w.newM hp)
theorem s_dispI {n : Int} (w : W I H ((p, .dK []) :: M)) (q : ∀ J H', Same I J → W J H' M → Is J (.ref p) .dict → Q (.ref p) H') : DispQ Q p (.int n) y H :=
  have w2 := w.put0 (o' := .dK (mergeK [] [(Sum.inl n, y)]))
  ⟨w.at0, [(Sum.inl n, y)], rfl, by simp, q _ _ w2.frzS0 w2.frz0 (.dct upd_same)⟩
theorem s_dispS {n : Str} (w : W I H ((p, .dK []) :: M)) (q : ∀ J H', Same I J → W J H' M → Is J (.ref p) .dict → Q (.ref p) H') : DispQ Q p (.str n) y H :=
  have w2 := w.put0 (o' := .dK (mergeK [] [(Sum.inr n, y)]))
  ⟨w.at0, [(Sum.inr n, y)], rfl, by simp, q _ _ w2.frzS0 w2.frz0 (.dct upd_same)⟩
end
def D.whole : D → Bool
  | .int _ => true
  | _ => false
/-- its kind is known to isinstance -/
def Ty (d : D) : Prop := ∃ a, d.tn = some a
end Fs

namespace Fs
open PySem PySem.Spec PyProof.Rows L2
/-! ### own classes -/
/-- what is asked of a class of the text -/
structure OwnC (K : PySem.W.Frag) (C : Addr) : Prop where
  cl : Cls K C
  ha : PySem.W.findIn K (.ref C) "__class__" = some (some (.builtin "object.__class__"))
  hn : PySem.W.specialIn K (.builtin "object.__class__") "__get__" = some (some (.builtin "getset_descriptor.__get__"))
  htk : PySem.W.takesIn K (.builtin "object.__class__") = some true
  hm : PySem.W.mroIn K C (.type "object") = some true
/-- a class that may be made, by its __init__ -/
structure Mak (P : Program) (w : World) (K : PySem.W.Frag) (mg : Str → Option Value) (base : Heap) (x : Str) (C : Addr) (k : Nat) (ps : List Str) (dvs : List V) (sp : Sp) : Prop where
  ex : ∃ (f : Addr) (fd : FuncData) (ds : List Value), Mk K C f ∧ FnOk P w K mg base CX0 k f fd ps sp ∧ mg x = some (.ref C) ∧ Binds K fd ps ds ∧ Vals dvs ds
/-- a method -/
structure Met (P : Program) (w : World) (K : PySem.W.Frag) (mg : Str → Option Value) (base : Heap) (m : Str) (C : Addr) (k : Nat) (ps : List Str) (dvs : List V) (sp : Sp) : Prop where
  ex : ∃ (f : Addr) (fd : FuncData) (ds : List Value), Cls K C ∧ Meth K C m f ∧ FnOk P w K mg base CX0 k f fd ps sp ∧ Binds K fd ps ds ∧ Vals dvs ds
section
variable {X : Cx} {x m : Str} {C : Addr} {p pos apos : Pos} {e o : Expr} {es : List Expr} {ta : TE} {t : TA} {k : Nat} {ps : List Str} {dvs : List V} {sp : Sp}
theorem pe_mk (c : Mak X.prog X.w X.K X.mg X.base x C k ps dvs sp) (hr : Room (k + 1) X.A) (hg : Gl X x) (ha : PA X (e :: es) t) (hdb : (x == ("__debug__" : Str)) = false := by decide)
    (he : starEach (e :: es) X.env = (false, eval e X.env) :: starEach es X.env := by rfl) (hpl : (backTo pos (starEach es X.env)).any (·.1) = false := by rfl) : PE X (.Call (.Name x p) (e :: es) [] pos) (tMake C sp dvs E0 t) := by
  obtain ⟨f, fd, ds, M, F, hm, hb, hd⟩ := c.ex
  exact pe_make M F hr hg hm hb hd pass0 ha hdb he hpl
theorem pe_mk0 (c : Mak X.prog X.w X.K X.mg X.base x C k ps dvs sp) (hr : Room (k + 1) X.A) (hg : Gl X x) (hdb : (x == ("__debug__" : Str)) = false := by decide) : PE X (.Call (.Name x p) [] [] pos) (tMake C sp dvs E0 tNil) := by
  obtain ⟨f, fd, ds, M, F, hm, hb, hd⟩ := c.ex
  exact pe_make0 M F hr hg hm hb hd pass0 hdb
theorem pe_met {pl : Sem Bool} (he : PE X o ta) (c : Met X.prog X.w X.K X.mg X.base m C k ps dvs sp) (hr : Room k X.A) (ha : PA X (e :: es) t)
    (hst : starEach (e :: es) X.env = (false, eval e X.env) :: starEach es X.env := by rfl) (hpl : (backTo pos (starEach es X.env)).any (·.1) = false := by rfl)
    (ht : eval (.Call (.Attribute o m apos) (e :: es) [] pos) X.env = (do
      let ov ← eval o X.env
      standAt apos.atName
      let (f, first) ← holding [ov] (getMethod ov m pl)
      callWith pos f first (backTo pos (starEach (e :: es) X.env)) (backToKw pos (keywordEach [] X.env))) := by rfl) :
    PE X (.Call (.Attribute o m apos) (e :: es) [] pos) (tMeth C m sp dvs E0 ta t) := by
  obtain ⟨f, fd, ds, c, hm, F, hb, hd⟩ := c.ex
  exact pe_meth he c hm F hr hb hd pass0 ha hst hpl ht
theorem pe_met0 {pl : Sem Bool} (he : PE X o ta) (c : Met X.prog X.w X.K X.mg X.base m C k ps dvs sp) (hr : Room k X.A)
    (ht : eval (.Call (.Attribute o m apos) [] [] pos) X.env = (do
      let ov ← eval o X.env
      standAt apos.atName
      let (f, first) ← holding [ov] (getMethod ov m pl)
      callWith pos f first (backTo pos (starEach [] X.env)) (backToKw pos (keywordEach [] X.env))) := by rfl) :
    PE X (.Call (.Attribute o m apos) [] [] pos) (tMeth C m sp dvs E0 ta tNil) := by
  obtain ⟨f, fd, ds, c, hm, F, hb, hd⟩ := c.ex
  exact pe_meth0 he c hm F hr hb hd pass0 ht
end
/-- a class made with keywords -/
structure MakK (P : Program) (w : World) (K : PySem.W.Frag) (mg : Str → Option Value) (base : Heap) (x : Str) (C : Addr) (k : Nat) (ps : List Str) (n : Nat) (ks : List Str) (gV : List V → List V → List V) (sp : Sp) : Prop where
  ex : ∃ (f : Addr) (fd : FuncData) (g : List Value → List Value → List Value), Mk K C f ∧ FnOk P w K mg base CX0 k f fd ps sp ∧ mg x = some (.ref C) ∧ KBn K fd ps (n + 1) ks g gV
section
variable {X : Cx} {x : Str} {C : Addr} {p pos : Pos} {e : Expr} {es : List Expr} {kws : List Keyword} {t tk : TA} {k n : Nat} {ps ks : List Str} {gV : List V → List V → List V} {sp : Sp}
theorem pe_mkK (c : MakK X.prog X.w X.K X.mg X.base x C k ps n ks gV sp) (hr : Room (k + 1) X.A) (hg : Gl X x) (ha : PA X (e :: es) t) (hkw : PK X kws tk)
    (hall : (backToKw pos (keywordEach kws X.env)).all (·.1.isSome) = true := by rfl) (hks : (backToKw pos (keywordEach kws X.env)).filterMap (·.1) = ks := by rfl) (hdb : (x == ("__debug__" : Str)) = false := by decide)
    (he : starEach (e :: es) X.env = (false, eval e X.env) :: starEach es X.env := by rfl) (hpl : ((backTo pos (starEach (e :: es) X.env)).any (·.1) || (backToKw pos (keywordEach kws X.env)).any (·.1.isNone)) = false := by rfl) :
    PE X (.Call (.Name x p) (e :: es) kws pos) (tMakeK C n ks.length sp gV E0 t tk) := by
  obtain ⟨f, fd, g, M, F, hm, hb⟩ := c.ex
  exact pe_makeK M F hr hg hm hb pass0 ha hkw hall hks hdb he hpl
theorem pe_mkK0 (c : MakK X.prog X.w X.K X.mg X.base x C k ps 0 ks gV sp) (hr : Room (k + 1) X.A) (hg : Gl X x) (hkw : PK X kws tk)
    (hall : (backToKw pos (keywordEach kws X.env)).all (·.1.isSome) = true := by rfl) (hks : (backToKw pos (keywordEach kws X.env)).filterMap (·.1) = ks := by rfl) (hdb : (x == ("__debug__" : Str)) = false := by decide)
    (hpl : ((backTo pos (starEach [] X.env)).any (·.1) || (backToKw pos (keywordEach kws X.env)).any (·.1.isNone)) = false := by rfl) :
    PE X (.Call (.Name x p) [] kws pos) (tMakeK C 0 ks.length sp gV E0 tNil tk) := by
  obtain ⟨f, fd, g, M, F, hm, hb⟩ := c.ex
  exact pe_makeK0 M F hr hg hm hb pass0 hkw hall hks hdb hpl
end
theorem Vals.dt {vs : List V} {us : List Value} (r : Vals vs us) (j : Nat) : Vals ((vs.drop j).take 1) ((us.drop j).take 1) := by
  induction r generalizing j with
  | nil => simp; exact .nil
  | cons h r ih =>
    cases j with
    | zero => exact .cons h .nil
    | succ j => exact ih j
theorem kps_fld {X : Cx} {K : PySem.W.Frag} {o value : Expr} {f : Str} {pos pos' : Pos} {ta tv : TE} (h : X.K = K) (ha : PE X o ta) (hv : PE X value tv) (hs : swapsWith value (some (.Attribute o f pos')) pos.line X.env = pure false) : PS X (.Assign [.Attribute o f pos'] value pos) (sFld K ta tv f) := h ▸ ps_fld ha hv hs
/-! steps -/
def MakeQ (C : Addr) (sp : Sp) (E : XK) (Q : VK) (vs : List V) (H1 : Hp) : Prop := ∀ x dx, H1 x = none → H1 dx = none → dx ≠ x → sp (.ref x :: vs) (upd (upd H1 dx (.own x)) x (.ins C dx [])) (fun v H2 => v = .non ∧ Q (.ref x) H2) E
def SfQ (K : PySem.W.Frag) (f : Str) (G : Ends) (σ : L2.St) (x y : V) (H2 : Hp) : Prop := ∃ a C dx fs, x = .ref a ∧ H2 a = some (.ins C dx fs) ∧ Cls K C ∧ NoAttr K C f ∧ fs.length < 1000 ∧ G.nx σ (upd H2 a (.ins C dx (putF f y fs)))
def MethQ (C : Addr) (m : Str) (x : V) (H : Hp) (A : Prop) : Prop := ∃ a dx fs, x = .ref a ∧ H a = some (.ins C dx fs) ∧ fs.lookup m = none ∧ A
theorem putF_new {f : Str} {v : V} : ∀ {fs : List (Str × V)}, f ∉ fs.map (·.1) → putF f v fs = fs ++ [(f, v)]
  | [], _ => rfl
  | (g, x) :: r, h => by
    have h1 : ¬ g = f := fun e => h (by rw [e]; exact List.mem_cons_self)
    have h2 : f ∉ r.map (·.1) := fun e => h (List.mem_cons_of_mem _ e)
    show (if g = f then _ else (g, x) :: putF f v r) = _
    rw [if_neg h1, putF_new h2]
    rfl
section
variable {K : PySem.W.Frag} {σ : L2.St} {I H : Hp} {M : List (Addr × HO)} {Q : VK} {G : Ends} {ta tv : TE} {tA : TA} {C : Addr} {sp : Sp} {dvs vs : List V} {E : XK} {m f : Str} {v x y : V} {fs : List (Str × D)} {L : List Str}
theorem s_make (h : tA σ H fun vs H1 => MakeQ C sp E Q (vs ++ dvs) H1) : tMake C sp dvs E tA σ H Q := h
theorem s_makeW (w : W I H M) (q : ∀ x dx H', I x = none → W I H' ((x, .ins C dx []) :: M) → sp (.ref x :: vs) H' (fun v H2 => v = .non ∧ Q (.ref x) H2) E) : MakeQ C sp E Q vs H := fun x dx hx hd ne => by
  have w1 : W I (upd H dx (.own x)) M := w.more (same_new hd)
  have hx1 : upd H dx (.own x) x = none := by rw [upd_ne ne.symm]; exact hx
  exact q x dx _ (w.fresh hx) (w1.newM hx1)
def MakeKQ (C : Addr) (sp : Sp) (gV : List V → List V → List V) (E : XK) (Q : VK) (vs zs : List V) (H2 : Hp) : Prop := ∀ x dx, H2 x = none → H2 dx = none → dx ≠ x → sp (gV (.ref x :: vs) zs) (upd (upd H2 dx (.own x)) x (.ins C dx [])) (fun v H3 => v = .non ∧ Q (.ref x) H3) E
theorem s_makeK {gV : List V → List V → List V} {n m : Nat} {tK : TA} (h : tA σ H fun vs H1 => tK σ H1 fun zs H2 => vs.length = n ∧ zs.length = m ∧ MakeKQ C sp gV E Q vs zs H2) : tMakeK C n m sp gV E tA tK σ H Q := h
theorem s_mkKQ {gV : List V → List V → List V} {zs us : List V} (hg : ∀ x, gV (x :: vs) zs = x :: us) (h : MakeQ C sp E Q us H) : MakeKQ C sp gV E Q vs zs H := fun x dx a b c => by rw [hg]; exact h x dx a b c
theorem s_makeW2 {m0 : Addr × HO} (w : W I H (m0 :: M)) (q : ∀ x dx H', I x = none → W I H' ((x, .ins C dx []) :: m0 :: M) → sp (.ref x :: vs) H' (fun v H2 => v = .non ∧ Q (.ref x) H2) E) : MakeQ C sp E Q vs H := s_makeW w q
theorem s_sfld (h : tv σ H fun y H1 => ta σ H1 fun x H2 => SfQ K f G σ x y H2) : sFld K ta tv f G σ H := h
theorem s_sfW {a dx : Addr} {gs : List (Str × V)} (w : W I H ((a, .ins C dx gs) :: M)) (hc : Cls K C) (hn : ∀ f ∈ L, NoAttr K C f) (hf : f ∈ L) (hg : gs.length < 1000) (q : ∀ H', W I H' ((a, .ins C dx (putF f y gs)) :: M) → G.nx σ H') : SfQ K f G σ (.ref a) y H :=
  ⟨a, C, dx, gs, rfl, w.at0, hc, hn f hf, hg, q _ w.put0⟩
theorem s_meth (h : ta σ H fun x H1 => MethQ C m x H1 (tA σ H1 fun vs H2 => sp (x :: (vs ++ dvs)) H2 Q E)) : tMeth C m sp dvs E ta tA σ H Q := h
theorem s_methAt {A : Prop} (w : W I H M) (h : Is I v (.obj C fs)) (hm : m ∉ fs.map (·.1)) (q : A) : MethQ C m v H A := by
  obtain ⟨p, dx, vs, rfl, hp, a⟩ := h.obj_ex
  refine ⟨p, dx, vs, rfl, w.imm _ _ hp, a.no ?_, q⟩
  cases e : fs.lookup m with
  | none => rfl
  | some d =>
    exfalso
    apply hm
    clear a hp h
    induction fs with
    | nil => cases e
    | cons g r ih =>
      rw [List.lookup_cons] at e
      cases hc : m == g.1 with
      | true => rw [beq_iff_eq.mp hc]; exact List.mem_cons_self
      | false => rw [hc] at e; exact List.mem_cons_of_mem _ (ih (fun q => hm (List.mem_cons_of_mem _ q)) e)
theorem s_fldA {d : D} (w : W I H M) (h : Is I v (.obj C fs)) (hc : Cls K C) (hn : ∀ f ∈ L, NoAttr K C f) (hf : f ∈ L) (hd : fs.lookup f = some d) (q : ∀ u, Is I u d → Q u H) :
    ∃ a C dx fs u, v = .ref a ∧ H a = some (.ins C dx fs) ∧ Cls K C ∧ NoAttr K C f ∧ fs.lookup f = some u ∧ Q u H := s_fldAt w h hc (hn f hf) hd q
def FldQ (K : PySem.W.Frag) (f : Str) (Q : VK) (x : V) (H1 : Hp) : Prop := tFld K (fun _ H Q => Q x H) f [] H1 Q
theorem s_fldQ (h : ta σ H fun x H1 => FldQ K f Q x H1) : tFld K ta f σ H Q := h
theorem s_fldI {d : D} (w : W I H M) (h : Is I v (.obj C fs)) (hc : Cls K C) (hn : ∀ f ∈ L, NoAttr K C f) (hf : f ∈ L) (hd : fs.lookup f = some d) (q : ∀ u, Is I u d → Q u H) : FldQ K f Q v H := s_fldA w h hc hn hf hd q
theorem Is.tyo (o : OwnC K C) (w : W I H M) (h : Is I v (.obj C fs)) : TyX K H v (.ref C) := by
  obtain ⟨p, dx, vs, rfl, hp, a⟩ := h.obj_ex
  exact .base (.ins (w.imm _ _ hp) o.cl o.ha o.hn o.htk o.hm)
theorem s_isiO {b : String} {k : Bool} (o : OwnC K C) (w : W I H M) (h : Is I v (.obj C fs)) (hb : PySem.W.kitOne K (.ref C) (.type b) = some k) (q : Q (.bl k) H) : rIsiU K [v, .ty b] H Q :=
  .inl ⟨v, .ty b, .ref C, .type b, k, rfl, .ty b, h.tyo o w, hb, q⟩
theorem s_isiC {a : String} {d : D} {k : Bool} (w : W I H M) (h : Is I v d) (e : d.tn = some a) (hb : PySem.W.kitOne K (.type a) (.ref C) = some k) (q : Q (.bl k) H) : rIsiU K [v, .ref C] H Q :=
  .inl ⟨v, .ref C, .type a, .ref C, k, rfl, .own C, h.tyx w e, hb, q⟩
theorem s_isiOC {C' : Addr} {k : Bool} (o : OwnC K C) (w : W I H M) (h : Is I v (.obj C fs)) (hb : PySem.W.kitOne K (.ref C) (.ref C') = some k) (q : Q (.bl k) H) : rIsiU K [v, .ref C'] H Q :=
  .inl ⟨v, .ref C', .ref C, .ref C', k, rfl, .own C', h.tyo o w, hb, q⟩
end
theorem s_intN {n : Int} {A B : Prop} (h : B) : if decide (V.int n = V.non) = true then A else B := s_iteDn (fun q => nomatch q) h
theorem s_refN {n : Addr} {A B : Prop} (h : B) : if decide (V.ref n = V.non) = true then A else B := s_iteDn (fun q => nomatch q) h
theorem s_nonN {A B : Prop} (h : A) : if decide (V.non = V.non) = true then A else B := s_iteDp rfl h
/-- an own class is no built-in one -/
structure KitC (K : PySem.W.Frag) (C : Addr) : Prop where
  i : PySem.W.kitOne K (.ref C) (.type "int") = some false
  b : PySem.W.kitOne K (.ref C) (.type "bool") = some false
  t : PySem.W.kitOne K (.ref C) (.type "tuple") = some false
  l : PySem.W.kitOne K (.ref C) (.type "list") = some false
  s : PySem.W.kitOne K (.ref C) (.type "str") = some false
  d : PySem.W.kitOne K (.ref C) (.type "dict") = some false
theorem kit_mro {K : PySem.W.Frag} {C : Addr} {b : String} {r : Bool} (hk : PySem.W.kitMeta b = true) (hm : PySem.W.mroIn K C (.type b) = some r) : PySem.W.kitOne K (.ref C) (.type b) = some r := by
  have e : ¬ (Value.ref C == Value.type b) = true := fun h => by cases (beq_iff_eq.mp h)
  show (if (Value.ref C == Value.type b) = true then some true else PySem.W.kitCls K (.ref C) (.type b)) = some r
  rw [if_neg e]
  show (if PySem.W.kitMeta b = true then PySem.W.subIn K (.ref C) (.type b) else none) = some r
  rw [if_pos hk]
  exact hm
/-- of a known kind, or an instance that is no int -/
def TyK (K : PySem.W.Frag) (d : D) : Prop := Ty d ∨ ∃ C fs, d = .obj C fs ∧ OwnC K C ∧ PySem.W.kitOne K (.ref C) (.type "int") = some false
theorem TyK.of {K : PySem.W.Frag} {d : D} (h : Ty d) : TyK K d := .inl h
/-- a part -/
abbrev prt (C : Addr) (b l : Int) (g : D) (w s : Int) : D := .obj C [("base", .int b), ("least", .int l), ("greatest", g), ("grow", .int w), ("shrink", .int s)]
end Fs

namespace Fs
open PySem PySem.Spec PyProof.Rows L2
/-! ### texts -/
/-- a text times a number: here only its length is told -/
def rMulS : R2 := fun x y H Q => ∃ (z : Str) (n : Int), x = .str z ∧ y = .int n ∧ 0 ≤ n ∧ n ≤ 1000 ∧ z.length ≤ 1000 ∧ ∀ z' : Str, z'.length ≤ z.length * n.toNat → Q (.str z') H
theorem rep_len (x : Array Nat) : ∀ (n : Nat) (acc : Array Nat), ((List.replicate n x).foldl (· ++ ·) acc).size = acc.size + n * x.size
  | 0, acc => by simp
  | n + 1, acc => by
    rw [List.replicate_succ, List.foldl_cons, rep_len x n, Array.size_append, Nat.add_mul]
    omega
theorem op_mulS {X : Cx} : OpR X (binaryOp .Mult) rMulS := by
  intro pins s σ H x y v u Q I rx ry h
  obtain ⟨z, n, rfl, rfl, h0, h1, h2, q⟩ := h
  obtain ⟨t, rfl⟩ := rx
  obtain ⟨t', rfl⟩ := ry
  have hz : z.length * n.toNat ≤ 1000 * 1000 := Nat.mul_le_mul h2 (by omega)
  refine PySem.P.mul_str (by simp; omega) (fun hn _ => ?_) (fun hn _ => ?_) ?_
  · have : (1000 : Int) ≤ (2 ^ 63 - 1) / n := by
      refine Int.le_ediv_of_mul_le (by omega) ?_
      have : 1000 * n ≤ 1000 * 1000 := Int.mul_le_mul_of_nonneg_left h1 (by decide)
      omega
    have h3 : (z.length : Int) ≤ 1000 := by omega
    omega
  · exact decide_eq_false (by
      have : (1000 * 1000 : Nat) ≤ sizeLine := by decide
      omega)
  · by_cases hn : n < 1
    · rw [if_pos hn]
      exact ⟨by decide, .str Str.empty, H, I.tok _, ⟨_, rfl⟩, q _ (Nat.zero_le _)⟩
    · rw [if_neg hn]
      by_cases hc : (n == 1 || z.length == 0) = true
      · rw [if_pos hc]
        refine ⟨.str z, H, I, ⟨_, rfl⟩, q _ ?_⟩
        have : 1 ≤ n.toNat := by omega
        exact Nat.le_mul_of_pos_right _ this
      · rw [if_neg hc]
        have e : Str.length ⟨(List.replicate n.toNat z.cps).foldl (· ++ ·) #[]⟩ = n.toNat * z.length := by
          have := rep_len z.cps n.toNat #[]
          show Array.size _ = _
          rw [this]
          simp [Str.length]
        have : (1000 * 1000 : Nat) ≤ sizeLine := by decide
        rw [Nat.mul_comm] at hz
        exact ⟨by rw [e]; omega, .str _, H, I.tok _, ⟨_, rfl⟩, q _ (by rw [e, Nat.mul_comm]; exact Nat.le_refl _)⟩
section
variable {K : PySem.W.Frag} {X : Cx} {σ : L2.St} {I H : Hp} {M : List (Addr × HO)} {Q : VK} {G : Ends} {z y : Str} {n : Int} {te : TE} {g : TG} {tb : TS}
theorem small_line {n : Nat} (h : n ≤ 100000) : n ≤ sizeLine := Nat.le_trans h (by decide)
theorem s_mulS (h0 : 0 ≤ n) (h1 : n ≤ 1000) (h2 : z.length ≤ 1000) (q : ∀ z' : Str, z'.length ≤ z.length * n.toNat → Q (.str z') H) : rMulS (.str z) (.int n) H Q := ⟨z, n, rfl, rfl, h0, h1, h2, q⟩
theorem s_lenS (hz : z.length ≤ 100000) (q : Q (.int z.length) H) : rLenU K [.str z] H Q := .inr ⟨z, rfl, small_line hz, q⟩
theorem s_addT (hz : z.length + y.length ≤ 100000) (q : Q (.str (z ++ y)) H) : rAddU K (.str z) (.str y) H Q := .inr (.inl ⟨z, y, rfl, rfl, small_line hz, q⟩)
theorem s_ixS (h0 : 0 ≤ n) (h1 : n < z.length) (hz : z.length ≤ 100000) (q : ∀ c, Q (.str ⟨#[c]⟩) H) : rIx K (.str z) (.int n) H Q := by
  obtain ⟨c, _, e⟩ := at_nat (l := z.cps.toList) h0 (by rw [Array.length_toList]; exact h1)
  exact .inr (.inr ⟨z, n, c, rfl, rfl, small_line hz, e, q c⟩)
theorem cut_len {lo hi : Option Int} : (cutS z lo hi).length ≤ z.length := by
  show Array.size _ ≤ Array.size _
  simp only [cutS, List.size_toArray, List.length_take, List.length_drop, Array.length_toList]
  omega
theorem s_cutS {lo hi : Option Int} (hz : z.length ≤ 100000) (q : ∀ z' : Str, z'.length ≤ z.length → Q (.str z') H) : rSlS (.str z) lo hi H Q := ⟨z, rfl, small_line hz, q _ cut_len⟩
theorem s_ltS (q : Q (.bl (decide (z.cps.toList < y.cps.toList))) H) : (fun x y H Q => ∃ i j, x = V.str i ∧ y = V.str j ∧ Q (V.bl (decide (i.cps.toList < j.cps.toList))) H : R2) (.str z) (.str y) H Q := ⟨z, y, rfl, rfl, q⟩
def rLtS : R2 := fun x y H Q => ∃ i j, x = V.str i ∧ y = V.str j ∧ Q (.bl (decide (i.cps.toList < j.cps.toList))) H
def rGtS : R2 := fun x y H Q => ∃ i j, x = V.str i ∧ y = V.str j ∧ Q (.bl (decide (j.cps.toList < i.cps.toList))) H
def rNiS : R2 := fun x y H Q => ∃ (c : Nat) (z : Str), x = .str ⟨#[c]⟩ ∧ y = .str z ∧ Q (.bl (!decide (c ∈ z.cps.toList))) H
theorem u_ltS : OpR X (compareOp .Lt) rLtS := op_lt_str
theorem u_gtS : OpR X (compareOp .Gt) rGtS := op_gt_str
theorem u_niS : OpR X (compareOp .NotIn) rNiS := op_notIn_sign
theorem s_lts (q : Q (.bl (decide (z.cps.toList < y.cps.toList))) H) : rLtS (.str z) (.str y) H Q := ⟨z, y, rfl, rfl, q⟩
theorem s_gts (q : Q (.bl (decide (y.cps.toList < z.cps.toList))) H) : rGtS (.str z) (.str y) H Q := ⟨z, y, rfl, rfl, q⟩
theorem s_nis {c : Nat} (q : Q (.bl (!decide (c ∈ z.cps.toList))) H) : rNiS (.str ⟨#[c]⟩) (.str z) H Q := ⟨c, z, rfl, rfl, q⟩
/-- sep.join(list) : only the length is told -/
def rJoin (K : PySem.W.Frag) : V → List V → Hp → VK → Prop := fun x xs H Q => ∃ a p, ∃ ys : List Str, x = .str a ∧ xs = [.ref p] ∧ (SqL K H p (ys.map V.str) ∨ SqT K H p (ys.map V.str)) ∧
    (ys.map (·.length)).sum + ys.length * a.length ≤ 16777216 ∧ Q (.str (Txt.join a ys)) H
theorem k_join {o e : Expr} {to te : TE} {apos pos : Pos} (h : X.K = K) (ho : PE X o to) (he : PE X e te) (hs : starEach [e] X.env = [(false, eval e X.env)] := by rfl) (hbase : attributeBase o "join" X.env (eval o X.env) = eval o X.env := by rfl) (hline : (apos.endLine == pos.line) = true := by rfl) :
    PE X (.Call (.Attribute o "join" apos) [e] [] pos) (tM1 (rJoin K) to te) := h ▸ pe_join ho he hs hbase hline
theorem s_m1 {r : V → List V → Hp → VK → Prop} {to : TE} (h : to σ H fun x H1 => (∃ a, x = .str a) ∧ te σ H1 fun y H2 => r x [y] H2 Q) : tM1 r to te σ H Q := h
/-- for c in text -/
theorem s_iS {R : It → Hp → Prop} (h : te σ H fun v H1 => ∃ x, v = .str x ∧ R (Its x) H1) : iStr te σ H R := h
theorem s_forS (Pv : Nat → L2.St → Hp → Prop) (h0 : Pv 0 σ H)
    (hs : ∀ i c σ H, z.cps.toList[i]? = some c → Pv i σ H → g (.str ⟨#[c]⟩) σ H fun σ2 H2 => tb { G with nx := Pv (i + 1), ct := Pv (i + 1), bk := G.nx } σ2 H2) (hd : ∀ σ H, Pv z.length σ H → G.nx σ H) :
    ∃ x, V.str z = .str x ∧ ∃ W : Nat → Nat → L2.St → Hp → Prop, (∃ m, W 0 m σ H) ∧ ∀ i m σ H, W i m σ H →
      ((Its x).stop i H ∧ G.nx σ H) ∨ ((Its x).go i H ∧ ∃ N : L2.St → Hp → Prop, (∀ σ' H', N σ' H' → ∃ m', m' < m ∧ W (i + 1) m' σ' H') ∧ ∀ v H', (Its x).yld i H v H' → g v σ H' fun σ2 H2 => tb { G with nx := N, ct := N, bk := G.nx } σ2 H2) := by
  refine ⟨z, rfl, ?_⟩
  refine for_it walk_str Pv h0 (fun i σ H _ q => trivial) (fun i x σ H H' hi q y => ?_) (fun σ H q => hd σ H q)
  obtain ⟨rfl, c, e, rfl⟩ := y
  exact hs i c σ _ (by rw [Array.getElem?_toList]; exact e) q
end
end Fs

namespace Fs
open PySem PySem.Spec PyProof.Rows L2
/-! ### what is known, as a list of facts; what may be changed, by what it holds -/
inductive ME where
  | raw (p : Addr) (o : HO)
  | ml (p : Addr) (ds : List D)
  | mi (p C : Addr) (fs : List (Str × D))
  | bag (b : Addr)
  | dk (p : Addr) (kvs : List (Key × D))
  | dt (p : Addr) (kvs : List (List Key × D))
  /-- a cell that is shown; a table of code objects, all of one name -/
  | cel (c : Addr) (v : V)
  | tb (p : Addr) (q : Str)
/-- pairs with the same keys -/
inductive IsP (I : Hp) {κ : Type} : List (κ × V) → List (κ × D) → Prop
  | nil : IsP I [] []
  | cons {f : κ} {v : V} {d : D} {vs : List (κ × V)} {ds : List (κ × D)} : Is I v d → IsP I vs ds → IsP I ((f, v) :: vs) ((f, d) :: ds)
theorem IsP.mono {I J : Hp} {κ : Type} (s : Same I J) : ∀ {vs : List (κ × V)} {ds : List (κ × D)}, IsP I vs ds → IsP J vs ds
  | _, _, .nil => .nil
  | _, _, .cons h a => .cons (h.mono s) (IsP.mono s a)
def topO : HO := .ext fun _ => True
def CelO (o : Obj) (v : V) : Prop := ∃ u, o.data = .cell (some u) ∧ RelV v u
inductive Cn (I : Hp) : ME → Addr × HO → Prop
  | raw {p : Addr} {o : HO} (hn : ∀ vs, o ≠ .tup vs) : Cn I (.raw p o) (p, o)
  | ml {p : Addr} {vs : List V} {ds : List D} : IsA I vs ds → Cn I (.ml p ds) (p, .lst vs)
  | mi {p C dx : Addr} {vs : List (Str × V)} {fs : List (Str × D)} : IsF I vs fs → Cn I (.mi p C fs) (p, .ins C dx vs)
  | bag {b c : Addr} {o : HO} : Bag I c o → Cn I (.bag b) (b, o)
  | dk {p : Addr} {vs : List (Key × V)} {ds : List (Key × D)} : IsP I vs ds → Cn I (.dk p ds) (p, .dK vs)
  | dt {p : Addr} {vs : List (List Key × V)} {ds : List (List Key × D)} : IsP I vs ds → Cn I (.dt p ds) (p, .dT vs)
  | cel {c : Addr} {v : V} {o : Obj} : CelO o v → Cn I (.cel c v) (c, .frz o topO)
  | tb {p : Addr} {q : Str} {ps : Array Value} : TriplesOk ps.toList → (∀ (pos : Pos) (cv : Value), codeAmong pos ps.toList = some cv → ∃ c, cv = .ref c ∧ I c = some (LamX.CodeO c q)) → Cn I (.tb p q) (p, .tbl ps)
theorem Cn.mono {I J : Hp} {e : ME} {m : Addr × HO} (s : Same I J) (h : Cn I e m) : Cn J e m := by
  cases h with
  | raw hn => exact .raw hn
  | ml a => exact .ml (a.mono s)
  | mi a => exact .mi (a.mono s)
  | bag b => exact .bag (b.mono s)
  | dk b => exact .dk (b.mono s)
  | dt b => exact .dt (b.mono s)
  | cel b => exact .cel b
  | tb a b => exact .tb a fun pos cv e => let ⟨c, h1, h2⟩ := b pos cv e; ⟨c, h1, s _ _ h2⟩
inductive CnA (I : Hp) : List ME → List (Addr × HO) → Prop
  | nil : CnA I [] []
  | cons {e : ME} {m : Addr × HO} {M : List ME} {Mc : List (Addr × HO)} : Cn I e m → CnA I M Mc → CnA I (e :: M) (m :: Mc)
theorem CnA.mono {I J : Hp} (s : Same I J) : ∀ {M : List ME} {Mc : List (Addr × HO)}, CnA I M Mc → CnA J M Mc
  | _, _, .nil => .nil
  | _, _, .cons h a => .cons (h.mono s) (CnA.mono s a)
structure Wf (F : List (V × D)) (H : Hp) (M : List ME) : Prop where
  ex : ∃ I Mc, W I H Mc ∧ CnA I M Mc ∧ ∀ f ∈ F, Is I f.1 f.2
/-- one is changed -/
inductive Foc : List ME → ME → List ME → ME → Prop
  | here {e e' : ME} {M : List ME} : Foc (e :: M) e (e' :: M) e'
  | there {e e' m : ME} {M M' : List ME} : Foc M e M' e' → Foc (m :: M) e (m :: M') e'
/-- one is taken out -/
inductive Rem : List ME → ME → List ME → Prop
  | here {e : ME} {M : List ME} : Rem (e :: M) e M
  | there {e m : ME} {M M' : List ME} : Rem M e M' → Rem (m :: M) e (m :: M')
section
variable {I H : Hp} {M M' : List ME} {Mc : List (Addr × HO)} {e e' : ME}
theorem CnA.foc (a : CnA I M Mc) (f : Foc M e M' e') : ∃ M1 m M2, Mc = M1 ++ m :: M2 ∧ Cn I e m ∧ ∀ J m', Same I J → Cn J e' m' → CnA J M' (M1 ++ m' :: M2) := by
  induction f generalizing Mc with
  | here =>
    cases a with
    | cons h a => exact ⟨[], _, _, rfl, h, fun J m' s h' => .cons h' (a.mono s)⟩
  | there f ih =>
    cases a with
    | cons h a =>
      obtain ⟨M1, m, M2, rfl, h1, h2⟩ := ih a
      exact ⟨_ :: M1, m, M2, rfl, h1, fun J m' s h' => .cons (h.mono s) (h2 J m' s h')⟩
theorem CnA.rem (a : CnA I M Mc) (f : Rem M e M') : ∃ M1 m M2, Mc = M1 ++ m :: M2 ∧ Cn I e m ∧ CnA I M' (M1 ++ M2) := by
  induction f generalizing Mc with
  | here =>
    cases a with
    | cons h a => exact ⟨[], _, _, rfl, h, a⟩
  | there f ih =>
    cases a with
    | cons h a =>
      obtain ⟨M1, m, M2, rfl, h1, h2⟩ := ih a
      exact ⟨_ :: M1, m, M2, rfl, h1, .cons h h2⟩
theorem CnA.mem (a : CnA I M Mc) (h : e ∈ M) : ∃ m, m ∈ Mc ∧ Cn I e m := by
  induction a with
  | nil => cases h
  | cons h1 a ih =>
    rcases List.mem_cons.mp h with rfl | h
    · exact ⟨_, List.mem_cons_self, h1⟩
    · obtain ⟨m, q1, q2⟩ := ih h
      exact ⟨m, List.mem_cons_of_mem _ q1, q2⟩
theorem CnA.sub (a : CnA I M Mc) (s : List.Sublist M' M) : ∃ Mc', List.Sublist Mc' Mc ∧ CnA I M' Mc' := by
  induction s generalizing Mc with
  | slnil => cases a; exact ⟨[], .slnil, .nil⟩
  | cons _ s ih =>
    cases a with
    | cons h a =>
      obtain ⟨Mc', h1, h2⟩ := ih a
      exact ⟨Mc', .cons _ h1, h2⟩
  | cons_cons _ s ih =>
    cases a with
    | cons h a =>
      obtain ⟨Mc', h1, h2⟩ := ih a
      exact ⟨_ :: Mc', .cons_cons _ h1, .cons h h2⟩
theorem CnA.perm {M' : List ME} (p : List.Perm M M') : ∀ {Mc : List (Addr × HO)}, CnA I M Mc → ∃ Mc', List.Perm Mc Mc' ∧ CnA I M' Mc' := by
  induction p with
  | nil => intro Mc a; exact ⟨Mc, .refl _, a⟩
  | cons x p ih =>
    intro Mc a
    cases a with
    | cons h a =>
      obtain ⟨Mc', h1, h2⟩ := ih a
      exact ⟨_ :: Mc', .cons _ h1, .cons h h2⟩
  | swap x y l =>
    intro Mc a
    cases a with
    | cons h a =>
      cases a with
      | cons h' a => exact ⟨_, .swap _ _ _, .cons h' (.cons h a)⟩
  | trans p q ih1 ih2 =>
    intro Mc a
    obtain ⟨M1, h1, a1⟩ := ih1 a
    obtain ⟨M2, h2, a2⟩ := ih2 a1
    exact ⟨M2, h1.trans h2, a2⟩
theorem W.subl {Mc' : List (Addr × HO)} (w : W I H Mc) (s : List.Sublist Mc' Mc) : W I H Mc' := ⟨w.imm, fun x hx => w.mu x (s.subset hx), w.nd.sublist (s.map _)⟩
theorem W.perm {Mc' : List (Addr × HO)} (w : W I H Mc) (s : List.Perm Mc Mc') : W I H Mc' := ⟨w.imm, fun x hx => w.mu x (s.mem_iff.mpr hx), (s.map _).nodup_iff.mp w.nd⟩
end
/-- known -/
inductive Rk (F : List (V × D)) (M : List ME) : V → D → Prop
  | mem {v : V} {d : D} : (v, d) ∈ F → Rk F M v d
  | int (n : Int) : Rk F M (.int n) (.int n)
  | bl (n : Bool) : Rk F M (.bl n) (.bl n)
  | str (n : Str) : Rk F M (.str n) (.str n)
  | non : Rk F M .non .non
  | ml {p : Addr} {ds : List D} : .ml p ds ∈ M → Rk F M (.ref p) (.lst ds)
  | mi {p C : Addr} {fs : List (Str × D)} : .mi p C fs ∈ M → Rk F M (.ref p) (.obj C fs)
/-- known for good -/
inductive Kn (F : List (V × D)) : V → D → Prop
  | mem {v : V} {d : D} : (v, d) ∈ F → Kn F v d
  | int (n : Int) : Kn F (.int n) (.int n)
  | bl (n : Bool) : Kn F (.bl n) (.bl n)
  | str (n : Str) : Kn F (.str n) (.str n)
  | non : Kn F .non .non
  | ty (n : String) : Kn F (.ty n) (.ty n)
  | ref (a : Addr) : Kn F (.ref a) (.ref a)
inductive KnA (F : List (V × D)) : List V → List D → Prop
  | nil : KnA F [] []
  | cons {v : V} {d : D} {vs : List V} {ds : List D} : Kn F v d → KnA F vs ds → KnA F (v :: vs) (d :: ds)
/-- all facts of F' are among F's -/
def KS (F' F : List (V × D)) : Prop := ∀ f ∈ F', Kn F f.1 f.2
theorem KS.nil {F : List (V × D)} : KS [] F := fun _ h => nomatch h
theorem KS.refl {F : List (V × D)} : KS F F := fun _ h => .mem h
theorem KS.cons {F F' : List (V × D)} {v : V} {d : D} (h : Kn F v d) (r : KS F' F) : KS ((v, d) :: F') F := fun f hf => by
  rcases List.mem_cons.mp hf with rfl | hf
  · exact h
  · exact r f hf
theorem Kn.more {F : List (V × D)} {g : V × D} {v : V} {d : D} (h : Kn F v d) : Kn (g :: F) v d := by
  cases h with
  | mem h => exact .mem (List.mem_cons_of_mem _ h)
  | int n => exact .int n
  | bl n => exact .bl n
  | str n => exact .str n
  | non => exact .non
  | ty n => exact .ty n
  | ref a => exact .ref a
theorem KS.drop {F F' : List (V × D)} {g : V × D} (r : KS F' F) : KS F' (g :: F) := fun f hf => (r f hf).more
section
variable {I H H' : Hp} {F F' : List (V × D)} {M M' : List ME} {Mc : List (Addr × HO)} {v x y : V} {d : D} {ds : List D} {vs xs : List V}
theorem Kn.is (hF : ∀ f ∈ F, Is I f.1 f.2) (h : Kn F v d) : Is I v d := by
  cases h with
  | mem h => exact hF _ h
  | int n => exact .int n
  | bl n => exact .bl n
  | str n => exact .str n
  | non => exact .non
  | ty n => exact .ty n
  | ref a => exact .ref a
theorem KnA.is (hF : ∀ f ∈ F, Is I f.1 f.2) : ∀ {vs : List V} {ds : List D}, KnA F vs ds → IsA I vs ds
  | _, _, .nil => .nil
  | _, _, .cons h a => .cons (h.is hF) (KnA.is hF a)
theorem Rk.of (h : Kn F v d) (hd : (∃ n, d = .ref n) ∨ (∃ n, d = .ty n) → False) : Rk F M v d := by
  cases h with
  | mem h => exact .mem h
  | int n => exact .int n
  | bl n => exact .bl n
  | str n => exact .str n
  | non => exact .non
  | ty n => exact (hd (.inr ⟨_, rfl⟩)).elim
  | ref a => exact (hd (.inl ⟨_, rfl⟩)).elim
/-- what is known is there to be read -/
theorem Rk.rd (w : W I H Mc) (a : CnA I M Mc) (hF : ∀ f ∈ F, Is I f.1 f.2) (h : Rk F M v d) : Is H v d := by
  cases h with
  | mem h => exact (hF _ h).mono w.imm
  | int n => exact .int n
  | bl n => exact .bl n
  | str n => exact .str n
  | non => exact .non
  | ml h =>
    obtain ⟨m, h1, h2⟩ := a.mem h
    cases h2 with
    | ml b => exact .lst (w.mu _ h1).1 (b.mono w.imm)
  | mi h =>
    obtain ⟨m, h1, h2⟩ := a.mem h
    cases h2 with
    | mi b => exact .obj (w.mu _ h1).1 (b.mono w.imm)
theorem Rk.lst (w : W I H Mc) (a : CnA I M Mc) (hF : ∀ f ∈ F, Is I f.1 f.2) (h : Rk F M v (.lst ds)) : ∃ p vs, v = .ref p ∧ H p = some (.lst vs) ∧ IsA I vs ds := by
  cases h with
  | mem h =>
    obtain ⟨p, vs, e, h1, h2⟩ := (hF _ h).lst_ex
    exact ⟨p, vs, e, w.imm _ _ h1, h2⟩
  | ml h =>
    obtain ⟨m, h1, h2⟩ := a.mem h
    cases h2 with
    | ml b => exact ⟨_, _, rfl, (w.mu _ h1).1, b⟩
theorem Rk.tup (w : W I H Mc) (a : CnA I M Mc) (hF : ∀ f ∈ F, Is I f.1 f.2) (h : Rk F M v (.tup ds)) : ∃ p vs, v = .ref p ∧ H p = some (.tup vs) ∧ IsA I vs ds := by
  cases h with
  | mem h =>
    obtain ⟨p, vs, e, h1, h2⟩ := (hF _ h).tup_ex
    exact ⟨p, vs, e, w.imm _ _ h1, h2⟩
theorem Rk.obj {C : Addr} {fs : List (Str × D)} (w : W I H Mc) (a : CnA I M Mc) (hF : ∀ f ∈ F, Is I f.1 f.2) (h : Rk F M v (.obj C fs)) : ∃ p dx vs, v = .ref p ∧ H p = some (.ins C dx vs) ∧ IsF I vs fs := by
  cases h with
  | mem h =>
    obtain ⟨p, dx, vs, e, h1, h2⟩ := (hF _ h).obj_ex
    exact ⟨p, dx, vs, e, w.imm _ _ h1, h2⟩
  | mi h =>
    obtain ⟨m, h1, h2⟩ := a.mem h
    cases h2 with
    | mi b => exact ⟨_, _, _, rfl, (w.mu _ h1).1, b⟩
theorem Wf.sub (w : Wf F H M) (k : KS F' F) (s : List.Sublist M' M) : Wf F' H M' := by
  obtain ⟨I, Mc, w, a, hF⟩ := w.ex
  obtain ⟨Mc', h1, h2⟩ := a.sub s
  exact ⟨I, Mc', w.subl h1, h2, fun f hf => (k f hf).is hF⟩
theorem Wf.perm (w : Wf F H M) (s : List.Perm M M') : Wf F H M' := by
  obtain ⟨I, Mc, w, a, hF⟩ := w.ex
  obtain ⟨Mc', h1, h2⟩ := a.perm s
  exact ⟨I, Mc', w.perm h1, h2, hF⟩
theorem Wf.tail {f : V × D} (w : Wf (f :: F) H M) : Wf F H M := w.sub KS.refl.drop (.refl _)
theorem Wf.int_eq {n : Int} (w : Wf F H M) (h : Kn F v (.int n)) : v = .int n := by
  obtain ⟨I, Mc, w, a, hF⟩ := w.ex
  exact (h.is hF).int_eq
theorem Wf.eq0 {n : Int} (w : Wf ((v, .int n) :: F) H M) : v = .int n ∧ Wf F H M := ⟨w.int_eq (.mem List.mem_cons_self), w.tail⟩
theorem Wf.add (w : Wf F H M) (h : Kn F v d) : Wf ((v, d) :: F) H M := w.sub (KS.cons h KS.refl) (.refl _)
theorem Wf.more (w : Wf F H M) (s : Same H H') : Wf F H' M := by
  obtain ⟨I, Mc, w, a, hF⟩ := w.ex
  exact ⟨I, Mc, w.more s, a, hF⟩
/-- for contracts in the elder form -/
theorem Wf.old (w : Wf F H M) : ∃ I Mc, W I H Mc ∧ (∀ v d, Kn F v d → Is I v d) ∧ (∀ J H', Same I J → W J H' Mc → Wf F H' M) ∧ ∀ J H' r d, Same I J → W J H' Mc → Is J r d → Wf ((r, d) :: F) H' M := by
  obtain ⟨I, Mc, w, a, hF⟩ := w.ex
  refine ⟨I, Mc, w, fun v d h => h.is hF, fun J H' s w' => ⟨J, Mc, w', a.mono s, fun f hf => (hF f hf).mono s⟩, fun J H' r d s w' h => ⟨J, Mc, w', a.mono s, fun f hf => ?_⟩⟩
  rcases List.mem_cons.mp hf with rfl | hf
  · exact h
  · exact (hF f hf).mono s
theorem Wf.oldB {b : Addr} (w : Wf F H M) (hb : .bag b ∈ M) : ∃ I Mc c o, W I H ((b, o) :: Mc) ∧ Bag I c o ∧ (∀ v d, Kn F v d → Is I v d) ∧ (∀ J H' o', Same I J → W J H' ((b, o') :: Mc) → Bag J c o' → Wf F H' M) ∧ ∀ J H' o' r d, Same I J → W J H' ((b, o') :: Mc) → Bag J c o' → Is J r d → Wf ((r, d) :: F) H' M := by
  obtain ⟨M1, M2, rfl⟩ := List.append_of_mem hb
  have hp : List.Perm (M1 ++ .bag b :: M2) (.bag b :: (M1 ++ M2)) := List.perm_middle
  obtain ⟨I, Mc, w, a, hF⟩ := (w.perm hp).ex
  cases a with
  | cons h a =>
    cases h with
    | @bag _ c o hb =>
      have z : ∀ J H' o', Same I J → W J H' ((b, o') :: _) → Bag J c o' → ∀ F', (∀ f ∈ F', Is J f.1 f.2) → Wf F' H' (M1 ++ .bag b :: M2) := fun J H' o' s w' hb' F' hF' =>
        Wf.perm (M := .bag b :: (M1 ++ M2)) ⟨J, _, w', .cons (.bag hb') (a.mono s), hF'⟩ hp.symm
      refine ⟨I, _, _, _, w, hb, fun v d h => h.is hF, fun J H' o' s w' hb' => z J H' o' s w' hb' F fun f hf => (hF f hf).mono s, fun J H' o' r d s w' hb' h => z J H' o' s w' hb' _ fun f hf => ?_⟩
      rcases List.mem_cons.mp hf with rfl | hf
      · exact h
      · exact (hF f hf).mono s
end

/-! ### steps -/
section
variable {K : PySem.W.Frag} {σ : L2.St} {H : Hp} {F : List (V × D)} {M M' : List ME} {Q : VK} {G : Ends} {v x y u : V} {vs xs us : List V} {d e : D} {ds es : List D} {p : Addr} {i : Int} {g : TG} {tb : TS} {te : TE} {tt : TT} {sp : Sp} {C : Addr} {E : XK} {f m : Str} {fs : List (Str × D)} {L : List Str}
theorem Wf.put {o' : HO} {e e' : ME} (w : Wf F H M) (f : Foc M e M' e') (h : ∀ I m, (∀ f ∈ F, Is I f.1 f.2) → Cn I e m → m.1 = p ∧ Cn I e' (p, o')) : Wf F (upd H p o') M' := by
  obtain ⟨I, Mc, w, a, hF⟩ := w.ex
  obtain ⟨M1, m, M2, rfl, h1, h2⟩ := a.foc f
  obtain ⟨h3, h4⟩ := h I m hF h1
  obtain ⟨p', o⟩ := m
  cases h3
  exact ⟨I, _, w.put, h2 I _ (Same.refl _) h4, hF⟩
theorem Wf.lstAt (w : Wf F H M) (h : .ml p ds ∈ M) : ∃ vs, H p = some (.lst vs) ∧ vs.length = ds.length := by
  obtain ⟨I, Mc, w, a, hF⟩ := w.ex
  obtain ⟨m, h1, h2⟩ := a.mem h
  cases h2 with
  | ml b => exact ⟨_, (w.mu _ h1).1, b.length⟩
theorem Foc.mem {e e' : ME} (f : Foc M e M' e') : e ∈ M := by
  induction f with
  | here => exact List.mem_cons_self
  | there _ ih => exact List.mem_cons_of_mem _ ih
theorem Rem.mem {e : ME} (f : Rem M e M') : e ∈ M := by
  induction f with
  | here => exact List.mem_cons_self
  | there _ ih => exact List.mem_cons_of_mem _ ih
theorem Wf.frzL (w : Wf F H M) (r : Rem M (.ml p ds) M') : Wf ((.ref p, .lst ds) :: F) H M' := by
  obtain ⟨I, Mc, w, a, hF⟩ := w.ex
  obtain ⟨M1, m, M2, rfl, h1, h2⟩ := a.rem r
  cases h1 with
  | ml b =>
    refine ⟨_, _, w.frz, h2.mono w.frzS, fun f hf => ?_⟩
    rcases List.mem_cons.mp hf with rfl | hf
    · exact .lst upd_same (b.mono w.frzS)
    · exact (hF f hf).mono w.frzS
theorem Wf.frzI (w : Wf F H M) (r : Rem M (.mi p C fs) M') : Wf ((.ref p, .obj C fs) :: F) H M' := by
  obtain ⟨I, Mc, w, a, hF⟩ := w.ex
  obtain ⟨M1, m, M2, rfl, h1, h2⟩ := a.rem r
  cases h1 with
  | mi b =>
    refine ⟨_, _, w.frz, h2.mono w.frzS, fun f hf => ?_⟩
    rcases List.mem_cons.mp hf with rfl | hf
    · exact .obj upd_same (b.mono w.frzS)
    · exact (hF f hf).mono w.frzS
-- subscripts
theorem n_ixT (w : Wf F H M) (h : Rk F M v (.tup ds)) (hd : atI ds i = some d) (q : ∀ u, Wf ((u, d) :: F) H M → Q u H) : rIx K v (.int i) H Q := by
  obtain ⟨I, Mc, w, a, hF⟩ := w.ex
  obtain ⟨p, vs, rfl, hp, b⟩ := h.tup w a hF
  obtain ⟨u, e, hu⟩ := atI_isa b hd
  exact .inr (.inl ⟨p, vs, i, u, rfl, rfl, .inl (.inl hp), e, q u ⟨I, Mc, w, a, fun f hf => by
    rcases List.mem_cons.mp hf with rfl | hf
    · exact hu
    · exact hF f hf⟩⟩)
theorem n_ixL (w : Wf F H M) (h : Rk F M v (.lst ds)) (hd : atI ds i = some d) (q : ∀ u, Wf ((u, d) :: F) H M → Q u H) : rIx K v (.int i) H Q := by
  obtain ⟨I, Mc, w, a, hF⟩ := w.ex
  obtain ⟨p, vs, rfl, hp, b⟩ := h.lst w a hF
  obtain ⟨u, e, hu⟩ := atI_isa b hd
  exact .inl ⟨p, vs, i, u, rfl, rfl, .inl (.inl hp), e, q u ⟨I, Mc, w, a, fun f hf => by
    rcases List.mem_cons.mp hf with rfl | hf
    · exact hu
    · exact hF f hf⟩⟩
theorem n_ixTi {n : Int} (w : Wf F H M) (h : Rk F M v (.tup ds)) (hd : atI ds i = some (.int n)) (q : Q (.int n) H) : rIx K v (.int i) H Q := n_ixT w h hd fun u w => by rw [w.eq0.1]; exact q
theorem n_ixLi {n : Int} (w : Wf F H M) (h : Rk F M v (.lst ds)) (hd : atI ds i = some (.int n)) (q : Q (.int n) H) : rIx K v (.int i) H Q := n_ixL w h hd fun u w => by rw [w.eq0.1]; exact q
theorem n_ixTn (w : Wf F H M) (h : Rk F M v (.tup ds)) (hd : atI ds i = some .non) (q : Q .non H) : rIx K v (.int i) H Q := n_ixT w h hd fun u w => by
  obtain ⟨I, Mc, w, a, hF⟩ := w.ex
  cases (hF (u, .non) List.mem_cons_self : Is I u .non).non_eq
  exact q
theorem n_ixLLi {n : Int} (w : Wf F H M) (h : Rk F M v (.lst ds)) (hd : atI ds i = some (.int n)) (q : Q (.int n) H) : rIxL K v (.int i) H Q := by
  obtain ⟨I, Mc, w, a, hF⟩ := w.ex
  obtain ⟨p, vs, rfl, hp, b⟩ := h.lst w a hF
  obtain ⟨u, e, hu⟩ := atI_isa b hd
  cases hu.int_eq
  exact ⟨p, vs, i, _, rfl, rfl, .inl (.inl hp), e, q⟩
/-- an item at an open place -/
theorem n_ixAny (w : Wf F H M) (h : Rk F M v (.lst ds)) (h0 : 0 ≤ i) (h1 : i < ds.length) (q : ∀ d u, ds[i.toNat]? = some d → Wf ((u, d) :: F) H M → Q u H) : rIx K v (.int i) H Q := by
  have h2 : i.toNat < ds.length := by omega
  have e : (i.toNat : Int) = i := by omega
  have z := atI_nat (List.getElem?_eq_getElem h2)
  rw [e] at z
  exact n_ixL w h z fun u w' => q _ u (List.getElem?_eq_getElem h2) w'
theorem n_ixAnyT (w : Wf F H M) (h : Rk F M v (.tup ds)) (h0 : 0 ≤ i) (h1 : i < ds.length) (q : ∀ d u, ds[i.toNat]? = some d → Wf ((u, d) :: F) H M → Q u H) : rIx K v (.int i) H Q := by
  have h2 : i.toNat < ds.length := by omega
  have e : (i.toNat : Int) = i := by omega
  have z := atI_nat (List.getElem?_eq_getElem h2)
  rw [e] at z
  exact n_ixT w h z fun u w' => q _ u (List.getElem?_eq_getElem h2) w'
/-- an item of a list of ints at an open place -/
theorem n_ixInts {ns : List Int} (w : Wf F H M) (h : Rk F M v (.lst (ns.map D.int))) (h0 : 0 ≤ i) (h1 : i < ns.length) (q : ∀ n, ns[i.toNat]? = some n → Q (.int n) H) : rIx K v (.int i) H Q :=
  n_ixAny w h h0 (by rw [List.length_map]; exact h1) fun d u hd w => by
    rw [List.getElem?_map] at hd
    cases e : ns[i.toNat]? with
    | none => rw [e] at hd; cases hd
    | some n =>
      rw [e] at hd
      cases hd
      rw [w.eq0.1]
      exact q n e
-- len
theorem n_lenL (w : Wf F H M) (h : Rk F M v (.lst ds)) (q : Q (.int ds.length) H) : rLenU K [v] H Q := by
  obtain ⟨I, Mc, w, a, hF⟩ := w.ex
  obtain ⟨p, vs, rfl, hp, b⟩ := h.lst w a hF
  exact .inl ⟨p, vs, rfl, .inl (.inl (.inl hp)), by rw [b.length]; exact q⟩
theorem n_lenT (w : Wf F H M) (h : Rk F M v (.tup ds)) (q : Q (.int ds.length) H) : rLenU K [v] H Q := by
  obtain ⟨I, Mc, w, a, hF⟩ := w.ex
  obtain ⟨p, vs, rfl, hp, b⟩ := h.tup w a hF
  exact .inl ⟨p, vs, rfl, .inr (.inl (.inl hp)), by rw [b.length]; exact q⟩
-- new things
theorem n_newT (w : Wf F H M) (a : KnA F xs ds) (hz : xs.length ≤ 1000) (q : ∀ p H', Wf ((.ref p, .tup ds) :: F) H' M → Q (.ref p) H') : NewT Q xs H := by
  obtain ⟨I, Mc, w, ac, hF⟩ := w.ex
  refine s_newT w (a.is hF) hz fun p J H' s _ w' h' => q p H' ⟨J, Mc, w', ac.mono s, fun f hf => ?_⟩
  rcases List.mem_cons.mp hf with rfl | hf
  · exact h'
  · exact (hF f hf).mono s
theorem n_newL (w : Wf F H M) (a : KnA F xs ds) (hz : xs.length ≤ 1000) (q : ∀ p H', Wf F H' (.ml p ds :: M) → Q (.ref p) H') : NewL Q xs H := by
  obtain ⟨I, Mc, w, ac, hF⟩ := w.ex
  exact s_newM w hz fun p H' w' => q p H' ⟨I, _, w', .cons (.ml (a.is hF)) ac, hF⟩
theorem n_newNil (w : Wf F H M) (q : ∀ p H', Wf F H' (.ml p [] :: M) → Q (.ref p) H') : NewL Q [] H := n_newL w .nil (by simp) q
-- unpacking
theorem n_gtup {n : Nat} {gs : TGs} {T : L2.St → Hp → Prop} (w : Wf F H M) (h : Rk F M v (.tup ds)) (hn : ds.length = n) (q : ∀ I Mc xs, W I H Mc → CnA I M Mc → (∀ f ∈ F, Is I f.1 f.2) → IsA I xs ds → gs xs σ H T) : gTup K n gs v σ H T := by
  obtain ⟨I, Mc, w, a, hF⟩ := w.ex
  obtain ⟨p, vs, rfl, hp, b⟩ := h.tup w a hF
  exact ⟨p, vs, rfl, .inl (.inl hp), by rw [b.length]; exact hn, q I Mc vs w a hF b⟩
theorem n_gtup2 {gs : TGs} {T : L2.St → Hp → Prop} {d0 d1 : D} (w : Wf F H M) (h : Rk F M v (.tup [d0, d1])) (q : ∀ x y, Wf ((x, d0) :: (y, d1) :: F) H M → gs [x, y] σ H T) : gTup K 2 gs v σ H T :=
  n_gtup w h rfl fun I Mc xs w a hF b => by
    cases b with | cons h0 b =>
    cases b with | cons h1 b =>
    cases b
    refine q _ _ ⟨I, Mc, w, a, fun f hf => ?_⟩
    rcases List.mem_cons.mp hf with rfl | hf
    · exact h0
    rcases List.mem_cons.mp hf with rfl | hf
    · exact h1
    · exact hF f hf
theorem n_gtup3 {gs : TGs} {T : L2.St → Hp → Prop} {d0 d1 d2 : D} (w : Wf F H M) (h : Rk F M v (.tup [d0, d1, d2])) (q : ∀ x y z, Wf ((x, d0) :: (y, d1) :: (z, d2) :: F) H M → gs [x, y, z] σ H T) : gTup K 3 gs v σ H T :=
  n_gtup w h rfl fun I Mc xs w a hF b => by
    cases b with | cons h0 b =>
    cases b with | cons h1 b =>
    cases b with | cons h2 b =>
    cases b
    refine q _ _ _ ⟨I, Mc, w, a, fun f hf => ?_⟩
    rcases List.mem_cons.mp hf with rfl | hf
    · exact h0
    rcases List.mem_cons.mp hf with rfl | hf
    · exact h1
    rcases List.mem_cons.mp hf with rfl | hf
    · exact h2
    · exact hF f hf
theorem n_gtup4 {gs : TGs} {T : L2.St → Hp → Prop} {d0 d1 d2 d3 : D} (w : Wf F H M) (h : Rk F M v (.tup [d0, d1, d2, d3])) (q : ∀ x y z u, Wf ((x, d0) :: (y, d1) :: (z, d2) :: (u, d3) :: F) H M → gs [x, y, z, u] σ H T) : gTup K 4 gs v σ H T :=
  n_gtup w h rfl fun I Mc xs w a hF b => by
    cases b with | cons h0 b =>
    cases b with | cons h1 b =>
    cases b with | cons h2 b =>
    cases b with | cons h3 b =>
    cases b
    refine q _ _ _ _ ⟨I, Mc, w, a, fun f hf => ?_⟩
    rcases List.mem_cons.mp hf with rfl | hf
    · exact h0
    rcases List.mem_cons.mp hf with rfl | hf
    · exact h1
    rcases List.mem_cons.mp hf with rfl | hf
    · exact h2
    rcases List.mem_cons.mp hf with rfl | hf
    · exact h3
    · exact hF f hf
/-- two ints -/
theorem n_gtupII {gs : TGs} {T : L2.St → Hp → Prop} {m n : Int} (w : Wf F H M) (h : Rk F M v (.tup [.int m, .int n])) (q : gs [.int m, .int n] σ H T) : gTup K 2 gs v σ H T :=
  n_gtup2 w h fun x y w => by
    rw [w.eq0.1, w.eq0.2.eq0.1]
    exact q
theorem n_gtupIII {gs : TGs} {T : L2.St → Hp → Prop} {m n o : Int} (w : Wf F H M) (h : Rk F M v (.tup [.int m, .int n, .int o])) (q : gs [.int m, .int n, .int o] σ H T) : gTup K 3 gs v σ H T :=
  n_gtup3 w h fun x y z w => by
    rw [w.eq0.1, w.eq0.2.eq0.1, w.eq0.2.eq0.2.eq0.1]
    exact q
-- lists that may be changed
theorem n_tyL {A : Prop} (w : Wf F H M) (h : .ml p ds ∈ M) (a : A) : tyV K "list" (.ref p) H ∧ A := by
  obtain ⟨vs, h1, _⟩ := w.lstAt h
  exact s_tyL h1 a
theorem n_app (w : Wf F H M) (f : Foc M (.ml p ds) M' (.ml p (ds ++ [d]))) (h : Kn F x d) (hz : ds.length ≤ 100000) (q : ∀ H', Wf F H' M' → Q .non H') : rAppend (.ref p) [x] H Q := by
  obtain ⟨vs, h1, hl⟩ := w.lstAt f.mem
  obtain ⟨I, Mc, w, a, hF⟩ := w.ex
  obtain ⟨M1, m, M2, rfl, h3, h4⟩ := a.foc f
  cases h3 with
  | ml b =>
    exact s_app w.at (by rw [b.length]; exact hz) (q _ ⟨I, _, w.put, h4 I _ (Same.refl _) (.ml (b.app (.one (h.is hF)))), hF⟩)
theorem n_clear (w : Wf F H M) (f : Foc M (.ml p ds) M' (.ml p [])) (q : ∀ H', Wf F H' M' → Q .non H') : rClear (.ref p) [] H Q := by
  obtain ⟨vs, h1, hl⟩ := w.lstAt f.mem
  exact s_clear h1 (q _ (w.put f fun I m _ h => by cases h; exact ⟨rfl, .ml .nil⟩))
theorem IsA.set {I : Hp} (h : Is I v d) : ∀ {vs : List V} {ds : List D} (j : Nat), IsA I vs ds → IsA I (vs.set j v) (ds.set j d)
  | _, _, _, .nil => .nil
  | _, _, 0, .cons _ a => .cons h a
  | _, _, j + 1, .cons h' a => .cons h' (IsA.set h j a)
theorem n_set {T : Hp → Prop} {k : Int} {j : Nat} (w : Wf F H M) (f : Foc M (.ml p ds) M' (.ml p (ds.set j d))) (h : Kn F v d) (hj : ixN ds.length k = some j) (q : ∀ H', Wf F H' M' → T H') : rSetL (.ref p) (.int k) v H T := by
  obtain ⟨I, Mc, w, a, hF⟩ := w.ex
  obtain ⟨M1, m, M2, rfl, h3, h4⟩ := a.foc f
  cases h3 with
  | ml b => exact s_setL w.at (by rw [b.length]; exact hj) (q _ ⟨I, _, w.put, h4 I _ (Same.refl _) (.ml (IsA.set (h.is hF) j b)), hF⟩)
-- list(..), slices, +, reversed copies
theorem n_list (w : Wf F H M) (h : Rk F M x (.lst ds)) (q : ∀ p H', Wf F H' (.ml p ds :: M) → Q (.ref p) H') : rListOf K [x] H Q := by
  obtain ⟨I, Mc, w, a, hF⟩ := w.ex
  obtain ⟨p, vs, rfl, hp, b⟩ := h.lst w a hF
  exact ⟨p, vs, rfl, .inl (.inl (.inl hp)), fun l hl => q l _ ⟨I, _, w.newM hl, .cons (.ml b) a, hF⟩⟩
theorem n_listT (w : Wf F H M) (h : Rk F M x (.tup ds)) (q : ∀ p H', Wf F H' (.ml p ds :: M) → Q (.ref p) H') : rListOf K [x] H Q := by
  obtain ⟨I, Mc, w, a, hF⟩ := w.ex
  obtain ⟨p, vs, rfl, hp, b⟩ := h.tup w a hF
  exact ⟨p, vs, rfl, .inr (.inl (.inl hp)), fun l hl => q l _ ⟨I, _, w.newM hl, .cons (.ml b) a, hF⟩⟩
theorem n_sl {lo hi : Option Int} (w : Wf F H M) (h : Rk F M x (.lst ds)) (q : ∀ p H', Wf F H' (.ml p (cutD ds lo hi) :: M) → Q (.ref p) H') : rSlL K x lo hi H Q := by
  obtain ⟨I, Mc, w, a, hF⟩ := w.ex
  obtain ⟨p, vs, rfl, hp, b⟩ := h.lst w a hF
  exact ⟨p, vs, rfl, .inl (.inl hp), fun l hl => q l _ ⟨I, _, w.newM hl, .cons (.ml (b.cut lo hi)) a, hF⟩⟩
theorem n_cat (w : Wf F H M) (hx : Rk F M x (.lst ds)) (hy : Rk F M y (.lst es)) (hz : ds.length + es.length ≤ 100000) (q : ∀ p H', Wf F H' (.ml p (ds ++ es) :: M) → Q (.ref p) H') : rAddU K x y H Q := by
  obtain ⟨I, Mc, w, a, hF⟩ := w.ex
  obtain ⟨p1, vs, rfl, h1, a1⟩ := hx.lst w a hF
  obtain ⟨p2, us, rfl, h2, a2⟩ := hy.lst w a hF
  exact .inr (.inr (.inl ⟨p1, p2, vs, us, rfl, rfl, h1, h2, by rw [a1.length, a2.length]; exact Nat.le_trans hz (by decide), fun p hp => q p _ ⟨I, _, w.newM hp, .cons (.ml (a1.app a2)) a, hF⟩⟩))
theorem n_rev (w : Wf F H M) (h : Rk F M v (.lst ds)) (q : ∀ p H', Wf F H' (.ml p ds.reverse :: M) → Q (.ref p) H') : RevQ K Q v H := by
  obtain ⟨I, Mc, w, a, hF⟩ := w.ex
  obtain ⟨p, vs, rfl, hp, b⟩ := h.lst w a hF
  exact ⟨p, vs, rfl, .inl (.inl hp), fun l hl => q l _ ⟨I, _, w.newM hl, .cons (.ml b.rev) a, hF⟩⟩
-- == of data
theorem NB.dpH {k : Nat} (n : NB k d) : ∀ {v : V}, Is H v d → Dp K H v d.pd := fun {v} h => NB.dp (I := H) (M := []) ⟨fun _ _ e => e, fun _ h => (nomatch h), List.nodup_nil⟩ n h
theorem Wf.rd (w : Wf F H M) (h : Rk F M v d) : Is H v d := by
  obtain ⟨I, Mc, w, a, hF⟩ := w.ex
  exact h.rd w a hF
theorem n_eq {b : Bool} {j k : Nat} (w : Wf F H M) (hx : Rk F M x d) (hy : Rk F M y e) (n : NB k d) (m : NB j e) (hk : k ≤ 64) (hj : j ≤ 64) (hb : b = true ↔ d = e) (q : Q (.bl b) H) : rEqU K x y H Q :=
  .inr ⟨d.pd, e.pd, n.dpH (w.rd hx), m.dpH (w.rd hy), n.shaped hk, m.shaped hj, by
    have h1 := n.eqv m
    have h2 : PyData.eqv d.pd e.pd = b := by rw [Bool.eq_iff_iff, h1, hb]
    rw [h2]; exact q⟩
theorem n_ne {b : Bool} {j k : Nat} (w : Wf F H M) (hx : Rk F M x d) (hy : Rk F M y e) (n : NB k d) (m : NB j e) (hk : k ≤ 64) (hj : j ≤ 64) (hb : b = true ↔ d = e) (q : Q (.bl (!b)) H) : rNeU K x y H Q :=
  .inr ⟨d.pd, e.pd, n.dpH (w.rd hx), m.dpH (w.rd hy), n.shaped hk, m.shaped hj, by
    have h1 := n.eqv m
    have h2 : PyData.eqv d.pd e.pd = b := by rw [Bool.eq_iff_iff, h1, hb]
    rw [h2]; exact q⟩
theorem n_eqT (w : Wf F H M) (hx : Rk F M x d) (hy : Rk F M y d) (n : NB 60 d) (q : Q (.bl true) H) : rEqU K x y H Q := n_eq w hx hy n n (by decide) (by decide) (b := true) (by simp) q
theorem n_neT (w : Wf F H M) (hx : Rk F M x d) (hy : Rk F M y d) (n : NB 60 d) (q : Q (.bl false) H) : rNeU K x y H Q := n_ne w hx hy n n (by decide) (by decide) (b := true) (by simp) q
-- isinstance
theorem isi_base {a b : String} {k : Bool} (h : Is H v d) (e : d.tn = some a) (hb : kitB a b = some k) (q : Q (.bl k) H) : rIsiU K [v, .ty b] H Q := s_isi (I := H) (M := []) ⟨fun _ _ e => e, fun _ h => (nomatch h), List.nodup_nil⟩ h e hb q
theorem n_isi {a b : String} {k : Bool} (w : Wf F H M) (h : Rk F M v d) (e : d.tn = some a) (hb : kitB a b = some k) (q : Q (.bl k) H) : rIsiU K [v, .ty b] H Q := isi_base (w.rd h) e hb q
theorem W.self : W H H [] := ⟨fun _ _ e => e, fun _ h => (nomatch h), List.nodup_nil⟩
theorem n_isiO {b : String} {k : Bool} (o : OwnC K C) (w : Wf F H M) (h : Rk F M v (.obj C fs)) (hb : PySem.W.kitOne K (.ref C) (.type b) = some k) (q : Q (.bl k) H) : rIsiU K [v, .ty b] H Q := s_isiO o W.self (w.rd h) hb q
theorem n_isiC {a : String} {k : Bool} (w : Wf F H M) (h : Rk F M v d) (e : d.tn = some a) (hb : PySem.W.kitOne K (.type a) (.ref C) = some k) (q : Q (.bl k) H) : rIsiU K [v, .ref C] H Q := s_isiC W.self (w.rd h) e hb q
theorem n_isiOC {C' : Addr} {k : Bool} (o : OwnC K C) (w : Wf F H M) (h : Rk F M v (.obj C fs)) (hb : PySem.W.kitOne K (.ref C) (.ref C') = some k) (q : Q (.bl k) H) : rIsiU K [v, .ref C'] H Q := s_isiOC o W.self (w.rd h) hb q
-- objects
theorem n_fld (w : Wf F H M) (h : Rk F M v (.obj C fs)) (hc : Cls K C) (hn : ∀ f ∈ L, NoAttr K C f) (hf : f ∈ L) (hd : fs.lookup f = some d) (q : ∀ u, Wf ((u, d) :: F) H M → Q u H) : FldQ K f Q v H := by
  obtain ⟨I, Mc, w, a, hF⟩ := w.ex
  obtain ⟨p, dx, vs, rfl, hp, b⟩ := h.obj w a hF
  obtain ⟨u, e, hu⟩ := b.get hd
  exact ⟨p, C, dx, vs, u, rfl, hp, hc, hn f hf, e, q u ⟨I, Mc, w, a, fun f hf => by
    rcases List.mem_cons.mp hf with rfl | hf
    · exact hu
    · exact hF f hf⟩⟩
theorem n_fldi {n : Int} (w : Wf F H M) (h : Rk F M v (.obj C fs)) (hc : Cls K C) (hn : ∀ f ∈ L, NoAttr K C f) (hf : f ∈ L) (hd : fs.lookup f = some (.int n)) (q : Q (.int n) H) : FldQ K f Q v H := n_fld w h hc hn hf hd fun u w => by rw [w.eq0.1]; exact q
theorem n_fldn (w : Wf F H M) (h : Rk F M v (.obj C fs)) (hc : Cls K C) (hn : ∀ f ∈ L, NoAttr K C f) (hf : f ∈ L) (hd : fs.lookup f = some .non) (q : Q .non H) : FldQ K f Q v H := n_fld w h hc hn hf hd fun u w => by
  obtain ⟨I, Mc, w, a, hF⟩ := w.ex
  cases (hF (u, .non) List.mem_cons_self : Is I u .non).non_eq
  exact q
theorem n_meth {A : Prop} (w : Wf F H M) (h : Rk F M v (.obj C fs)) (hm : m ∉ fs.map (·.1)) (q : A) : MethQ C m v H A := s_methAt W.self (w.rd h) hm q
theorem n_make (w : Wf F H M) (q : ∀ x H', Wf F H' (.mi x C [] :: M) → sp (.ref x :: vs) H' (fun v H2 => v = .non ∧ Q (.ref x) H2) E) : MakeQ C sp E Q vs H := by
  obtain ⟨I, Mc, w, a, hF⟩ := w.ex
  exact s_makeW w fun x dx H' _ w' => q x H' ⟨I, _, w', .cons (.mi .nil) a, hF⟩
def putD (f : Str) (d : D) : List (Str × D) → List (Str × D)
  | [] => [(f, d)]
  | (g, x) :: r => if g = f then (g, d) :: r else (g, x) :: putD f d r
theorem IsF.put {I : Hp} (h : Is I v d) : ∀ {vs : List (Str × V)} {fs : List (Str × D)}, IsF I vs fs → IsF I (putF f v vs) (putD f d fs)
  | _, _, .nil => .cons h .nil
  | _, _, .cons (f := g) h' a => by
    unfold putF putD
    by_cases e : g = f
    · rw [if_pos e, if_pos e]; exact .cons h a
    · rw [if_neg e, if_neg e]; exact .cons h' (IsF.put h a)
theorem IsF.length {I : Hp} : ∀ {vs : List (Str × V)} {fs : List (Str × D)}, IsF I vs fs → vs.length = fs.length
  | _, _, .nil => rfl
  | _, _, .cons _ a => by rw [List.length_cons, List.length_cons, a.length]
theorem n_sf (w : Wf F H M) (fo : Foc M (.mi p C fs) M' (.mi p C (putD f d fs))) (h : Kn F y d) (hc : Cls K C) (hn : ∀ f ∈ L, NoAttr K C f) (hf : f ∈ L) (hg : fs.length < 1000) (q : ∀ H', Wf F H' M' → G.nx σ H') : SfQ K f G σ (.ref p) y H := by
  obtain ⟨I, Mc, w, a, hF⟩ := w.ex
  obtain ⟨M1, m, M2, rfl, h3, h4⟩ := a.foc fo
  cases h3 with
  | mi b =>
    exact ⟨p, C, _, _, rfl, w.at, hc, hn f hf, by rw [b.length]; exact hg, q _ ⟨I, _, w.put, h4 I _ (Same.refl _) (.mi (b.put (h.is hF))), hF⟩⟩
end

/-! ### loops -/
section
variable {K : PySem.W.Frag} {σ : L2.St} {H : Hp} {F : List (V × D)} {M M' : List ME} {Q : VK} {G : Ends} {v : V} {ds : List D} {g : TG} {tb : TS} {te : TE} {tt : TT} {c : TT}
/-- the heap of a loop -/
def LI (R : L2.St → List (V × D) → List ME → Prop) (σ : L2.St) (H : Hp) : Prop := ∃ F M, R σ F M ∧ Wf F H M
theorem n_forL (w : Wf F H M) (R : Nat → L2.St → List (V × D) → List ME → Prop) (hv : ∀ i σ F M, R i σ F M → Rk F M v (.lst ds)) (h0 : R 0 σ F M)
    (step : ∀ i d x σ H F M, ds[i]? = some d → R i σ F M → Wf ((x, d) :: F) H M → g x σ H fun σ2 H2 => tb { G with nx := LI (R (i + 1)), ct := LI (R (i + 1)), bk := G.nx } σ2 H2)
    (fin : ∀ σ H F M, R ds.length σ F M → Wf F H M → G.nx σ H) :
    ∃ a, v = .ref a ∧ (∃ xs, SqL K H a xs) ∧ ∃ W : Nat → Nat → L2.St → Hp → Prop, (∃ m, W 0 m σ H) ∧ ∀ i m σ H, W i m σ H →
      ((Itl K a).stop i H ∧ G.nx σ H) ∨ ((Itl K a).go i H ∧ ∃ N : L2.St → Hp → Prop, (∀ σ' H', N σ' H' → ∃ m', m' < m ∧ W (i + 1) m' σ' H') ∧ ∀ x H', (Itl K a).yld i H x H' → g x σ H' fun σ2 H2 => tb { G with nx := N, ct := N, bk := G.nx } σ2 H2) := by
  have e0 : ∃ a, v = .ref a ∧ ∃ xs, SqL K H a xs := by
    obtain ⟨I, Mc, w, a, hF⟩ := w.ex
    obtain ⟨p, vs, rfl, hp, b⟩ := (hv _ _ _ _ h0).lst w a hF
    exact ⟨p, rfl, vs, .inl (.inl hp)⟩
  obtain ⟨a, rfl, hx⟩ := e0
  refine ⟨a, rfl, hx, fun i m σ H => m = ds.length - i ∧ i ≤ ds.length ∧ LI (R i) σ H, ⟨ds.length, rfl, Nat.zero_le _, F, M, h0, w⟩, ?_⟩
  rintro i m σ H ⟨rfl, hi, F, M, hR, w⟩
  obtain ⟨I, Mc, w1, ac, hF⟩ := w.ex
  obtain ⟨p, vs, e, hp, b⟩ := (hv _ _ _ _ hR).lst w1 ac hF
  cases e
  have hs : SqL K H a vs := .inl (.inl hp)
  by_cases hlt : i < ds.length
  · have hl : i < vs.length := by rw [b.length]; exact hlt
    refine .inr ⟨⟨vs, vs[i], hs, List.getElem?_eq_getElem hl⟩, LI (R (i + 1)), fun σ' H' z => ⟨ds.length - (i + 1), by omega, rfl, hlt, z⟩, fun x H' y => ?_⟩
    obtain ⟨rfl, y⟩ := y
    obtain ⟨d, e1, e2⟩ := b.of (y vs hs)
    refine step i d x σ _ F M e1 hR ⟨I, Mc, w1, ac, fun f hf => ?_⟩
    rcases List.mem_cons.mp hf with rfl | hf
    · exact e2
    · exact hF f hf
  · have e : i = ds.length := by omega
    subst e
    exact .inl ⟨⟨vs, hs, by rw [b.length]; exact Nat.le_refl _⟩, fin σ H F M hR w⟩
theorem n_forT (w : Wf F H M) (R : Nat → L2.St → List (V × D) → List ME → Prop) (hv : ∀ i σ F M, R i σ F M → Rk F M v (.tup ds)) (h0 : R 0 σ F M)
    (step : ∀ i d x σ H F M, ds[i]? = some d → R i σ F M → Wf ((x, d) :: F) H M → g x σ H fun σ2 H2 => tb { G with nx := LI (R (i + 1)), ct := LI (R (i + 1)), bk := G.nx } σ2 H2)
    (fin : ∀ σ H F M, R ds.length σ F M → Wf F H M → G.nx σ H) :
    ∃ a, v = .ref a ∧ (∃ xs, SqT K H a xs) ∧ ∃ W : Nat → Nat → L2.St → Hp → Prop, (∃ m, W 0 m σ H) ∧ ∀ i m σ H, W i m σ H →
      ((Itt K a).stop i H ∧ G.nx σ H) ∨ ((Itt K a).go i H ∧ ∃ N : L2.St → Hp → Prop, (∀ σ' H', N σ' H' → ∃ m', m' < m ∧ W (i + 1) m' σ' H') ∧ ∀ x H', (Itt K a).yld i H x H' → g x σ H' fun σ2 H2 => tb { G with nx := N, ct := N, bk := G.nx } σ2 H2) := by
  have e0 : ∃ a, v = .ref a ∧ ∃ xs, SqT K H a xs := by
    obtain ⟨I, Mc, w, a, hF⟩ := w.ex
    obtain ⟨p, vs, rfl, hp, b⟩ := (hv _ _ _ _ h0).tup w a hF
    exact ⟨p, rfl, vs, .inl (.inl hp)⟩
  obtain ⟨a, rfl, hx⟩ := e0
  refine ⟨a, rfl, hx, fun i m σ H => m = ds.length - i ∧ i ≤ ds.length ∧ LI (R i) σ H, ⟨ds.length, rfl, Nat.zero_le _, F, M, h0, w⟩, ?_⟩
  rintro i m σ H ⟨rfl, hi, F, M, hR, w⟩
  obtain ⟨I, Mc, w1, ac, hF⟩ := w.ex
  obtain ⟨p, vs, e, hp, b⟩ := (hv _ _ _ _ hR).tup w1 ac hF
  cases e
  have hs : SqT K H a vs := .inl (.inl hp)
  by_cases hlt : i < ds.length
  · have hl : i < vs.length := by rw [b.length]; exact hlt
    refine .inr ⟨⟨vs, vs[i], hs, List.getElem?_eq_getElem hl⟩, LI (R (i + 1)), fun σ' H' z => ⟨ds.length - (i + 1), by omega, rfl, hlt, z⟩, fun x H' y => ?_⟩
    obtain ⟨rfl, y⟩ := y
    obtain ⟨d, e1, e2⟩ := b.of (y vs hs)
    refine step i d x σ _ F M e1 hR ⟨I, Mc, w1, ac, fun f hf => ?_⟩
    rcases List.mem_cons.mp hf with rfl | hf
    · exact e2
    · exact hF f hf
  · have e : i = ds.length := by omega
    subst e
    exact .inl ⟨⟨vs, hs, by rw [b.length]; exact Nat.le_refl _⟩, fin σ H F M hR w⟩
theorem n_forR {lo : Int} {n : Nat} (w : Wf F H M) (R : Nat → L2.St → List (V × D) → List ME → Prop) (h0 : R 0 σ F M)
    (step : ∀ i σ H F M, i < n → R i σ F M → Wf F H M → g (.int (lo + i)) σ H fun σ2 H2 => tb { G with nx := LI (R (i + 1)), ct := LI (R (i + 1)), bk := G.nx } σ2 H2)
    (fin : ∀ σ H F M, R n σ F M → Wf F H M → G.nx σ H) :
    ∃ W : Nat → Nat → L2.St → Hp → Prop, (∃ m, W 0 m σ H) ∧ ∀ i m σ H, W i m σ H →
      ((Itr lo n).stop i H ∧ G.nx σ H) ∨ ((Itr lo n).go i H ∧ ∃ N : L2.St → Hp → Prop, (∀ σ' H', N σ' H' → ∃ m', m' < m ∧ W (i + 1) m' σ' H') ∧ ∀ x H', (Itr lo n).yld i H x H' → g x σ H' fun σ2 H2 => tb { G with nx := N, ct := N, bk := G.nx } σ2 H2) :=
  for_range (fun i => LI (R i)) ⟨F, M, h0, w⟩ (fun i σ H hi ⟨F, M, hR, w⟩ => step i σ H F M hi hR w) fun σ H ⟨F, M, hR, w⟩ => fin σ H F M hR w
/-- while, by a measure of the slots -/
theorem n_while (w : Wf F H M) (R : L2.St → List (V × D) → List ME → Prop) (μ : L2.St → Nat) (h0 : R σ F M)
    (step : ∀ σ H F M, R σ F M → Wf F H M → c σ H fun b H1 => if b = true then ∃ N : L2.St → Hp → Prop, (∀ σ' H', N σ' H' → ∃ m', m' < μ σ ∧ m' = μ σ' ∧ LI R σ' H') ∧ tb { G with nx := N, ct := N, bk := G.nx } σ H1 else G.nx σ H1) : tWhile c tb G σ H :=
  s_while (LI R) μ ⟨F, M, h0, w⟩ fun σ H ⟨F, M, hR, w⟩ => step σ H F M hR w
theorem n_wN {R : L2.St → List (V × D) → List ME → Prop} {μ : L2.St → Nat} {m : Nat} {σ1 : L2.St} (h : tb { G with nx := fun σ' H' => LI R σ' H' ∧ μ σ' < m, ct := fun σ' H' => LI R σ' H' ∧ μ σ' < m, bk := G.nx } σ1 H) :
    ∃ N : L2.St → Hp → Prop, (∀ σ' H', N σ' H' → ∃ m', m' < m ∧ m' = μ σ' ∧ LI R σ' H') ∧ tb { G with nx := N, ct := N, bk := G.nx } σ1 H :=
  ⟨_, fun _ _ h => ⟨_, h.2, rfl, h.1⟩, h⟩
/-- comprehensions: what the i-th turn gives is told by P -/
theorem n_lc {J : It} {n : Nat} {Gd : Hp → Prop} {Y : Nat → Hp → V → Hp → Prop} {xs : List Nat} {k : Nat} (wk : Walk J n Gd Y) (w : Wf F H M) (hG : ∀ H' D acc, Wf F H' (.ml D acc :: M) → Gd H') (P : Nat → D → Prop) (hn : n ≤ 100000)
    (hw : ∀ v, wipe ((wipe σ xs).set k (some v)) xs = wipe σ xs)
    (step : ∀ i v D acc H0 H' C, i < n → Wf F H0 (.ml D acc :: M) → Y i H0 v H' → (∀ y d H4, Wf ((y, d) :: F) H4 (.ml D acc :: M) → P i d → C y H4) → te ((wipe σ xs).set k (some v)) H' C)
    (q : ∀ p ds H', ds.length = n → (∀ i d, ds[i]? = some d → P i d) → Wf F H' (.ml p ds :: M) → Q (.ref p) H') : LcGo J (gName k) tYes te xs σ Q H := by
  intro D nD
  have w0 : Wf F (upd H D (.lst [])) (.ml D [] :: M) := by
    obtain ⟨I, Mc, w, a, hF⟩ := w.ex
    exact ⟨I, _, w.newM nD, .cons (.ml .nil) a, hF⟩
  refine lc_it wk (fun i H' => ∃ acc, Wf F H' (.ml D acc :: M) ∧ acc.length = i ∧ ∀ j d, acc[j]? = some d → P j d) ⟨[], w0, rfl, fun j d h => by simp at h⟩ (fun i H' _ ⟨acc, w', _⟩ => hG H' D acc w') ?_ ?_
  · rintro i v H0 H' hi ⟨acc, w', hl, hp⟩ hy
    refine ⟨hw v, ?_⟩
    refine s_yes (iteT (step i v D acc H0 H' _ hi w' hy fun y d H4 w4 hd => ?_))
    obtain ⟨vs, h1, h2⟩ := w4.lstAt List.mem_cons_self
    have w5 : Wf F (upd H4 D (.lst (vs ++ [y]))) (.ml D (acc ++ [d]) :: M) := by
      obtain ⟨I, Mc, w, a, hF⟩ := w4.ex
      cases a with
      | cons h a =>
        cases h with
        | ml b =>
          have := w.at0
          rw [this] at h1
          cases h1
          exact ⟨I, _, w.put0, .cons (.ml (b.app (.one (hF _ List.mem_cons_self)))) a, fun f hf => hF f (List.mem_cons_of_mem _ hf)⟩
    refine ⟨vs, h1, by rw [h2, hl]; exact Nat.lt_of_lt_of_le hi (Nat.le_trans hn (by decide)), acc ++ [d], w5, by rw [List.length_append, hl]; rfl, fun j e h => ?_⟩
    by_cases hj : j < acc.length
    · rw [List.getElem?_append_left hj] at h
      exact hp j e h
    · rw [List.getElem?_append_right (by omega)] at h
      have h3 : j - acc.length = 0 := by
        cases hz : j - acc.length with
        | zero => rfl
        | succ m => rw [hz] at h; simp at h
      rw [h3] at h
      simp at h
      subst h
      have : j = i := by omega
      rw [this]
      exact hd
  · rintro H' ⟨acc, w', hl, hp⟩
    exact q D acc H' hl hp w'
/-- .. over a list -/
theorem n_lcL {xs : List Nat} {k : Nat} (w : Wf F H M) (h : Rk F M v (.lst ds)) (P : Nat → D → Prop) (hn : ds.length ≤ 100000)
    (hw : ∀ v, wipe ((wipe σ xs).set k (some v)) xs = wipe σ xs)
    (step : ∀ i x d D acc H0 C, ds[i]? = some d → Wf ((x, d) :: F) H0 (.ml D acc :: M) → (∀ y d H4, Wf ((y, d) :: F) H4 (.ml D acc :: M) → P i d → C y H4) → te ((wipe σ xs).set k (some x)) H0 C)
    (q : ∀ p es H', es.length = ds.length → (∀ i d, es[i]? = some d → P i d) → Wf F H' (.ml p es :: M) → Q (.ref p) H') :
    ∃ a, v = .ref a ∧ (∃ xs, SqL K H a xs) ∧ LcGo (Itl K a) (gName k) tYes te xs σ Q H := by
  have rk : ∀ D acc, Rk F (.ml D acc :: M) v (.lst ds) := fun D acc => by
    cases h with
    | mem h => exact .mem h
    | ml h => exact .ml (List.mem_cons_of_mem _ h)
  have e0 : ∃ a, v = .ref a ∧ ∃ xs, SqL K H a xs := by
    obtain ⟨I, Mc, w, a, hF⟩ := w.ex
    obtain ⟨p, vs, rfl, hp, b⟩ := h.lst w a hF
    exact ⟨p, rfl, vs, .inl (.inl hp)⟩
  obtain ⟨a, rfl, hx⟩ := e0
  refine ⟨a, rfl, hx, ?_⟩
  have wk : Walk (Itl K a) ds.length (fun H => ∃ D acc, Wf F H (.ml D acc :: M)) (fun i H x H' => H' = H ∧ ∀ xs, SqL K H a xs → xs[i]? = some x) := by
    refine ⟨fun i H hi ⟨D, acc, w⟩ => ?_, fun H ⟨D, acc, w⟩ => ?_, fun i H x H' hi _ y => y⟩
    · obtain ⟨I, Mc, w, ac, hF⟩ := w.ex
      obtain ⟨p, vs, e, hp, b⟩ := (rk D acc).lst w ac hF
      cases e
      have hl : i < vs.length := by rw [b.length]; exact hi
      exact ⟨vs, vs[i], .inl (.inl hp), List.getElem?_eq_getElem hl⟩
    · obtain ⟨I, Mc, w, ac, hF⟩ := w.ex
      obtain ⟨p, vs, e, hp, b⟩ := (rk D acc).lst w ac hF
      cases e
      exact ⟨vs, .inl (.inl hp), by rw [b.length]; exact Nat.le_refl _⟩
  refine n_lc wk w (fun H' D acc w' => ⟨D, acc, w'⟩) P hn hw (fun i x D acc H0 H' C hi w' y k => ?_) q
  obtain ⟨rfl, y⟩ := y
  obtain ⟨I, Mc, w1, ac, hF⟩ := w'.ex
  obtain ⟨p, vs, e, hp, b⟩ := (rk D acc).lst w1 ac hF
  cases e
  obtain ⟨d, e1, e2⟩ := b.of (y vs (.inl (.inl hp)))
  refine step i x d D acc _ C e1 ⟨I, Mc, w1, ac, fun f hf => ?_⟩ k
  rcases List.mem_cons.mp hf with rfl | hf
  · exact e2
  · exact hF f hf
theorem n_lcR {xs : List Nat} {k n : Nat} {lo : Int} (w : Wf F H M) (P : Nat → D → Prop) (hn : n ≤ 100000)
    (hw : ∀ v, wipe ((wipe σ xs).set k (some v)) xs = wipe σ xs)
    (step : ∀ i D acc H0 C, i < n → Wf F H0 (.ml D acc :: M) → (∀ y d H4, Wf ((y, d) :: F) H4 (.ml D acc :: M) → P i d → C y H4) → te ((wipe σ xs).set k (some (.int (lo + i)))) H0 C)
    (q : ∀ p es H', es.length = n → (∀ i d, es[i]? = some d → P i d) → Wf F H' (.ml p es :: M) → Q (.ref p) H') : LcGo (Itr lo n) (gName k) tYes te xs σ Q H :=
  n_lc walk_range w (fun _ _ _ _ => trivial) P hn hw (fun i x D acc H0 H' C hi w' y k => by
    obtain ⟨rfl, rfl⟩ := y
    exact step i D acc _ C hi w' k) q
end
end Fs

namespace Fs
open PySem PySem.Spec PyProof.Rows L2
section
variable {X : Cx} {pos : Pos}
theorem pe_globS {x : Str} {z : Str} (hg : Gl X x) (hm : ∃ t, X.mg x = some (.str z t)) (hd : (x == ("__debug__" : Str)) = false := by decide) : PE X (.Name x pos) (tC (.str z)) := by
  obtain ⟨t, e⟩ := hm
  exact pe_glob hg e ⟨t, rfl⟩ hd
end
section
variable {K : PySem.W.Frag} {σ : L2.St} {H : Hp} {F : List (V × D)} {M M' : List ME} {Q : VK} {G : Ends} {z : Str} {g : TG} {tb : TS} {tk tv : TE}
theorem n_forS (w : Wf F H M) (R : Nat → L2.St → List (V × D) → List ME → Prop) (h0 : R 0 σ F M)
    (step : ∀ i c σ H F M, z.cps.toList[i]? = some c → R i σ F M → Wf F H M → g (.str ⟨#[c]⟩) σ H fun σ2 H2 => tb { G with nx := LI (R (i + 1)), ct := LI (R (i + 1)), bk := G.nx } σ2 H2)
    (fin : ∀ σ H F M, R z.length σ F M → Wf F H M → G.nx σ H) :
    ∃ x, V.str z = .str x ∧ ∃ W : Nat → Nat → L2.St → Hp → Prop, (∃ m, W 0 m σ H) ∧ ∀ i m σ H, W i m σ H →
      ((Its x).stop i H ∧ G.nx σ H) ∨ ((Its x).go i H ∧ ∃ N : L2.St → Hp → Prop, (∀ σ' H', N σ' H' → ∃ m', m' < m ∧ W (i + 1) m' σ' H') ∧ ∀ v H', (Its x).yld i H v H' → g v σ H' fun σ2 H2 => tb { G with nx := N, ct := N, bk := G.nx } σ2 H2) :=
  s_forS (fun i => LI (R i)) ⟨F, M, h0, w⟩ (fun i c σ H hc ⟨F, M, hR, w⟩ => step i c σ H F M hc hR w) fun σ H ⟨F, M, hR, w⟩ => fin σ H F M hR w
/-- a comprehension over a text -/
theorem n_lcS {te : TE} {xs : List Nat} {k : Nat} (w : Wf F H M) (P : Nat → D → Prop) (hn : z.length ≤ 100000)
    (hw : ∀ v, wipe ((wipe σ xs).set k (some v)) xs = wipe σ xs)
    (step : ∀ i c D acc H0 C, z.cps.toList[i]? = some c → Wf F H0 (.ml D acc :: M) → (∀ y d H4, Wf ((y, d) :: F) H4 (.ml D acc :: M) → P i d → C y H4) → te ((wipe σ xs).set k (some (.str ⟨#[c]⟩))) H0 C)
    (q : ∀ p es H', es.length = z.length → (∀ i d, es[i]? = some d → P i d) → Wf F H' (.ml p es :: M) → Q (.ref p) H') :
    ∃ x, V.str z = .str x ∧ LcGo (Its x) (gName k) tYes te xs σ Q H := by
  refine ⟨z, rfl, n_lc walk_str w (fun _ _ _ _ => trivial) P hn hw (fun i x D acc H0 H' C hi w' y k => ?_) q⟩
  obtain ⟨rfl, c, e, rfl⟩ := y
  exact step i c D acc _ C (by rw [Array.getElem?_toList]; exact e) w' k
/-- a displayed dict of one pair -/
def DkQ (Q : VK) (p : Addr) (F : List (V × D)) (M : List ME) (x : V) (H : Hp) : Prop := ∀ H', Wf ((.ref p, .dict) :: F) H' M → Q (.ref p) H'
theorem n_disp1 (w : Wf F H M) (q : ∀ p H', Wf F H' (.raw p (.dK []) :: M) → tk σ H' fun x H1 => tv σ H1 fun y H2 => DispQ Q p x y H2) : tDisp [(tk, tv)] σ H Q := by
  obtain ⟨I, Mc, w, a, hF⟩ := w.ex
  exact s_disp1 w fun p H' _ w' => q p H' ⟨I, _, w', .cons (.raw fun _ e => nomatch e) a, hF⟩
theorem n_dispS {n : Str} {p : Addr} {y : V} (w : Wf F H (.raw p (.dK []) :: M)) (q : ∀ H', Wf ((.ref p, .dict) :: F) H' M → Q (.ref p) H') : DispQ Q p (.str n) y H := by
  obtain ⟨I, Mc, w, a, hF⟩ := w.ex
  cases a with
  | cons h a =>
    cases h
    exact s_dispS w fun J H' s w' h' => q H' ⟨J, _, w', a.mono s, fun f hf => by
      rcases List.mem_cons.mp hf with rfl | hf
      · exact h'
      · exact (hF f hf).mono s⟩
theorem n_dispI {n : Int} {p : Addr} {y : V} (w : Wf F H (.raw p (.dK []) :: M)) (q : ∀ H', Wf ((.ref p, .dict) :: F) H' M → Q (.ref p) H') : DispQ Q p (.int n) y H := by
  obtain ⟨I, Mc, w, a, hF⟩ := w.ex
  cases a with
  | cons h a =>
    cases h
    exact s_dispI w fun J H' s w' h' => q H' ⟨J, _, w', a.mono s, fun f hf => by
      rcases List.mem_cons.mp hf with rfl | hf
      · exact h'
      · exact (hF f hf).mono s⟩
/-- a joined list of signs -/
theorem n_join {p : Addr} {ds : List D} {a : Str} (w : Wf F H M) (h : Rk F M (.ref p) (.lst ds)) (hs : ∀ d ∈ ds, ∃ y : Str, d = .str y ∧ y.length ≤ 1) (hl : ds.length ≤ 1000) (ha : a.length ≤ 1) (q : ∀ z : Str, z.length ≤ 2 * ds.length → Q (.str z) H) : rJoin K (.str a) [.ref p] H Q := by
  obtain ⟨I, Mc, w, ac, hF⟩ := w.ex
  obtain ⟨p', vs, e, hp, b⟩ := h.lst w ac hF
  cases e
  have : ∃ ys : List Str, vs = ys.map V.str ∧ ys.length = ds.length ∧ (ys.map (·.length)).sum ≤ ds.length := by
    clear h hp w hl q
    revert vs
    induction ds with
    | nil => intro vs b; cases b; exact ⟨[], rfl, rfl, by simp⟩
    | cons d ds ih =>
      intro vs b
      cases b with
      | cons h1 b =>
        obtain ⟨y, rfl, hy⟩ := hs d List.mem_cons_self
        obtain ⟨ys, rfl, h3, h4⟩ := ih (fun d hd => hs d (List.mem_cons_of_mem _ hd)) _ b
        rw [h1.str_eq]
        exact ⟨y :: ys, rfl, by simp [h3], by simp only [List.map_cons, List.sum_cons, List.length_cons]; omega⟩
  obtain ⟨ys, rfl, h3, h4⟩ := this
  have h5 : ys.length * a.length ≤ ys.length * 1 := Nat.mul_le_mul_left _ ha
  have h6 := StrLaws.join_length_le a ys
  refine ⟨a, p, ys, rfl, rfl, .inl (.inl (.inl hp)), by omega, q _ ?_⟩
  unfold Txt.join
  rw [StrLaws.glued_eq_join]
  omega
end
end Fs

namespace Fs
open PySem PySem.Spec PyProof.Rows L2
/-! ### what is walked, in one form: the i-th item is known by f -/
structure Src (J : It) (n : Nat) (f : Nat → D) (OK : List (V × D) → List ME → Prop) : Prop where
  go : ∀ i H F M, i < n → OK F M → Wf F H M → J.go i H
  stop : ∀ H F M, OK F M → Wf F H M → J.stop n H
  yld : ∀ i H F M x H', i < n → OK F M → Wf F H M → J.yld i H x H' → Wf ((x, f i) :: F) H' M
section
variable {K : PySem.W.Frag} {σ : L2.St} {H : Hp} {F : List (V × D)} {M M' : List ME} {Q : VK} {G : Ends} {v u x y : V} {ds es : List D} {g : TG} {tb : TS} {te : TE} {tt : TT} {a b : Addr} {J : It} {n : Nat} {f : Nat → D} {OK : List (V × D) → List ME → Prop}
theorem Wf.lstE (w : Wf F H M) (h : Rk F M v (.lst ds)) : ∃ I Mc p vs, v = .ref p ∧ W I H Mc ∧ CnA I M Mc ∧ (∀ f ∈ F, Is I f.1 f.2) ∧ H p = some (.lst vs) ∧ IsA I vs ds := by
  obtain ⟨I, Mc, w, ac, hF⟩ := w.ex
  obtain ⟨p, vs, e, hp, b⟩ := h.lst w ac hF
  exact ⟨I, Mc, p, vs, e, w, ac, hF, hp, b⟩
theorem Wf.cons {I : Hp} {Mc : List (Addr × HO)} {v : V} {d : D} (w : W I H Mc) (ac : CnA I M Mc) (hF : ∀ f ∈ F, Is I f.1 f.2) (h : Is I v d) : Wf ((v, d) :: F) H M := ⟨I, Mc, w, ac, fun f hf => by
  rcases List.mem_cons.mp hf with rfl | hf
  · exact h
  · exact hF f hf⟩
theorem getD_of {i : Nat} {d : D} (h : ds[i]? = some d) : ds.getD i .non = d := by rw [List.getD_eq_getElem?_getD, h]; rfl
theorem src_list : Src (Itl K a) ds.length (fun i => ds.getD i .non) (fun F M => Rk F M (.ref a) (.lst ds)) where
  go := fun i H F M hi ok w => by
    obtain ⟨I, Mc, p, vs, e, w, ac, hF, hp, b⟩ := w.lstE ok
    cases e
    have hl : i < vs.length := by rw [b.length]; exact hi
    exact ⟨vs, vs[i], .inl (.inl hp), List.getElem?_eq_getElem hl⟩
  stop := fun H F M ok w => by
    obtain ⟨I, Mc, p, vs, e, w, ac, hF, hp, b⟩ := w.lstE ok
    cases e
    exact ⟨vs, .inl (.inl hp), by rw [b.length]; exact Nat.le_refl _⟩
  yld := fun i H F M x H' hi ok w y => by
    obtain ⟨I, Mc, p, vs, e, w, ac, hF, hp, b⟩ := w.lstE ok
    cases e
    obtain ⟨rfl, y⟩ := y
    obtain ⟨d, e1, e2⟩ := b.of (y vs (.inl (.inl hp)))
    rw [getD_of e1]
    exact .cons w ac hF e2
theorem src_range {lo : Int} : Src (Itr lo n) n (fun i => .int (lo + i)) (fun _ _ => True) where
  go := fun i H F M hi _ _ => hi
  stop := fun H F M _ _ => Nat.le_refl _
  yld := fun i H F M x H' hi _ w y => by
    obtain ⟨rfl, rfl⟩ := y
    exact w.add (.int _)
theorem Wf.newT {p : Addr} {xs : List V} (w : Wf F H M) (hp : H p = none) (h : ∀ I Mc, W I H Mc → CnA I M Mc → (∀ f ∈ F, Is I f.1 f.2) → IsA I xs ds) : Wf ((.ref p, .tup ds) :: F) (upd H p (.tup xs)) M := by
  obtain ⟨I, Mc, w, ac, hF⟩ := w.ex
  exact .cons (w.newI hp) (ac.mono (w.same hp)) (fun f hf => (hF f hf).mono (w.same hp)) (.tup upd_same ((h I Mc w ac hF).mono (w.same hp)))
theorem src_zip : Src (Itz K a b) (min ds.length es.length) (fun i => .tup [ds.getD i .non, es.getD i .non]) (fun F M => Rk F M (.ref a) (.lst ds) ∧ Rk F M (.ref b) (.lst es)) where
  go := fun i H F M hi ok w => by
    obtain ⟨I, Mc, w, ac, hF⟩ := w.ex
    obtain ⟨p, vs, e, hp, b1⟩ := ok.1.lst w ac hF
    cases e
    obtain ⟨p, us, e, hp2, b2⟩ := ok.2.lst w ac hF
    cases e
    have hl : i < vs.length := by rw [b1.length]; omega
    have hl2 : i < us.length := by rw [b2.length]; omega
    exact ⟨vs, us, vs[i], us[i], .inl (.inl hp), .inl (.inl hp2), List.getElem?_eq_getElem hl, List.getElem?_eq_getElem hl2⟩
  stop := fun H F M ok w => by
    obtain ⟨I, Mc, w, ac, hF⟩ := w.ex
    obtain ⟨p, vs, e, hp, b1⟩ := ok.1.lst w ac hF
    cases e
    obtain ⟨p, us, e, hp2, b2⟩ := ok.2.lst w ac hF
    cases e
    exact ⟨vs, us, .inl (.inl hp), .inl (.inl hp2), by rw [b1.length, b2.length]; omega⟩
  yld := fun i H F M x H' hi ok w y => by
    obtain ⟨T, x, y', rfl, hT, rfl, h1, h2⟩ := y
    refine w.newT hT fun I Mc w ac hF => ?_
    obtain ⟨p, vs, e, hp, b1⟩ := ok.1.lst w ac hF
    cases e
    obtain ⟨p, us, e, hp2, b2⟩ := ok.2.lst w ac hF
    cases e
    obtain ⟨d, e1, f1⟩ := b1.of (h1 vs (.inl (.inl hp)))
    obtain ⟨e', e2, f2⟩ := b2.of (h2 us (.inl (.inl hp2)))
    rw [getD_of e1, getD_of e2]
    exact .cons f1 (.cons f2 .nil)
theorem src_enum : Src (Ite K a) ds.length (fun i => .tup [.int (i : Nat), ds.getD i .non]) (fun F M => Rk F M (.ref a) (.lst ds)) where
  go := fun i H F M hi ok w => by
    obtain ⟨I, Mc, p, vs, e, w, ac, hF, hp, b⟩ := w.lstE ok
    cases e
    have hl : i < vs.length := by rw [b.length]; exact hi
    exact ⟨vs, vs[i], .inl (.inl hp), List.getElem?_eq_getElem hl⟩
  stop := fun H F M ok w => by
    obtain ⟨I, Mc, p, vs, e, w, ac, hF, hp, b⟩ := w.lstE ok
    cases e
    exact ⟨vs, .inl (.inl hp), by rw [b.length]; exact Nat.le_refl _⟩
  yld := fun i H F M x H' hi ok w y => by
    obtain ⟨T, x, rfl, hT, rfl, h1⟩ := y
    refine w.newT hT fun I Mc w ac hF => ?_
    obtain ⟨p, vs, e, hp, b1⟩ := ok.lst w ac hF
    cases e
    obtain ⟨d, e1, f1⟩ := b1.of (h1 vs (.inl (.inl hp)))
    rw [getD_of e1]
    exact .cons (.int _) (.cons f1 .nil)
/-- a for over such -/
theorem n_forJ (S : Src J n f OK) (w : Wf F H M) (R : Nat → L2.St → List (V × D) → List ME → Prop) (hv : ∀ i σ F M, R i σ F M → OK F M) (h0 : R 0 σ F M)
    (step : ∀ i x σ H F M, i < n → R i σ F M → Wf ((x, f i) :: F) H M → g x σ H fun σ2 H2 => tb { G with nx := LI (R (i + 1)), ct := LI (R (i + 1)), bk := G.nx } σ2 H2)
    (fin : ∀ σ H F M, R n σ F M → Wf F H M → G.nx σ H) :
    ∃ W : Nat → Nat → L2.St → Hp → Prop, (∃ m, W 0 m σ H) ∧ ∀ i m σ H, W i m σ H →
      (J.stop i H ∧ G.nx σ H) ∨ (J.go i H ∧ ∃ N : L2.St → Hp → Prop, (∀ σ' H', N σ' H' → ∃ m', m' < m ∧ W (i + 1) m' σ' H') ∧ ∀ x H', J.yld i H x H' → g x σ H' fun σ2 H2 => tb { G with nx := N, ct := N, bk := G.nx } σ2 H2) := by
  refine ⟨fun i m σ H => m = n - i ∧ i ≤ n ∧ LI (R i) σ H, ⟨n, rfl, Nat.zero_le _, F, M, h0, w⟩, ?_⟩
  rintro i m σ H ⟨rfl, hi, F, M, hR, w⟩
  by_cases hlt : i < n
  · exact .inr ⟨S.go i H F M hlt (hv _ _ _ _ hR) w, LI (R (i + 1)), fun σ' H' z => ⟨n - (i + 1), by omega, rfl, hlt, z⟩, fun x H' y => step i x σ H' F M hlt hR (S.yld i H F M x H' hlt (hv _ _ _ _ hR) w y)⟩
  · have e : i = n := by omega
    subst e
    exact .inl ⟨S.stop H F M (hv _ _ _ _ hR) w, fin σ H F M hR w⟩
theorem n_zip (w : Wf F H M) (R : Nat → L2.St → List (V × D) → List ME → Prop) (hv : ∀ i σ F M, R i σ F M → Rk F M v (.lst ds) ∧ Rk F M u (.lst es)) (h0 : R 0 σ F M)
    (step : ∀ i d e x σ H F M, ds[i]? = some d → es[i]? = some e → R i σ F M → Wf ((x, .tup [d, e]) :: F) H M → g x σ H fun σ2 H2 => tb { G with nx := LI (R (i + 1)), ct := LI (R (i + 1)), bk := G.nx } σ2 H2)
    (fin : ∀ σ H F M, R (min ds.length es.length) σ F M → Wf F H M → G.nx σ H) :
    ∃ a b xs ys, [v, u] = [V.ref a, .ref b] ∧ SqL K H a xs ∧ SqL K H b ys ∧ ∃ W : Nat → Nat → L2.St → Hp → Prop, (∃ m, W 0 m σ H) ∧ ∀ i m σ H, W i m σ H →
      ((Itz K a b).stop i H ∧ G.nx σ H) ∨ ((Itz K a b).go i H ∧ ∃ N : L2.St → Hp → Prop, (∀ σ' H', N σ' H' → ∃ m', m' < m ∧ W (i + 1) m' σ' H') ∧ ∀ x H', (Itz K a b).yld i H x H' → g x σ H' fun σ2 H2 => tb { G with nx := N, ct := N, bk := G.nx } σ2 H2) := by
  obtain ⟨I, Mc, w1, ac, hF⟩ := w.ex
  obtain ⟨p, vs, rfl, hp, b1⟩ := (hv _ _ _ _ h0).1.lst w1 ac hF
  obtain ⟨q, us, rfl, hq, b2⟩ := (hv _ _ _ _ h0).2.lst w1 ac hF
  refine ⟨p, q, vs, us, rfl, .inl (.inl hp), .inl (.inl hq), n_forJ src_zip w R hv h0 (fun i x σ H F M hi hR w => ?_) fin⟩
  have h1 : i < ds.length := by omega
  have h2 : i < es.length := by omega
  have e1 : ds[i]? = some ds[i] := List.getElem?_eq_getElem h1
  have e2 : es[i]? = some es[i] := List.getElem?_eq_getElem h2
  rw [getD_of e1, getD_of e2] at w
  exact step i _ _ x σ H F M e1 e2 hR w
theorem s_enum {σ : L2.St} {ta : TA} {R : It → Hp → Prop} (h : ta σ H fun vs H1 => ∃ a xs, vs = [.ref a] ∧ SqL K H1 a xs ∧ R (Ite K a) H1) : iEnum K ta σ H R := h
theorem n_enum (w : Wf F H M) (R : Nat → L2.St → List (V × D) → List ME → Prop) (hv : ∀ i σ F M, R i σ F M → Rk F M v (.lst ds)) (h0 : R 0 σ F M)
    (step : ∀ i d x σ H F M, ds[i]? = some d → R i σ F M → Wf ((x, .tup [.int (i : Nat), d]) :: F) H M → g x σ H fun σ2 H2 => tb { G with nx := LI (R (i + 1)), ct := LI (R (i + 1)), bk := G.nx } σ2 H2)
    (fin : ∀ σ H F M, R ds.length σ F M → Wf F H M → G.nx σ H) :
    ∃ a xs, [v] = [V.ref a] ∧ SqL K H a xs ∧ ∃ W : Nat → Nat → L2.St → Hp → Prop, (∃ m, W 0 m σ H) ∧ ∀ i m σ H, W i m σ H →
      ((Ite K a).stop i H ∧ G.nx σ H) ∨ ((Ite K a).go i H ∧ ∃ N : L2.St → Hp → Prop, (∀ σ' H', N σ' H' → ∃ m', m' < m ∧ W (i + 1) m' σ' H') ∧ ∀ x H', (Ite K a).yld i H x H' → g x σ H' fun σ2 H2 => tb { G with nx := N, ct := N, bk := G.nx } σ2 H2) := by
  obtain ⟨I, Mc, p, vs, rfl, w1, ac, hF, hp, b⟩ := w.lstE (hv _ _ _ _ h0)
  refine ⟨p, vs, rfl, .inl (.inl hp), n_forJ src_enum w R hv h0 (fun i x σ H F M hi hR w => ?_) fin⟩
  have e1 : ds[i]? = some ds[i] := List.getElem?_eq_getElem hi
  rw [getD_of e1] at w
  exact step i _ x σ H F M e1 hR w
/-- any comprehension: acc is what was kept so far -/
theorem n_lcJ {xs : List Nat} (S : Src J n f OK) (w : Wf F H M) (ok : OK F M) (okm : ∀ D acc, OK F M → OK F (.ml D acc :: M)) (R : Nat → List D → Prop) (h0 : R 0 []) (hn : n ≤ 100000)
    (step : ∀ i x D acc H0 (Ap : VK) (Sk : Hp → Prop), i < n → R i acc → Wf ((x, f i) :: F) H0 (.ml D acc :: M) → (∀ y d H4, Wf ((y, d) :: F) H4 (.ml D acc :: M) → R (i + 1) (acc ++ [d]) → Ap y H4) → (∀ H3, Wf F H3 (.ml D acc :: M) → R (i + 1) acc → Sk H3) →
      g x (wipe σ xs) H0 fun σ2 H2 => wipe σ2 xs = wipe σ xs ∧ tt σ2 H2 fun b H3 => if b = true then te σ2 H3 Ap else Sk H3)
    (q : ∀ p es H', R n es → Wf F H' (.ml p es :: M) → Q (.ref p) H') : LcGo J g tt te xs σ Q H := by
  intro D nD
  have w0 : Wf F (upd H D (.lst [])) (.ml D [] :: M) := by
    obtain ⟨I, Mc, w, a, hF⟩ := w.ex
    exact ⟨I, _, w.newM nD, .cons (.ml .nil) a, hF⟩
  refine ⟨fun i m H => m = n - i ∧ i ≤ n ∧ ∃ acc, R i acc ∧ acc.length ≤ i ∧ Wf F H (.ml D acc :: M), ⟨n, rfl, Nat.zero_le _, [], h0, Nat.le_refl _, w0⟩, ?_⟩
  rintro i m H ⟨rfl, hi, acc, hR, hl, w⟩
  by_cases hlt : i < n
  · refine .inr ⟨S.go i H _ _ hlt (okm _ _ ok) w, fun H' => ∃ acc, R (i + 1) acc ∧ acc.length ≤ i + 1 ∧ Wf F H' (.ml D acc :: M), fun H' ⟨acc', h1, h2, h3⟩ => ⟨n - (i + 1), by omega, rfl, hlt, acc', h1, h2, h3⟩, fun x H' y => ?_⟩
    refine step i x D acc H' _ _ hlt hR (S.yld i H _ _ x H' hlt (okm _ _ ok) w y) (fun y d H4 w4 r => ?_) fun H3 w3 r => ⟨acc, r, by omega, w3⟩
    obtain ⟨vs, h1, h2⟩ := w4.lstAt List.mem_cons_self
    have w5 : Wf F (upd H4 D (.lst (vs ++ [y]))) (.ml D (acc ++ [d]) :: M) := by
      obtain ⟨I, Mc, w, a, hF⟩ := w4.ex
      cases a with
      | cons h a =>
        cases h with
        | ml b =>
          have := w.at0
          rw [this] at h1
          cases h1
          exact ⟨I, _, w.put0, .cons (.ml (b.app (.one (hF _ List.mem_cons_self)))) a, fun f hf => hF f (List.mem_cons_of_mem _ hf)⟩
    exact ⟨vs, h1, by rw [h2]; exact Nat.lt_of_le_of_lt hl (Nat.lt_of_lt_of_le hlt (Nat.le_trans hn (by decide))), acc ++ [d], r, by rw [List.length_append]; exact Nat.add_le_add_right hl 1, w5⟩
  · have e : i = n := by omega
    subst e
    exact .inl ⟨S.stop H _ _ (okm _ _ ok) w, q D acc H hR w⟩
theorem Rk.more {e : ME} {d : D} (h : Rk F M v d) : Rk F (e :: M) v d := by
  cases h with
  | mem h => exact .mem h
  | int n => exact .int n
  | bl n => exact .bl n
  | str n => exact .str n
  | non => exact .non
  | ml h => exact .ml (List.mem_cons_of_mem _ h)
  | mi h => exact .mi (List.mem_cons_of_mem _ h)
theorem Rk.moreF {f : V × D} {d : D} (h : Rk F M v d) : Rk (f :: F) M v d := by
  cases h with
  | mem h => exact .mem (List.mem_cons_of_mem _ h)
  | int n => exact .int n
  | bl n => exact .bl n
  | str n => exact .str n
  | non => exact .non
  | ml h => exact .ml h
  | mi h => exact .mi h
/-- .. over a list -/
theorem n_lcG {xs : List Nat} (w : Wf F H M) (h : Rk F M v (.lst ds)) (R : Nat → List D → Prop) (h0 : R 0 []) (hn : ds.length ≤ 100000)
    (step : ∀ i d x D acc H0 (Ap : VK) (Sk : Hp → Prop), ds[i]? = some d → R i acc → Wf ((x, d) :: F) H0 (.ml D acc :: M) → (∀ y d H4, Wf ((y, d) :: F) H4 (.ml D acc :: M) → R (i + 1) (acc ++ [d]) → Ap y H4) → (∀ H3, Wf F H3 (.ml D acc :: M) → R (i + 1) acc → Sk H3) →
      g x (wipe σ xs) H0 fun σ2 H2 => wipe σ2 xs = wipe σ xs ∧ tt σ2 H2 fun b H3 => if b = true then te σ2 H3 Ap else Sk H3)
    (q : ∀ p es H', R ds.length es → Wf F H' (.ml p es :: M) → Q (.ref p) H') : ∃ a, v = .ref a ∧ (∃ xs, SqL K H a xs) ∧ LcGo (Itl K a) g tt te xs σ Q H := by
  obtain ⟨I, Mc, p, vs, rfl, w1, ac, hF, hp, b⟩ := w.lstE h
  refine ⟨p, rfl, ⟨vs, .inl (.inl hp)⟩, n_lcJ src_list w h (fun D acc h => h.more) R h0 hn (fun i x D acc H0 Ap Sk hi hR w k1 k2 => ?_) q⟩
  have e1 : ds[i]? = some ds[i] := List.getElem?_eq_getElem hi
  rw [getD_of e1] at w
  exact step i _ x D acc H0 Ap Sk e1 hR w k1 k2
theorem n_lcZ {xs : List Nat} (w : Wf F H M) (h : Rk F M v (.lst ds)) (h' : Rk F M u (.lst es)) (R : Nat → List D → Prop) (h0 : R 0 []) (hn : ds.length ≤ 100000)
    (step : ∀ i d e x D acc H0 (Ap : VK) (Sk : Hp → Prop), ds[i]? = some d → es[i]? = some e → R i acc → Wf ((x, .tup [d, e]) :: F) H0 (.ml D acc :: M) → (∀ y d H4, Wf ((y, d) :: F) H4 (.ml D acc :: M) → R (i + 1) (acc ++ [d]) → Ap y H4) → (∀ H3, Wf F H3 (.ml D acc :: M) → R (i + 1) acc → Sk H3) →
      g x (wipe σ xs) H0 fun σ2 H2 => wipe σ2 xs = wipe σ xs ∧ tt σ2 H2 fun b H3 => if b = true then te σ2 H3 Ap else Sk H3)
    (q : ∀ p es' H', R (min ds.length es.length) es' → Wf F H' (.ml p es' :: M) → Q (.ref p) H') : ∃ a b xs' ys, [v, u] = [V.ref a, .ref b] ∧ SqL K H a xs' ∧ SqL K H b ys ∧ LcGo (Itz K a b) g tt te xs σ Q H := by
  obtain ⟨I, Mc, w1, ac, hF⟩ := w.ex
  obtain ⟨p, vs, rfl, hp, b1⟩ := h.lst w1 ac hF
  obtain ⟨p', us, rfl, hq, b2⟩ := h'.lst w1 ac hF
  refine ⟨p, p', vs, us, rfl, .inl (.inl hp), .inl (.inl hq), n_lcJ src_zip w ⟨h, h'⟩ (fun D acc h => ⟨h.1.more, h.2.more⟩) R h0 (by omega) (fun i x D acc H0 Ap Sk hi hR w k1 k2 => ?_) q⟩
  have h1 : i < ds.length := by omega
  have h2 : i < es.length := by omega
  have e1 : ds[i]? = some ds[i] := List.getElem?_eq_getElem h1
  have e2 : es[i]? = some es[i] := List.getElem?_eq_getElem h2
  rw [getD_of e1, getD_of e2] at w
  exact step i _ _ x D acc H0 Ap Sk e1 e2 hR w k1 k2
theorem n_lcE {xs : List Nat} (w : Wf F H M) (h : Rk F M v (.lst ds)) (R : Nat → List D → Prop) (h0 : R 0 []) (hn : ds.length ≤ 100000)
    (step : ∀ i d x D acc H0 (Ap : VK) (Sk : Hp → Prop), ds[i]? = some d → R i acc → Wf ((x, .tup [.int (i : Nat), d]) :: F) H0 (.ml D acc :: M) → (∀ y d H4, Wf ((y, d) :: F) H4 (.ml D acc :: M) → R (i + 1) (acc ++ [d]) → Ap y H4) → (∀ H3, Wf F H3 (.ml D acc :: M) → R (i + 1) acc → Sk H3) →
      g x (wipe σ xs) H0 fun σ2 H2 => wipe σ2 xs = wipe σ xs ∧ tt σ2 H2 fun b H3 => if b = true then te σ2 H3 Ap else Sk H3)
    (q : ∀ p es H', R ds.length es → Wf F H' (.ml p es :: M) → Q (.ref p) H') : ∃ a xs', [v] = [V.ref a] ∧ SqL K H a xs' ∧ LcGo (Ite K a) g tt te xs σ Q H := by
  obtain ⟨I, Mc, p, vs, rfl, w1, ac, hF, hp, b⟩ := w.lstE h
  refine ⟨p, vs, rfl, .inl (.inl hp), n_lcJ src_enum w h (fun D acc h => h.more) R h0 hn (fun i x D acc H0 Ap Sk hi hR w k1 k2 => ?_) q⟩
  have e1 : ds[i]? = some ds[i] := List.getElem?_eq_getElem hi
  rw [getD_of e1] at w
  exact step i _ x D acc H0 Ap Sk e1 hR w k1 k2
theorem n_lcN {xs : List Nat} {lo : Int} (w : Wf F H M) (R : Nat → List D → Prop) (h0 : R 0 []) (hn : n ≤ 100000)
    (step : ∀ i D acc H0 (Ap : VK) (Sk : Hp → Prop), i < n → R i acc → Wf F H0 (.ml D acc :: M) → (∀ y d H4, Wf ((y, d) :: F) H4 (.ml D acc :: M) → R (i + 1) (acc ++ [d]) → Ap y H4) → (∀ H3, Wf F H3 (.ml D acc :: M) → R (i + 1) acc → Sk H3) →
      g (.int (lo + i)) (wipe σ xs) H0 fun σ2 H2 => wipe σ2 xs = wipe σ xs ∧ tt σ2 H2 fun b H3 => if b = true then te σ2 H3 Ap else Sk H3)
    (q : ∀ p es H', R n es → Wf F H' (.ml p es :: M) → Q (.ref p) H') : LcGo (Itr lo n) g tt te xs σ Q H :=
  n_lcJ src_range w trivial (fun _ _ _ => trivial) R h0 hn (fun i x D acc H0 Ap Sk hi hR w k1 k2 => by
    have w2 := w.eq0.2
    rw [w.eq0.1]
    exact step i D acc H0 Ap Sk hi hR w2 k1 k2) q
-- ints in lists
theorem Wf.ints {ns : List Int} (w : Wf F H M) (h : Rk F M v (.lst (ns.map D.int))) : ∃ p, v = .ref p ∧ H p = some (.lst (ns.map V.int)) := by
  obtain ⟨I, Mc, p, vs, rfl, w1, ac, hF, hp, b⟩ := w.lstE h
  exact ⟨p, rfl, by rw [hp, b.ints_eq]⟩
theorem n_min {ns : List Int} (w : Wf F H M) (h : Rk F M v (.lst (ns.map D.int))) (h0 : 0 < ns.length) (q : ∀ m, m ∈ ns → (∀ y ∈ ns, m ≤ y) → Q (.int m) H) : rMinU K [v] H Q := by
  obtain ⟨p, rfl, hp⟩ := w.ints h
  exact .inr ⟨p, ns, rfl, .inl (.inl hp), h0, q⟩
theorem n_max {ns : List Int} (w : Wf F H M) (h : Rk F M v (.lst (ns.map D.int))) (h0 : 0 < ns.length) (q : ∀ m, m ∈ ns → (∀ y ∈ ns, y ≤ m) → Q (.int m) H) : rMaxU K [v] H Q := by
  obtain ⟨p, rfl, hp⟩ := w.ints h
  exact .inr ⟨p, ns, rfl, .inl (.inl hp), h0, q⟩
theorem n_sum {ns : List Int} (w : Wf F H M) (h : Rk F M v (.lst (ns.map D.int))) (q : Q (.int ns.sum) H) : rSum K [v] H Q := by
  obtain ⟨p, rfl, hp⟩ := w.ints h
  exact ⟨p, ns, rfl, .inl (.inl hp), q⟩
theorem n_sorted {ns : List Int} (w : Wf F H M) (h : Rk F M v (.lst (ns.map D.int))) (q : ∀ (ms : List Int) p H', ms.Perm ns → ms.Pairwise (· ≤ ·) → Wf F H' (.ml p (ms.map D.int) :: M) → Q (.ref p) H') : rSortedI K [v] H Q := by
  obtain ⟨p, rfl, hp⟩ := w.ints h
  refine ⟨p, ns, rfl, .inl (.inl hp), fun ms p h1 h2 h3 => q ms p _ h1 h2 ?_⟩
  obtain ⟨I, Mc, w, a, hF⟩ := w.ex
  exact ⟨I, _, w.newM h3, .cons (.ml (IsA.ints ms)) a, hF⟩
theorem IsA.flat {I : Hp} {vs : List V} (a : IsA I vs ds) : ∀ n : Nat, IsA I (List.replicate n vs).flatten (List.replicate n ds).flatten
  | 0 => .nil
  | n + 1 => by
    rw [List.replicate_succ, List.replicate_succ, List.flatten_cons, List.flatten_cons]
    exact a.app (IsA.flat a n)
theorem flat_one {α : Type} (x : α) : ∀ n : Nat, (List.replicate n [x]).flatten = List.replicate n x
  | 0 => rfl
  | n + 1 => by rw [List.replicate_succ, List.flatten_cons, flat_one x n]; rfl
theorem n_rep {k : Int} (w : Wf F H M) (h : Rk F M v (.lst ds)) (h1 : -(2 ^ 63) ≤ k) (h2 : k < 2 ^ 63) (hz : ds.length * k.toNat ≤ 100000) (q : ∀ p H', Wf F H' (.ml p (List.replicate k.toNat ds).flatten :: M) → Q (.ref p) H') : rMulU v (.int k) H Q := by
  obtain ⟨I, Mc, p, vs, rfl, w1, ac, hF, hp, b⟩ := w.lstE h
  exact .inr ⟨p, k, vs, rfl, rfl, hp, h1, h2, by rw [b.length]; exact Nat.le_trans hz (by decide), fun l hl => q l _ ⟨I, _, w1.newM hl, .cons (.ml (b.flat _)) ac, hF⟩⟩
/-- [d] * k -/
theorem n_rep1 {k : Int} {d : D} (w : Wf F H M) (h : Rk F M v (.lst [d])) (h1 : 0 ≤ k) (h2 : k ≤ 100000) (q : ∀ p H', Wf F H' (.ml p (List.replicate k.toNat d) :: M) → Q (.ref p) H') : rMulU v (.int k) H Q :=
  n_rep w h (by omega) (by omega) (by rw [List.length_singleton]; omega) fun p H' w => q p H' (by rw [flat_one] at w; exact w)
def rTupOf (K : PySem.W.Frag) : List V → Hp → VK → Prop := fun xs H Q => ∃ p ys, xs = [.ref p] ∧ ((SqL K H p ys ∧ ∀ l, H l = none → Q (.ref l) (upd H l (.tup ys))) ∨ (SqT K H p ys ∧ Q (.ref p) H))
theorem k_tuple {X : Cx} (h : X.K = K) : CallR X (.type "tuple") (rTupOf K) := h ▸ call_tuple_of
theorem n_tupL (w : Wf F H M) (h : Rk F M v (.lst ds)) (q : ∀ p H', Wf ((.ref p, .tup ds) :: F) H' M → Q (.ref p) H') : rTupOf K [v] H Q := by
  obtain ⟨I, Mc, p, vs, rfl, w1, ac, hF, hp, b⟩ := w.lstE h
  exact ⟨p, vs, rfl, .inl ⟨.inl (.inl hp), fun l hl => q l _ (.cons (w1.newI hl) (ac.mono (w1.same hl)) (fun f hf => (hF f hf).mono (w1.same hl)) (.tup upd_same (b.mono (w1.same hl))))⟩⟩
-- dicts with tuples as keys
def keyD : Key → D
  | .inl i => .int i
  | .inr x => .str x
def getP {κ : Type} [DecidableEq κ] (kvs : List (κ × D)) (k : κ) : Option D := (kvs.find? fun kv => decide (kv.1 = k)).map (·.2)
def putP {κ : Type} [DecidableEq κ] (kvs : List (κ × D)) (k : κ) (d : D) : List (κ × D) :=
  if (kvs.any fun kv => decide (kv.1 = k)) = true then kvs.map (fun kv => if kv.1 = k then (kv.1, d) else kv) else kvs ++ [(k, d)]
theorem IsP.length {I : Hp} {κ : Type} : ∀ {vs : List (κ × V)} {ds : List (κ × D)}, IsP I vs ds → vs.length = ds.length
  | _, _, .nil => rfl
  | _, _, .cons _ a => by rw [List.length_cons, List.length_cons, a.length]
theorem IsP.app {I : Hp} {κ : Type} {us : List (κ × V)} {es : List (κ × D)} (b : IsP I us es) : ∀ {vs : List (κ × V)} {ds : List (κ × D)}, IsP I vs ds → IsP I (vs ++ us) (ds ++ es)
  | _, _, .nil => b
  | _, _, .cons h a => .cons h (IsP.app b a)
theorem IsP.get {I : Hp} {κ : Type} [DecidableEq κ] {k : κ} : ∀ {vs : List (κ × V)} {ds : List (κ × D)}, IsP I vs ds → (getP ds k = none ∧ valV vs k = none) ∨ ∃ v d, valV vs k = some v ∧ getP ds k = some d ∧ Is I v d
  | _, _, .nil => .inl ⟨rfl, rfl⟩
  | _, _, .cons (f := f) h a => by
    by_cases e : f = k
    · exact .inr ⟨_, _, by simp [valV, List.find?_cons, e], by simp [getP, List.find?_cons, e], h⟩
    · rcases IsP.get (k := k) a with ⟨h1, h2⟩ | ⟨v, d, h1, h2, h3⟩
      · exact .inl ⟨by simpa [getP, List.find?_cons, e] using h1, by simpa [valV, List.find?_cons, e] using h2⟩
      · exact .inr ⟨v, d, by simpa [valV, List.find?_cons, e] using h1, by simpa [getP, List.find?_cons, e] using h2, h3⟩
theorem IsP.any {I : Hp} {κ : Type} [DecidableEq κ] {k : κ} : ∀ {vs : List (κ × V)} {ds : List (κ × D)}, IsP I vs ds → (vs.any fun kv => decide (kv.1 = k)) = ds.any fun kv => decide (kv.1 = k)
  | _, _, .nil => rfl
  | _, _, .cons h a => by rw [List.any_cons, List.any_cons, IsP.any a]
theorem IsP.mapP {I : Hp} {κ : Type} [DecidableEq κ] {k : κ} {v : V} {d : D} (h : Is I v d) : ∀ {vs : List (κ × V)} {ds : List (κ × D)}, IsP I vs ds → IsP I (vs.map fun kv => if kv.1 = k then (kv.1, v) else kv) (ds.map fun kv => if kv.1 = k then (kv.1, d) else kv)
  | _, _, .nil => .nil
  | _, _, .cons (f := f) h' a => by
    rw [List.map_cons, List.map_cons]
    by_cases e : f = k
    · simp only [e, if_true]; exact .cons h (IsP.mapP h a)
    · simp only [e, if_false]; exact .cons h' (IsP.mapP h a)
theorem IsP.put {I : Hp} {κ : Type} [DecidableEq κ] {k : κ} {v : V} {d : D} (h : Is I v d) {vs : List (κ × V)} {ds : List (κ × D)} (a : IsP I vs ds) : IsP I (putK vs k v) (putP ds k d) := by
  unfold putK putP
  rw [a.any]
  split
  · exact a.mapP h
  · exact IsP.app (.cons h .nil) a
theorem isA_keys {I : Hp} : ∀ {k : List Key} {vs : List V}, IsA I vs (k.map keyD) → vs = k.map kV
  | [], _, h => by cases h; rfl
  | k :: r, _, h => by
    cases h with
    | cons h a =>
      rw [isA_keys a]
      cases k with
      | inl i => rw [h.int_eq]; rfl
      | inr i => rw [h.str_eq]; rfl
def DGetQ (Q : VK) (x y : V) (H : Hp) : Prop := ∃ a v, x = .ref a ∧ DGet H a y (some v) ∧ Q v H
def DInQ (P : Bool → Prop) (x y : V) (H : Hp) : Prop := ∃ a o, x = .ref a ∧ DGet H a y o ∧ P o.isSome
def DPutQ (P : Hp → Prop) (x y v : V) (H : Hp) : Prop := ∃ a H4, x = .ref a ∧ DPut H a y v H4 ∧ P H4
theorem s_dget {td ty : TE} (h : td σ H fun x H1 => ty σ H1 fun y H2 => DGetQ Q x y H2) : tDGet td ty σ H Q := h
theorem s_din {td ty : TE} (h : ty σ H fun y H1 => td σ H1 fun x H2 => DInQ (fun b => Q (.bl b) H2) x y H2) : tDIn ty td σ H Q := h
theorem s_dnotin {td ty : TE} (h : ty σ H fun y H1 => td σ H1 fun x H2 => DInQ (fun b => Q (.bl (!b)) H2) x y H2) : tDNotIn ty td σ H Q := h
theorem s_dput {td ty tv : TE} (h : tv σ H fun v H1 => td σ H1 fun x H2 => ty σ H2 fun y H3 => DPutQ (fun H4 => G.nx σ H4) x y v H3) : sDPut td ty tv G σ H := h
theorem s_dnewT (w : Wf F H M) (q : ∀ p H', Wf F H' (.dt p [] :: M) → Q (.ref p) H') : tDNewT σ H Q := fun p hp => by
  obtain ⟨I, Mc, w, a, hF⟩ := w.ex
  exact q p _ ⟨I, _, w.newM hp, .cons (.dt .nil) a, hF⟩
theorem s_dnewK (w : Wf F H M) (q : ∀ p H', Wf F H' (.dk p [] :: M) → Q (.ref p) H') : tDNewK σ H Q := fun p hp => by
  obtain ⟨I, Mc, w, a, hF⟩ := w.ex
  exact q p _ ⟨I, _, w.newM hp, .cons (.dk .nil) a, hF⟩
theorem Wf.keyT {k : List Key} (w : Wf F H M) (h : Rk F M y (.tup (k.map keyD))) : ∃ b, y = .ref b ∧ H b = some (.tup (k.map kV)) := by
  obtain ⟨I, Mc, w, a, hF⟩ := w.ex
  obtain ⟨p, vs, rfl, hp, b⟩ := h.tup w a hF
  exact ⟨p, rfl, by rw [hp, isA_keys b]⟩
theorem Wf.dtAt {p : Addr} {kvs : List (List Key × D)} (w : Wf F H M) (h : .dt p kvs ∈ M) : ∃ I Mc vs, W I H Mc ∧ CnA I M Mc ∧ (∀ f ∈ F, Is I f.1 f.2) ∧ H p = some (.dT vs) ∧ IsP I vs kvs := by
  obtain ⟨I, Mc, w, a, hF⟩ := w.ex
  obtain ⟨m, h1, h2⟩ := a.mem h
  cases h2 with
  | dt b => exact ⟨I, Mc, _, w, a, hF, (w.mu _ h1).1, b⟩
theorem n_dinT {P : Bool → Prop} {p : Addr} {kvs : List (List Key × D)} {k : List Key} (w : Wf F H M) (h : .dt p kvs ∈ M) (hy : Rk F M y (.tup (k.map keyD))) (q : P (getP kvs k).isSome) : DInQ P (.ref p) y H := by
  obtain ⟨b, rfl, hb⟩ := w.keyT hy
  obtain ⟨I, Mc, vs, w, a, hF, hp, ha⟩ := w.dtAt h
  refine ⟨p, _, rfl, DGet.t hp hb, ?_⟩
  rcases ha.get (k := k) with ⟨h1, h2⟩ | ⟨v, d, h1, h2, h3⟩
  · rw [h2]; rw [h1] at q; exact q
  · rw [h1]; rw [h2] at q; exact q
theorem n_dgetT {p : Addr} {kvs : List (List Key × D)} {k : List Key} {d : D} (w : Wf F H M) (h : .dt p kvs ∈ M) (hy : Rk F M y (.tup (k.map keyD))) (hd : getP kvs k = some d) (q : ∀ u, Wf ((u, d) :: F) H M → Q u H) : DGetQ Q (.ref p) y H := by
  obtain ⟨b, rfl, hb⟩ := w.keyT hy
  obtain ⟨I, Mc, vs, w, a, hF, hp, ha⟩ := w.dtAt h
  rcases ha.get (k := k) with ⟨h1, h2⟩ | ⟨v, d', h1, h2, h3⟩
  · rw [h1] at hd; cases hd
  · rw [h2] at hd; cases hd
    exact ⟨p, v, rfl, h1 ▸ DGet.t hp hb, q v (.cons w a hF h3)⟩
theorem n_dputT {P : Hp → Prop} {p : Addr} {kvs : List (List Key × D)} {k : List Key} {d : D} (w : Wf F H M) (f : Foc M (.dt p kvs) M' (.dt p (putP kvs k d))) (hy : Rk F M y (.tup (k.map keyD))) (hv : Kn F v d) (hl : kvs.length ≤ 100000) (q : ∀ H', Wf F H' M' → P H') : DPutQ P (.ref p) y v H := by
  obtain ⟨b, rfl, hb⟩ := w.keyT hy
  obtain ⟨I, Mc, w, a, hF⟩ := w.ex
  obtain ⟨M1, m, M2, rfl, h3, h4⟩ := a.foc f
  cases h3 with
  | dt ha => exact ⟨p, _, rfl, DPut.t w.at hb (by rw [ha.length]; exact Nat.lt_of_le_of_lt hl (by decide)), q _ ⟨I, _, w.put, h4 I _ (Same.refl _) (.dt (ha.put (hv.is hF))), hF⟩⟩
-- keys are ints and texts
theorem Wf.keyK {k : Key} (w : Wf F H M) (h : Rk F M y (keyD k)) : y = kV k := by
  have := w.rd h
  cases k with
  | inl i => exact this.int_eq
  | inr i => exact this.str_eq
theorem Wf.dkAt {p : Addr} {kvs : List (Key × D)} (w : Wf F H M) (h : .dk p kvs ∈ M) : ∃ I Mc vs, W I H Mc ∧ CnA I M Mc ∧ (∀ f ∈ F, Is I f.1 f.2) ∧ H p = some (.dK vs) ∧ IsP I vs kvs := by
  obtain ⟨I, Mc, w, a, hF⟩ := w.ex
  obtain ⟨m, h1, h2⟩ := a.mem h
  cases h2 with
  | dk b => exact ⟨I, Mc, _, w, a, hF, (w.mu _ h1).1, b⟩
theorem n_dinK {P : Bool → Prop} {p : Addr} {kvs : List (Key × D)} {k : Key} (w : Wf F H M) (h : .dk p kvs ∈ M) (hy : Rk F M y (keyD k)) (q : P (getP kvs k).isSome) : DInQ P (.ref p) y H := by
  cases w.keyK hy
  obtain ⟨I, Mc, vs, w, a, hF, hp, ha⟩ := w.dkAt h
  refine ⟨p, _, rfl, DGet.k hp, ?_⟩
  rcases ha.get (k := k) with ⟨h1, h2⟩ | ⟨v, d, h1, h2, h3⟩
  · rw [h2]; rw [h1] at q; exact q
  · rw [h1]; rw [h2] at q; exact q
theorem n_dgetK {p : Addr} {kvs : List (Key × D)} {k : Key} {d : D} (w : Wf F H M) (h : .dk p kvs ∈ M) (hy : Rk F M y (keyD k)) (hd : getP kvs k = some d) (q : ∀ u, Wf ((u, d) :: F) H M → Q u H) : DGetQ Q (.ref p) y H := by
  cases w.keyK hy
  obtain ⟨I, Mc, vs, w, a, hF, hp, ha⟩ := w.dkAt h
  rcases ha.get (k := k) with ⟨h1, h2⟩ | ⟨v, d', h1, h2, h3⟩
  · rw [h1] at hd; cases hd
  · rw [h2] at hd; cases hd
    exact ⟨p, v, rfl, h1 ▸ DGet.k hp, q v (.cons w a hF h3)⟩
theorem n_dputK {P : Hp → Prop} {p : Addr} {kvs : List (Key × D)} {k : Key} {d : D} (w : Wf F H M) (f : Foc M (.dk p kvs) M' (.dk p (putP kvs k d))) (hy : Rk F M y (keyD k)) (hv : Kn F v d) (hl : kvs.length ≤ 100000) (q : ∀ H', Wf F H' M' → P H') : DPutQ P (.ref p) y v H := by
  cases w.keyK hy
  obtain ⟨I, Mc, w, a, hF⟩ := w.ex
  obtain ⟨M1, m, M2, rfl, h3, h4⟩ := a.foc f
  cases h3 with
  | dk ha => exact ⟨p, _, rfl, DPut.k w.at (by rw [ha.length]; exact Nat.lt_of_le_of_lt hl (by decide)), q _ ⟨I, _, w.put, h4 I _ (Same.refl _) (.dk (ha.put (hv.is hF))), hF⟩⟩
end
theorem hu1 {n : Nat} (h : n + 64 < cLine) : n + 1 < cLine := by omega
theorem k_sorted {X : Cx} {K : PySem.W.Frag} (h : X.K = K) : CallR X (.builtin "sorted") (rSortedI K) := h ▸ cr_sortedI
theorem ps_augLS {X : Cx} {pos : Pos} {o i e : Expr} {to ti te : TE} {tpos : Pos} (ho : PE X o to) (hi : PE X i ti) (he : PE X e te)
    (ha : ∀ ov iv new, augStore i ov iv new = (do holding [new, ov, iv] (setItem ov iv new); release [new, ov, iv] []; pure .next) := by intros; rfl) : PS X (.AugAssign (.Subscript o i tpos) .Sub e pos) (tAugS to ti te (rIxL X.K) (ipI fun i j => i - j) rSetL) :=
  ps_augS ho hi get_list he ip_sub set_list ha
section
variable {K : PySem.W.Frag} {σ : L2.St} {H : Hp} {F : List (V × D)} {M M' : List ME} {Q : VK} {G : Ends} {v u x y : V} {ds es : List D} {tb : TS} {c : TT} {i : Int}
/-- while, by any measure -/
theorem n_whileG (w : Wf F H M) (R : Nat → L2.St → List (V × D) → List ME → Prop) (m : Nat) (h0 : R m σ F M)
    (step : ∀ m σ H F M, R m σ F M → Wf F H M → c σ H fun b H1 => if b = true then ∃ N : L2.St → Hp → Prop, (∀ σ' H', N σ' H' → ∃ m', m' < m ∧ LI (R m') σ' H') ∧ tb { G with nx := N, ct := N, bk := G.nx } σ H1 else G.nx σ H1) : tWhile c tb G σ H :=
  ⟨fun m σ H => LI (R m) σ H, ⟨m, F, M, h0, w⟩, fun m σ H ⟨F, M, hR, w⟩ => step m σ H F M hR w⟩
theorem n_wG {R : Nat → L2.St → List (V × D) → List ME → Prop} {m : Nat} {σ1 : L2.St} (h : tb { G with nx := fun σ' H' => ∃ m', m' < m ∧ LI (R m') σ' H', ct := fun σ' H' => ∃ m', m' < m ∧ LI (R m') σ' H', bk := G.nx } σ1 H) :
    ∃ N : L2.St → Hp → Prop, (∀ σ' H', N σ' H' → ∃ m', m' < m ∧ LI (R m') σ' H') ∧ tb { G with nx := N, ct := N, bk := G.nx } σ1 H := ⟨_, fun _ _ h => h, h⟩
theorem n_ixN {ns : List Int} {j : Nat} (w : Wf F H M) (h : Rk F M v (.lst (ns.map D.int))) (hi : i = (j : Int)) (hj : j < ns.length) (q : Q (.int (ns.getD j 0)) H) : rIx K v (.int i) H Q := by
  subst hi
  refine n_ixInts w h (by omega) (by omega) fun n hn => ?_
  rw [Int.toNat_natCast] at hn
  rw [List.getD_eq_getElem?_getD, hn] at q
  exact q
/-- an item of a list made from another one -/
theorem n_ixM {α : Type} {f : α → D} {l : List α} {z : α} {j : Nat} (w : Wf F H M) (h : Rk F M v (.lst (l.map f))) (hi : i = (j : Int)) (hj : j < l.length) (q : ∀ u, Wf ((u, f (l.getD j z)) :: F) H M → Q u H) : rIx K v (.int i) H Q := by
  subst hi
  refine n_ixAny w h (by omega) (by rw [List.length_map]; omega) fun d u hd w => ?_
  rw [Int.toNat_natCast, List.getElem?_map, List.getElem?_eq_getElem hj] at hd
  cases hd
  have e : l.getD j z = l[j] := by rw [List.getD_eq_getElem?_getD, List.getElem?_eq_getElem hj]; rfl
  rw [← e] at w
  exact q u w
theorem ixN_of {n j : Nat} (h : j < n) : ixN n (j : Int) = some j := by
  have := atI_nat (xs := List.range n) (List.getElem?_range h)
  unfold atI at this
  rw [List.length_range] at this
  cases e : ixN n (j : Int) with
  | none => rw [e] at this; cases this
  | some k =>
    rw [e] at this
    have h2 : (List.range n)[k]? = some j := this
    by_cases hk : k < n
    · rw [List.getElem?_range hk] at h2; exact h2
    · rw [List.getElem?_eq_none (by rw [List.length_range]; omega)] at h2; cases h2
theorem atI_head {α : Type} {x : α} {l : List α} : atI (x :: l) 0 = some x := atI_nat (j := 0) rfl
theorem map_get {α β : Type} {f : α → β} {l : List α} {i : Nat} {d : β} (h : (l.map f)[i]? = some d) : ∃ x, l[i]? = some x ∧ d = f x := by
  rw [List.getElem?_map] at h
  cases e : l[i]? with
  | none => rw [e] at h; cases h
  | some x => rw [e] at h; exact ⟨x, rfl, (Option.some.inj h).symm⟩
theorem Wf.non0 (w : Wf ((v, .non) :: F) H M) : v = .non ∧ Wf F H M := ⟨(w.rd (.mem List.mem_cons_self) : Is H v .non).non_eq, w.tail⟩
theorem Wf.bl0 {b : Bool} (w : Wf ((v, .bl b) :: F) H M) : v = .bl b ∧ Wf F H M := ⟨(w.rd (.mem List.mem_cons_self) : Is H v (.bl b)).bl_eq, w.tail⟩
theorem Wf.str0 {b : Str} (w : Wf ((v, .str b) :: F) H M) : v = .str b ∧ Wf F H M := ⟨(w.rd (.mem List.mem_cons_self) : Is H v (.str b)).str_eq, w.tail⟩
theorem Wf.ref0 {b : Addr} (w : Wf ((v, .ref b) :: F) H M) : v = .ref b ∧ Wf F H M := ⟨(w.rd (.mem List.mem_cons_self) : Is H v (.ref b)).ref_eq, w.tail⟩
theorem Wf.tup0 (w : Wf ((v, .tup ds) :: F) H M) : ∃ p, v = .ref p := by
  obtain ⟨p, _, e, _⟩ := (w.rd (.mem List.mem_cons_self) : Is H v (.tup ds)).tup_ex
  exact ⟨p, e⟩
theorem Wf.lst0 (w : Wf ((v, .lst ds) :: F) H M) : ∃ p, v = .ref p := by
  obtain ⟨p, _, e, _⟩ := (w.rd (.mem List.mem_cons_self) : Is H v (.lst ds)).lst_ex
  exact ⟨p, e⟩
theorem n_gtup4i {gs : TGs} {T : L2.St → Hp → Prop} {a b c : Int} {d3 : D} (w : Wf F H M) (h : Rk F M v (.tup [.int a, .int b, .int c, d3])) (q : ∀ u, Wf ((u, d3) :: F) H M → gs [.int a, .int b, .int c, u] σ H T) : gTup K 4 gs v σ H T :=
  n_gtup4 w h fun x y z u w => by
    rw [w.eq0.1, w.eq0.2.eq0.1, w.eq0.2.eq0.2.eq0.1]
    exact q u w.eq0.2.eq0.2.eq0.2
theorem take_flat {α β : Type} {f : α → List β} {l : List α} {i : Nat} {x : α} (h : l[i]? = some x) : (l.take (i + 1)).flatMap f = (l.take i).flatMap f ++ f x := by
  rw [List.take_add_one, h, List.flatMap_append]
  simp
theorem take_snoc {α : Type} {l : List α} {i : Nat} {x : α} (h : l[i]? = some x) : l.take (i + 1) = l.take i ++ [x] := by
  rw [List.take_add_one, h]
  rfl
end
def oD : Option Int → D
  | none => .non
  | some k => .int k
def oV : Option Int → V
  | none => .non
  | some k => .int k
theorem Kn.oV {F : List (V × D)} (m : Option Int) : Kn F (oV m) (oD m) := by
  cases m with
  | none => exact .non
  | some k => exact .int k
/-- [e for x in xs], e told by f -/
theorem n_lcMap {α : Type} {K : PySem.W.Frag} {σ : L2.St} {H : Hp} {F : List (V × D)} {M : List ME} {Q : VK} {v : V} {te : TE} {xs : List Nat} {k : Nat} {g f : α → D} {l : List α} (w : Wf F H M) (h : Rk F M v (.lst (l.map g))) (hn : l.length ≤ 100000)
    (hw : ∀ v, wipe ((wipe σ xs).set k (some v)) xs = wipe σ xs)
    (step : ∀ x y D acc H0 C, x ∈ l → Wf ((y, g x) :: F) H0 (.ml D acc :: M) → (∀ z H4, Wf ((z, f x) :: F) H4 (.ml D acc :: M) → C z H4) → te ((wipe σ xs).set k (some y)) H0 C)
    (q : ∀ p H', Wf F H' (.ml p (l.map f) :: M) → Q (.ref p) H') :
    ∃ a, v = .ref a ∧ (∃ xs, SqL K H a xs) ∧ LcGo (Itl K a) (gName k) tYes te xs σ Q H := by
  refine n_lcL w h (fun i d => ∃ x, l[i]? = some x ∧ d = f x) (by rw [List.length_map]; exact hn) hw (fun i y d D acc H0 C hd w kc => ?_) fun p es H' hl hP w => ?_
  · obtain ⟨x, hx, rfl⟩ := map_get hd
    exact step x y D acc H0 C (List.mem_of_getElem? hx) w fun z H4 w4 => kc z _ H4 w4 ⟨x, hx, rfl⟩
  · have e : es = l.map f := by
      rw [List.length_map] at hl
      apply List.ext_getElem (by rw [List.length_map]; exact hl)
      intro i h1 h2
      obtain ⟨x, hx, e⟩ := hP i _ (List.getElem?_eq_getElem h1)
      rw [List.getElem_map, e]
      have h3 : i < l.length := by omega
      rw [List.getElem?_eq_getElem h3] at hx
      cases hx
      rfl
    rw [e] at w
    exact q p H' w
theorem n_lcMapI {α : Type} {K : PySem.W.Frag} {σ : L2.St} {H : Hp} {F : List (V × D)} {M : List ME} {Q : VK} {v : V} {te : TE} {xs : List Nat} {k : Nat} {g : α → D} {f : α → Int} {l : List α} (w : Wf F H M) (h : Rk F M v (.lst (l.map g))) (hn : l.length ≤ 100000)
    (hw : ∀ v, wipe ((wipe σ xs).set k (some v)) xs = wipe σ xs)
    (step : ∀ x y D acc H0 C, x ∈ l → Wf ((y, g x) :: F) H0 (.ml D acc :: M) → (∀ H4, Wf F H4 (.ml D acc :: M) → C (.int (f x)) H4) → te ((wipe σ xs).set k (some y)) H0 C)
    (q : ∀ p H', Wf F H' (.ml p ((l.map f).map D.int) :: M) → Q (.ref p) H') :
    ∃ a, v = .ref a ∧ (∃ xs, SqL K H a xs) ∧ LcGo (Itl K a) (gName k) tYes te xs σ Q H :=
  n_lcMap (f := fun x => .int (f x)) w h hn hw (fun x y D acc H0 C hx w kc => step x y D acc H0 C hx w fun H4 w4 => kc _ H4 (w4.add (.int _))) fun p H' w => q p H' (by rw [List.map_map]; exact w)
theorem n_gtup5 {K : PySem.W.Frag} {σ : L2.St} {H : Hp} {F : List (V × D)} {M : List ME} {v : V} {gs : TGs} {T : L2.St → Hp → Prop} {d0 d1 d2 d3 d4 : D} (w : Wf F H M) (h : Rk F M v (.tup [d0, d1, d2, d3, d4])) (q : ∀ x y z u t, Wf ((x, d0) :: (y, d1) :: (z, d2) :: (u, d3) :: (t, d4) :: F) H M → gs [x, y, z, u, t] σ H T) : gTup K 5 gs v σ H T :=
  n_gtup w h rfl fun I Mc xs w a hF b => by
    cases b with | cons h0 b =>
    cases b with | cons h1 b =>
    cases b with | cons h2 b =>
    cases b with | cons h3 b =>
    cases b with | cons h4 b =>
    cases b
    refine q _ _ _ _ _ ⟨I, Mc, w, a, fun f hf => ?_⟩
    rcases List.mem_cons.mp hf with rfl | hf
    · exact h0
    rcases List.mem_cons.mp hf with rfl | hf
    · exact h1
    rcases List.mem_cons.mp hf with rfl | hf
    · exact h2
    rcases List.mem_cons.mp hf with rfl | hf
    · exact h3
    rcases List.mem_cons.mp hf with rfl | hf
    · exact h4
    · exact hF f hf
/-- a row of a part: four ints and a greatest -/
theorem n_gtupRow {K : PySem.W.Frag} {σ : L2.St} {H : Hp} {F : List (V × D)} {M : List ME} {v : V} {gs : TGs} {T : L2.St → Hp → Prop} {b l w s : Int} {g : D} (ww : Wf F H M) (h : Rk F M v (.tup [.int b, .int l, g, .int w, .int s])) (q : ∀ u, Wf ((u, g) :: F) H M → gs [.int b, .int l, u, .int w, .int s] σ H T) : gTup K 5 gs v σ H T :=
  n_gtup5 ww h fun x y z u t w2 => by
    rw [w2.int_eq (v := x) (n := b) (.mem (by simp)), w2.int_eq (v := y) (n := l) (.mem (by simp)), w2.int_eq (v := u) (n := w) (.mem (by simp)), w2.int_eq (v := t) (n := s) (.mem (by simp))]
    exact q z (w2.sub (KS.cons (.mem (by simp)) (KS.drop (KS.drop (KS.drop (KS.drop (KS.drop KS.refl)))))) (.refl _))
end Fs

namespace Fs
open PySem PySem.Spec PyProof.Rows L2
/-! ### defs that may raise -/
structure CalX (P : Program) (w : World) (K : PySem.W.Frag) (mg : Str → Option Value) (base : Heap) (x : Str) (k : Nat) (ps : List Str) (dvs : List V) (sp : Sp) : Prop where
  ex : ∃ (f : Addr) (fd : FuncData) (ds : List Value), FnOk P w K mg base (L2.CX P w) k f fd ps sp ∧ mg x = some (.ref f) ∧ PySem.W.keepIn K (.ref f) = true ∧ Binds K fd ps ds ∧ Vals dvs ds
section
variable {X : Cx} {x : Str} {p pos : Pos} {e : Expr} {es : List Expr} {t : TA} {k : Nat} {ps : List Str} {dvs : List V} {sp : Sp} {W : WX}
theorem pe_calX (c : CalX X.prog X.w X.K X.mg X.base x k ps [] sp) (hr : Room k X.A) (hg : Gl X x) (tk : Takes X W) (ha : PA X (e :: es) t) (hdb : (x == ("__debug__" : Str)) = false := by decide)
    (he : starEach (e :: es) X.env = (false, eval e X.env) :: starEach es X.env := by rfl) (hpl : (backTo pos (starEach es X.env)).any (·.1) = false := by rfl) : PE X (.Call (.Name x p) (e :: es) [] pos) (tCallS sp (WE W) t) := by
  obtain ⟨f, fd, ds, F, hm, hk, hb, hd⟩ := c.ex
  cases hd
  exact pe_callS F hr hg hm hk hb (fun σ => passAt tk σ) ha hdb he hpl
end
section
variable {P : Program} {w : World} {K : PySem.W.Frag} {mg : Str → Option Value} {base : Heap}
theorem _root_.L2.FunD.okX {x qual : Str} {st : Stmt} {dvs : List V} {f : Addr} {fd : FuncData} {N ps : List Str} {k : Nat} {sp : Sp} (F : FunD K x qual (defArgs st) (defBody st) (defScope st) dvs [] f fd) (S : FnScope N ps (defScope st)) (len : ∀ vs H Q E, sp vs H Q E → vs.length = ps.length)
    (hbody : ∀ (cdv : Value) (A : Around) (outer : List Env) (s : Shared) (H : Hp) (vs : List V) (Q : VK) (E : XK), Room k (A.deeper (envOfC qual (defScope st) s.heap.objs.size f cdv)) → sp vs H Q E →
      ∃ t, PSs (cxOf (L2.CX P w) P w K mg base N qual (defScope st) f cdv A outer s H E) (defBody st) t ∧ t { nx := fun _ H' => Q .non H', rt := Q } (start N vs) H) : FnOk P w K mg base (L2.CX P w) (k + 1) f fd ps sp :=
  F.ok S len fun cdv A outer s H vs Q E hr h => hbody cdv A outer s H vs Q E hr h
end
/-- a def that is called with keywords -/
structure CalK (P : Program) (w : World) (K : PySem.W.Frag) (mg : Str → Option Value) (base : Heap) (x : Str) (k : Nat) (ps : List Str) (n : Nat) (ks : List Str) (gV : List V → List V → List V) (sp : Sp) : Prop where
  ex : ∃ (f : Addr) (fd : FuncData) (g : List Value → List Value → List Value), FnOk P w K mg base CX0 k f fd ps sp ∧ mg x = some (.ref f) ∧ PySem.W.keepIn K (.ref f) = true ∧ KBn K fd ps n ks g gV
section
variable {X : Cx} {x : Str} {p pos : Pos} {e : Expr} {es : List Expr} {kws : List Keyword} {t tk : TA} {k n : Nat} {ps ks : List Str} {gV : List V → List V → List V} {sp : Sp}
theorem pe_calK (c : CalK X.prog X.w X.K X.mg X.base x k ps n ks gV sp) (hr : Room k X.A) (hg : Gl X x) (ha : PA X (e :: es) t) (hkw : PK X kws tk)
    (hall : (backToKw pos (keywordEach kws X.env)).all (·.1.isSome) = true := by rfl) (hks : (backToKw pos (keywordEach kws X.env)).filterMap (·.1) = ks := by rfl) (hdb : (x == ("__debug__" : Str)) = false := by decide)
    (he : starEach (e :: es) X.env = (false, eval e X.env) :: starEach es X.env := by rfl) (hpl : ((backTo pos (starEach (e :: es) X.env)).any (·.1) || (backToKw pos (keywordEach kws X.env)).any (·.1.isNone)) = false := by rfl) :
    PE X (.Call (.Name x p) (e :: es) kws pos) (tCallN n ks.length sp gV E0 t tk) := by
  obtain ⟨f, fd, g, F, hm, hk, hb⟩ := c.ex
  exact pe_callN F hr hg hm hk hb pass0 ha hkw hall hks hdb he hpl
end
theorem s_callN {sp : Sp} {n m : Nat} {gV : List V → List V → List V} {E : XK} {tA tK : TA} {σ : L2.St} {H : Hp} {Q : VK} (h : tA σ H fun vs H1 => tK σ H1 fun zs H2 => vs.length = n ∧ zs.length = m ∧ sp (gV vs zs) H2 Q E) : tCallN n m sp gV E tA tK σ H Q := h
theorem s_callS {sp : Sp} {E : L2.St → XK} {t : TA} {σ : L2.St} {H : Hp} {Q : VK} (h : t σ H fun vs H1 => sp vs H1 Q (E σ)) : tCallS sp E t σ H Q := h
/-- an exception of the class C comes to 'except x as n' -/
theorem s_caught {K : PySem.W.Frag} {cls c : Value} {i : Nat} {ts : Addr → Value → Option Addr → TS} {D : Ends} {d : Option Addr} {σ : L2.St} {H : Hp} (e : PySem.W.exmOne K cls c = some true)
    (h : ∀ a, H a = none → ts a cls d { nx := fun σ' H' => D.nx (σ'.set i none) H', rt := D.rt, bk := fun σ' H' => D.bk (σ'.set i none) H', ct := fun σ' H' => D.ct (σ'.set i none) H' } (σ.set i (some (.ref a))) H) :
    WE (wAs K c i ts (fun _ _ _ _ => False) D) σ cls d H := ⟨true, e, fun _ a ha => h a ha, fun q => nomatch q⟩
/-! ### own error classes -/
/-- an own error class that is raised with a text -/
structure ErrC (K : PySem.W.Frag) (mg : Str → Option Value) (x : Str) (C : Addr) : Prop where
  g : mg x = some (.ref C)
  q : PySem.W.excIn K C HandSPX.veTail "ValueError.__new__" = true
  kp : PySem.W.keepIn K (.ref C) = true
  ex : PySem.W.subIn K (.ref C) (.type "BaseException") = some true
  ty : PySem.W.typeIn K (.ref C) = some (.type "type")
theorem ps_raiseC {X : Cx} {W : WX} {x m : Str} {C : Addr} {j : Nat} {p p2 pos pos2 : Pos} (c : ErrC X.K X.mg x C) (hc : X.calm = true) (tk : Takes X W) (hg : Gl X x) (hdb : (x == ("__debug__" : Str)) = false := by decide) :
    PS X (.Raise (some (.Call (.Name x p) [.Constant (.str m) j p2] [] pos)) none pos2) (fun _ σ H => W (.ref C) none σ H) :=
  ps_raise hc tk (pmk_own PySem.F.excBase_ValueError c.q c.g c.kp (raises_own c.ex c.ty) hg hdb)
section
variable {X : Cx} {C : Addr} {bmB : List Value} {B newId initId : String}
theorem pmk_own0 {x : Str} {p pos : Pos} (F : ExcBaseFacts B newId initId bmB) (q : PySem.W.excIn X.K C bmB newId = true) (gC : X.mg x = some (.ref C)) (kC : PySem.W.keepIn X.K (.ref C) = true) (r : Raises X (.ref C)) (hg : Gl X x)
    (hdb : (x == ("__debug__" : Str)) = false := by decide) : PMk X (.Call (.Name x p) [] [] pos) (fun _ H Q => Q (.ref C) none H) := by
  intro pins s σ H Q I h
  refine wpAny_Call_Name_kw (ld_glob I hg gC ?_ hdb)
  refine PySem.W.callWith_K0 I.kIn kC ?_
  show wpAny _ _ (call (.ref C) []) _ _ _
  obtain ⟨bm, N, nm, qn, bs, hdct, sn, sub, ab, col, dd, k0, k1, k2, k3, k5, mN, hC, hN, hni, T⟩ := exc_obj I.kIn q
  refine wpAny_call_exc_subT F T hC hN hni (fun h' e hm => ?_) (by show 0 ≤ sizeLine; omega)
  exact mk_of I hm r h (I.hok.gone hm.new)
theorem ps_raiseC0 {W : WX} {x : Str} {p pos pos2 : Pos} (c : ErrC X.K X.mg x C) (hc : X.calm = true) (tk : Takes X W) (hg : Gl X x) (hdb : (x == ("__debug__" : Str)) = false := by decide) :
    PS X (.Raise (some (.Call (.Name x p) [] [] pos)) none pos2) (fun _ σ H => W (.ref C) none σ H) :=
  ps_raise hc tk (pmk_own0 PySem.F.excBase_ValueError c.q c.g c.kp (raises_own c.ex c.ty) hg hdb)
end
/-! ### own error classes with a field -/
/-- what an __init__ of such a class leaves -/
def sp_xinit (C : Addr) (f : Str) : Sp := fun vs H Q _ => ∃ a v, vs = [.ref a, v] ∧ H a = some (exo a C none) ∧ ∀ dx, H dx = none → dx ≠ a → Q .non (upd (upd H dx (exd dx [(f, v)])) a (exo a C (some dx)))
structure ErrB (K : PySem.W.Frag) (mg : Str → Option Value) (x : Str) (B : Addr) : Prop where
  g : mg x = some (.ref B)
  sp : PySem.W.specialIn K (.ref B) "__getattribute__" = some (some (.builtin "type.__getattribute__"))
  rd : PySem.W.readsIn K B (.type "type") = true
  at_ : PySem.W.findCls K (.ref B) (.type "type") "__init__" = some (.val (.builtin "ValueError.__init__"))
section
variable {X : Cx} {o e : Expr} {es : List Expr} {to te : TE} {ta : TA} {x f : Str} {p p' p1 p2 pos : Pos} {C B : Addr}
theorem pe_clinit {pl : Sem Bool} (b : ErrB X.K X.mg x B) (hg : Gl X x) (ha : PA X (e :: es) ta) (hdb : (x == ("__debug__" : Str)) = false := by decide)
    (hc : eval (.Call (.Attribute (.Name x p1) "__init__" p2) (e :: es) [] pos) X.env = (do
      let ov ← eval (.Name x p1) X.env
      standAt p2.atName
      let (f, first) ← holding [ov] (getMethod ov "__init__" pl)
      callWith pos f first (backTo pos (starEach (e :: es) X.env)) (backToKw pos (keywordEach [] X.env))) := by rfl)
    (he : starEach (e :: es) X.env = (false, eval e X.env) :: starEach es X.env := by rfl) (hpl : (backTo pos (starEach es X.env)).any (·.1) = false := by rfl) :
    PE X (.Call (.Attribute (.Name x p1) "__init__" p2) (e :: es) [] pos) (tVeI X.K ta) := by
  refine ⟨fun pins s σ H Q I h => ?_⟩
  refine PySem.W.methodCall_KW (ld_glob I hg b.g ?_ hdb) hc
  refine PySem.W.method_cls I.kIn b.sp (PySem.W.cls_value I.kIn b.rd b.at_ (by decide +kernel) ?_)
  show wpAny _ _ (callWith pos (Value.builtin "ValueError.__init__") [] (backTo pos (starEach (e :: es) X.env)) []) _ _ _
  refine PyProof.Rows.callWith_method1 (thn (ha.run pos pins _ σ H _ (I.tok _) h) fun us s1 ⟨vs, H1, I1, r1, a, C, ws, ev, hl, T, ea, q⟩ => ?_) he hpl
  subst ev
  cases r1 with
  | @cons _ u0 _ ur ra rw' =>
    obtain rfl : u0 = Value.ref a := ra
    have hlen : ur.length ≤ sizeLine := by
      rw [← Paired.length rw', sizeLine_eq]
      omega
    exact oinit_ok T I1 ea hlen fun s' J => ⟨.non, H1, J, rfl, q⟩
end
structure ErrI (P : Program) (w : World) (K : PySem.W.Frag) (mg : Str → Option Value) (base : Heap) (x : Str) (C : Addr) (k : Nat) (ps : List Str) (f : Str) : Prop where
  T : OexC K C
  g : mg x = some (.ref C)
  ex : ∃ (fI : Addr) (fd : FuncData), PySem.W.findIn K (.ref C) "__init__" = some (some (.ref fI)) ∧ PySem.W.typeIn K (.ref fI) = some (.type "function") ∧ FnOk P w K mg base CX0 k fI fd ps (sp_xinit C f) ∧ Binds K fd ps []
section
variable {X : Cx} {e : Expr} {ta : TA} {x f : Str} {p pos pos2 : Pos} {C : Addr} {k : Nat} {ps : List Str} {W : WX}
theorem ps_raiseI (c : ErrI X.prog X.w X.K X.mg X.base x C k ps f) (hr : Room (k + 1) X.A) (hc : X.calm = true) (tk : Takes X W) (hg : Gl X x) (ha : PA X [e] ta) (hdb : (x == ("__debug__" : Str)) = false := by decide)
    (he : starEach (e :: []) X.env = (false, eval e X.env) :: starEach [] X.env := by rfl) (hpl : (backTo pos (starEach [] X.env)).any (·.1) = false := by rfl) :
    PS X (.Raise (some (.Call (.Name x p) [e] [] pos)) none pos2) (fun _ σ H => tMkO C (sp_xinit C f) [] ta σ H fun cls d H' => W cls d σ H') := by
  obtain ⟨fI, fd, h1, h2, F, hb⟩ := c.ex
  exact ps_raise hc tk (pmk_oex c.T h1 h2 F hr hb .nil (fun _ _ _ _ _ _ _ z => False.elim z) hg c.g ha hdb he hpl)
end
section
variable {K : PySem.W.Frag} {σ : L2.St} {H : Hp} {C : Addr} {f : Str} {v : V} {Q : XK} {sp : Sp} {tA : TA}
theorem s_mkO0 {dvs : List V} (h : tA σ H fun vs H1 => vs.length ≤ 1000 ∧ ∀ a, H1 a = none → sp (.ref a :: (vs ++ dvs)) (upd H1 a (exo a C none))
  (fun v H2 => v = .non ∧ ∃ (d : Addr) (fs : List (Str × V)), H2 a = some (exo a C (some d)) ∧ H2 d = some (exd d fs) ∧ H1 d = none ∧ Q (.ref C) (some d) (upd (del H2 a) d (.xd fs))) (fun _ _ _ => False)) : tMkO C sp dvs tA σ H Q := h
theorem s_mkO (q : ∀ d, H d = none → Q (.ref C) (some d) (upd H d (.xd [(f, v)]))) : [v].length ≤ 1000 ∧ ∀ a, H a = none → sp_xinit C f (.ref a :: ([v] ++ [])) (upd H a (exo a C none))
  (fun v H2 => v = .non ∧ ∃ (d : Addr) (fs : List (Str × V)), H2 a = some (exo a C (some d)) ∧ H2 d = some (exd d fs) ∧ H d = none ∧ Q (.ref C) (some d) (upd (del H2 a) d (.xd fs))) (fun _ _ _ => False) := by
  refine ⟨by simp, fun a ha => ⟨a, v, rfl, upd_same, fun dx hd ne => ⟨rfl, dx, [(f, v)], upd_same, ?_, ?_, ?_⟩⟩⟩
  · rw [upd_ne ne, upd_same]
  · rw [upd_ne ne] at hd
    exact hd
  · rw [upd_ne ne] at hd
    have e : upd (del (upd (upd (upd H a (exo a C none)) dx (exd dx [(f, v)])) a (exo a C (some dx))) a) dx (.xd [(f, v)]) = upd H dx (.xd [(f, v)]) := by
      funext b
      by_cases hb : b = dx
      · subst hb
        rw [upd_same, upd_same]
      · rw [upd_ne hb, upd_ne hb]
        by_cases ha' : b = a
        · subst ha'
          rw [del_same, ha]
        · rw [del_ne ha', upd_ne ha', upd_ne hb, upd_ne ha']
    rw [e]
    exact q dx hd
end
section
variable {K : PySem.W.Frag} {σ : L2.St} {H : Hp} {Q : VK} {G : Ends} {ta : TA} {to te : TE} {f : Str}
theorem s_veI (h : ta σ H fun vs H1 => ∃ (a C : Addr) (ws : List V), vs = .ref a :: ws ∧ ws.length ≤ 1000 ∧ OexC K C ∧ H1 a = some (exo a C none) ∧ Q .non H1) : tVeI K ta σ H Q := h
theorem s_ost (h : te σ H fun y H1 => to σ H1 fun x H2 => ∃ a C : Addr, x = .ref a ∧ OexC K C ∧ PySem.W.findIn K (.ref C) f = some none ∧
  ((H2 a = some (exo a C none) ∧ ∀ dx, H2 dx = none → dx ≠ a → G.nx σ (upd (upd H2 dx (exd dx [(f, y)])) a (exo a C (some dx)))) ∨
    ∃ (dx : Addr) (fs : List (Str × V)), H2 a = some (exo a C (some dx)) ∧ H2 dx = some (exd dx fs) ∧ fs.length ≤ 900 ∧ G.nx σ (upd H2 dx (exd dx ((f, y) :: fs))))) : tOst K f to te G σ H := h
end
/-- e.f, e the error that the suite holds -/
def tXf (K : PySem.W.Frag) (a : Addr) (cls : Value) (d : Option Addr) (f : Str) (te : TE) : TE := fun σ H Q => te σ H fun x H1 => x = .ref a ∧ ∃ (C dd : Addr) (fs : List (Str × V)) (v : V), cls = .ref C ∧ d = some dd ∧ H1 dd = some (.xd fs) ∧ fs.lookup f = some v ∧
  ExcC K C ∧ PySem.W.findIn K (.ref C) f = some none ∧ Q v H1
theorem s_xf {K : PySem.W.Frag} {σ : L2.St} {H : Hp} {Q : VK} {a : Addr} {cls : Value} {d : Option Addr} {f : Str} {te : TE} (h : te σ H fun x H1 => x = .ref a ∧ ∃ (C dd : Addr) (fs : List (Str × V)) (v : V), cls = .ref C ∧ d = some dd ∧ H1 dd = some (.xd fs) ∧ fs.lookup f = some v ∧
  ExcC K C ∧ PySem.W.findIn K (.ref C) f = some none ∧ Q v H1) : tXf K a cls d f te σ H Q := h
theorem pe_xfld {X : Cx} {f : Str} {a : Addr} {oe : Obj} {cls : Value} {d : Option Addr} {pn : List (Addr × Obj)} {e : Expr} {te : TE} {pos : Pos} (hz : Zc cls d oe) (hf : ∃ vs, oe.data = .fields vs) (he : PE (X.suite a ((a, oe) :: pn)) e te)
    (hb : attributeBase e f X.env (eval e X.env) = eval e X.env := by rfl) :
    PE (X.suite a ((a, oe) :: pn)) (.Attribute e f pos) (tXf X.K a cls d f te) := by
  refine ⟨fun pins s σ H Q I h => ?_⟩
  refine attr_of hb (thn (he.run pins s σ H _ I h) fun u s1 hh => ?_)
  obtain ⟨x, H1, I1, rx, ex, C, dd, fs, v, ec, ed, ea, l, T, hno, q⟩ := hh
  subst ex
  obtain rfl : u = Value.ref a := rx
  subst ec
  subst ed
  obtain ⟨ha, _⟩ := I1.pin (a, oe) (List.mem_append_left _ List.mem_cons_self)
  obtain ⟨vs, hd⟩ := hf
  have hx : ObjOk X.prog X.w H1 s1.heap dd (.xd fs) := I1.hok dd _ ea
  obtain ⟨mA, hns, hr⟩ := hx
  obtain ⟨od, ho, hl⟩ := lookIn_ns hns
  obtain ⟨u, hu, ru⟩ := RelO.some_of (v := v) (o := mA f) (by rw [← l]; exact hr f)
  have J : PySem.W.InstAt s1.heap a oe C (some od) := ⟨ha, hz.1, by unfold PySem.W.notCls; rw [hd] <;> rfl, by rw [hz.2]; exact ho⟩
  exact HandSPX.exc_get I1.kIn J T.hg T.hk T.hs (PySem.W.findObj_own T.hd hno rfl (by rw [hl, hu])) (handed_of ru) ⟨v, H1, I1.tok _, ru, q⟩
/-! ### isinstance of the error that a suite holds -/
def isOne (K : PySem.W.Frag) (D : Addr) (c : V) (b : Bool) : Prop := ∃ cv, (∀ u, RelV c u → u = cv) ∧ PySem.W.kitOne K (.ref D) cv = some b
def rIsX (K : PySem.W.Frag) (a : Addr) (cls : Value) (d : Option Addr) : List V → Hp → VK → Prop := fun xs H Q => ∃ (D : Addr) (c : V) (b : Bool), xs = [.ref a, c] ∧ cls = .ref D ∧ ExcC K D ∧
  (d = none ∨ ∃ dd fs, d = some dd ∧ H dd = some (.xd fs)) ∧
  (isOne K D c b ∨ ∃ tp vs, ∃ cvs : List Value, c = .ref tp ∧ SqT K H tp vs ∧ (∀ us, Vals vs us → us = cvs) ∧ PySem.W.kitAny K (.ref D) cvs = some b) ∧ Q (.bl b) H
theorem call_isX {X : Cx} {a : Addr} {oe : Obj} {cls : Value} {d : Option Addr} {pn : List (Addr × Obj)} (hz : Zc cls d oe) (hf : ∃ vs, oe.data = .fields vs) : CallR (X.suite a ((a, oe) :: pn)) (.builtin "isinstance") (rIsX X.K a cls d) := by
  intro pins s σ H xs us Q I r h
  obtain ⟨D, c, b, rfl, rfl, C, hd, hc, q⟩ := h
  cases r with
  | cons rx rr =>
    cases rr with
    | cons rt rr =>
      cases rr
      cases rx
      obtain ⟨hget, _⟩ := I.pin (a, oe) (List.mem_append.mpr (.inl List.mem_cons_self))
      obtain ⟨vs, hv⟩ := hf
      have J : ∃ od, PySem.W.InstAt s.heap a oe D od := by
        rcases hd with rfl | ⟨dd, fs, rfl, hx⟩
        · obtain ⟨oc, od, oda, osl⟩ := oe
          obtain ⟨h1, h2⟩ := hz
          dsimp only at h1 h2 hv
          subst h1 h2 hv
          exact ⟨none, hget, rfl, rfl, trivial⟩
        · have hx' := I.hok dd _ hx
          obtain ⟨mA, hns, hr⟩ := hx'
          obtain ⟨od, ho, hl⟩ := lookIn_ns hns
          exact ⟨some od, hget, hz.1, by unfold PySem.W.notCls; rw [hv] <;> rfl, by rw [hz.2]; exact ho⟩
      obtain ⟨od, J⟩ := J
      have Z := PySem.W.kitx_exc (K := X.K) (x := a) (ox := oe) (od := od) (C := D) (by obtain ⟨cd, hc, _⟩ := PySem.W.any_some C.hd; rw [hc]; rfl) C.hg C.hk C.hs C.ha C.hn C.ht C.hm
      rcases hc with ⟨cv, hcv, e⟩ | ⟨tp, ts, cvs, rfl, hq, hcs, e⟩
      · have ec := hcv _ rt
        subst ec
        exact PySem.W.kia_one Z I.kIn J e (fun z => nomatch z) fun tk => ⟨.bl b, H, I.kept (t' := tk) fun _ _ z => z, rfl, q⟩
      · cases rt
        obtain ⟨its, rv, ⟨o, ho, hc, n, hd'⟩, _⟩ := I.tuple hq
        have ec := hcs _ rv
        subst ec
        obtain ⟨oc, od', oda, osl⟩ := o
        dsimp only at hc hd'
        subst hc hd'
        exact PySem.W.kia_tup Z I.kIn J ho e (fun z => nomatch z) fun tk => ⟨.bl b, H, I.kept (t' := tk) fun _ _ z => z, rfl, q⟩
section
variable {K : PySem.W.Frag} {H : Hp} {F : List (V × D)} {M : List ME} {Q : VK} {v : V} {a C D : Addr} {b : Bool}
theorem isOne_ref (h : PySem.W.kitOne K (.ref D) (.ref C) = some b) : isOne K D (.ref C) b := ⟨.ref C, fun u r => r, h⟩
theorem isOne_ty {n : String} (h : PySem.W.kitOne K (.ref D) (.type n) = some b) : isOne K D (.ty n) b := ⟨.type n, fun u r => r, h⟩
theorem n_isX {c : V} (C : ExcC K D) (h : isOne K D c b) (q : Q (.bl b) H) : rIsX K a (.ref D) none [.ref a, c] H Q := ⟨D, c, b, rfl, rfl, C, .inl rfl, .inl h, q⟩
theorem n_isXd {c : V} {dd : Addr} {fs : List (Str × V)} (C : ExcC K D) (hd : H dd = some (.xd fs)) (h : isOne K D c b) (q : Q (.bl b) H) : rIsX K a (.ref D) (some dd) [.ref a, c] H Q := ⟨D, c, b, rfl, rfl, C, .inr ⟨dd, fs, rfl, hd⟩, .inl h, q⟩
theorem isA_refs {I : Hp} : ∀ {cs : List Addr} {vs : List V}, IsA I vs (cs.map Fs.D.ref) → vs = cs.map V.ref
  | [], _, h => by cases h; rfl
  | c :: cs, _, h => by
    cases h with
    | cons h1 h2 =>
      cases h1
      rw [isA_refs h2]
      rfl
theorem vals_refs : ∀ {cs : List Addr} {us : List Value}, Vals (cs.map V.ref) us → us = cs.map Value.ref
  | [], _, h => by cases h; rfl
  | c :: cs, _, h => by
    cases h with
    | cons h1 h2 =>
      have e : _ = Value.ref c := h1
      rw [vals_refs h2, e]
      rfl
theorem n_isXT {cs : List Addr} (w : Wf F H M) (ht : Rk F M v (.tup (cs.map Fs.D.ref))) (C : ExcC K D) (h : PySem.W.kitAny K (.ref D) (cs.map Value.ref) = some b) (q : Q (.bl b) H) : rIsX K a (.ref D) none [.ref a, v] H Q := by
  obtain ⟨I, Mc, w, ac, hF⟩ := w.ex
  obtain ⟨p, vs, rfl, hp, ha⟩ := ht.tup w ac hF
  have e := isA_refs ha
  subst e
  exact ⟨D, .ref p, b, rfl, rfl, C, .inl rfl, .inr ⟨p, _, _, rfl, .inl (.inl hp), fun us h => vals_refs h, h⟩, q⟩
theorem s_isXT {I : Hp} {M : List (Addr × HO)} {cs : List Addr} (w : W I H M) (ht : Is I v (.tup (cs.map Fs.D.ref))) (C : ExcC K D) (h : PySem.W.kitAny K (.ref D) (cs.map Value.ref) = some b) (q : Q (.bl b) H) : rIsX K a (.ref D) none [.ref a, v] H Q := by
  obtain ⟨p, vs, rfl, hp, ha⟩ := ht.tup_ex
  have e := isA_refs ha
  subst e
  exact ⟨D, .ref p, b, rfl, rfl, C, .inl rfl, .inr ⟨p, _, _, rfl, .inl (.inl (w.imm _ _ hp)), fun us h => vals_refs h, h⟩, q⟩
theorem isA_ofRefs {I : Hp} : ∀ (cs : List Addr), IsA I (cs.map V.ref) (cs.map Fs.D.ref)
  | [] => .nil
  | c :: cs => .cons (.ref c) (isA_ofRefs cs)
theorem kitAny_no {t : Value} : ∀ {cs : List Value}, (∀ c ∈ cs, PySem.W.kitOne K t c = some false) → PySem.W.kitAny K t cs = some false
  | [], _ => rfl
  | c :: cs, h => by
    unfold PySem.W.kitAny
    rw [h c List.mem_cons_self]
    exact kitAny_no fun d hd => h d (List.mem_cons_of_mem _ hd)
end
/-! facts of the classes -/
theorem kit_sub {K : PySem.W.Frag} {C D : Addr} (ic : PySem.W.isClsIn K C = true) (et : PySem.W.typeIn K (.ref C) = some (.type "type")) (sD : PySem.W.subIn K (.ref D) (.ref D) = some true) {b : Bool} (h : PySem.W.subIn K (.ref D) (.ref C) = some b) : PySem.W.kitOne K (.ref D) (.ref C) = some b := by
  have e2 : ((PySem.W.clsIn K C).isSome && PySem.W.typeIn K (.ref C) == some (.type "type")) = true := by
    have h2' : (PySem.W.clsIn K C).isSome = true := ic
    rw [h2', et] <;> rfl
  show (if (Value.ref D == Value.ref C) = true then some true else PySem.W.kitCls K (.ref D) (.ref C)) = some b
  by_cases q : D = C
  · subst q
    rw [if_pos (beq_self_eq_true _), ← h, sD]
  · rw [if_neg (fun z => q (Value.ref.inj (beq_iff_eq.mp z)))]
    show (if ((PySem.W.clsIn K C).isSome && PySem.W.typeIn K (.ref C) == some (.type "type")) = true then PySem.W.subIn K (.ref D) (.ref C) else none) = some b
    rw [if_pos e2]
    exact h
theorem kit_subT {K : PySem.W.Frag} {D : Addr} {n : String} (hk : PySem.W.kitMeta n = true) {b : Bool} (h : PySem.W.subIn K (.ref D) (.type n) = some b) : PySem.W.kitOne K (.ref D) (.type n) = some b := by
  have e : ¬ (Value.ref D == Value.type n) = true := fun h => by cases (beq_iff_eq.mp h)
  show (if (Value.ref D == Value.type n) = true then some true else PySem.W.kitCls K (.ref D) (.type n)) = some b
  rw [if_neg e]
  show (if PySem.W.kitMeta n = true then PySem.W.subIn K (.ref D) (.type n) else none) = some b
  rw [if_pos hk]
  exact h
theorem exm_sub {K : PySem.W.Frag} {C D : Addr} (ic : PySem.W.isClsIn K C = true) (et : PySem.W.typeIn K (.ref C) = some (.type "type")) (eb : PySem.W.subIn K (.ref C) (.type "BaseException") = some true) {b : Bool} (h : PySem.W.subIn K (.ref D) (.ref C) = some b) : PySem.W.exmOne K (.ref D) (.ref C) = some b := by
  have e2 : ((PySem.W.clsIn K C).isSome && PySem.W.typeIn K (.ref C) == some (.type "type")) = true := by
    have h2' : (PySem.W.clsIn K C).isSome = true := ic
    rw [h2', et] <;> rfl
  have e1 : (PySem.W.subIn K (.ref C) (.type "BaseException") == some true) = true := by rw [eb] <;> rfl
  show (if (PySem.W.subIn K (.ref C) (.type "BaseException") == some true) = true then (if ((PySem.W.clsIn K C).isSome && PySem.W.typeIn K (.ref C) == some (.type "type")) = true then PySem.W.subIn K (.ref D) (.ref C) else none) else none) = some b
  rw [if_pos e1, if_pos e2]
  exact h
/-! ### what lies on the heap as it is; lists of truths -/
section
variable {K : PySem.W.Frag} {H : Hp} {F : List (V × D)} {M : List ME} {Q : VK} {x y : V} {p : Addr} {o : HO}
theorem Wf.newRaw (w : Wf F H M) (hd : H p = none) (hn : ∀ vs, o ≠ .tup vs := by intro _ e; cases e) : Wf F (upd H p o) (.raw p o :: M) := by
  obtain ⟨I, Mc, w, ac, hF⟩ := w.ex
  exact ⟨I, (p, o) :: Mc, w.newM hd, .cons (.raw hn) ac, hF⟩
theorem Wf.rawAt (w : Wf F H M) (h : .raw p o ∈ M) : H p = some o := by
  obtain ⟨I, Mc, w, ac, hF⟩ := w.ex
  obtain ⟨m, hm, c⟩ := ac.mem h
  cases c
  exact (w.mu _ hm).1
theorem isA_bools {I : Hp} : ∀ {bs : List Bool} {vs : List V}, IsA I vs (bs.map D.bl) → vs = bs.map V.bl
  | [], _, h => by cases h; rfl
  | c :: cs, _, h => by
    cases h with
    | cons h1 h2 =>
      cases h1
      rw [isA_bools h2]
      rfl
theorem dp_bools {K : PySem.W.Frag} : ∀ (bs : List Bool), DpAll K H (bs.map V.bl) (D.pds (bs.map D.bl))
  | [] => .nil
  | b :: bs => .cons (.bl b) (dp_bools bs)
theorem sh_bools (bs : List Bool) : SeqAt.shaped (D.pd (.lst (bs.map D.bl))) = true := by
  obtain ⟨h1, h2⟩ := pds_can (ds := bs.map D.bl) (k := 1) fun d hd => by
    obtain ⟨b, _, rfl⟩ := List.mem_map.mp hd
    exact ⟨by simp [D.pd, PyData.canLay0], by simp [D.pd, PyData.depth]⟩
  unfold SeqAt.shaped
  rw [show (D.pd (.lst (bs.map D.bl))).canLay0 = true by simp [D.pd, PyData.canLay0, h1], decide_eq_true (by simp only [D.pd, PyData.depth]; omega)]
  rfl
theorem eqv_bools (bs cs : List Bool) : PyData.eqv (D.pd (.lst (bs.map D.bl))) (D.pd (.lst (cs.map D.bl))) = true ↔ bs = cs := by
  simp only [D.pd, PyData.eqv]
  rw [pds_eqv (P := fun e => ∃ b, e = D.bl b)]
  · constructor
    · exact fun h => (List.map_inj_right (fun a b e => by injection e)).mp h
    · exact fun h => by rw [h]
  · intro d hd e he
    obtain ⟨b, _, rfl⟩ := List.mem_map.mp hd
    obtain ⟨c, rfl⟩ := he
    simp [D.pd, PyData.eqv]
  · intro e he
    obtain ⟨c, _, rfl⟩ := List.mem_map.mp he
    exact ⟨c, rfl⟩
theorem Wf.bools {bs : List Bool} (w : Wf F H M) (h : Rk F M x (.lst (bs.map D.bl))) : Dp K H x (D.pd (.lst (bs.map D.bl))) := by
  obtain ⟨I, Mc, w, ac, hF⟩ := w.ex
  obtain ⟨p, vs, rfl, hp, ha⟩ := h.lst w ac hF
  have e := isA_bools ha
  subst e
  exact .lst (.inl (.inl hp)) (dp_bools bs)
theorem n_neB {bs cs : List Bool} (w : Wf F H M) (hx : Rk F M x (.lst (bs.map D.bl))) (hy : Rk F M y (.lst (cs.map D.bl))) (q : Q (.bl (!decide (bs = cs))) H) : rNeU K x y H Q :=
  .inr ⟨_, _, w.bools hx, w.bools hy, sh_bools bs, sh_bools cs, by
    have h2 : PyData.eqv (D.pd (.lst (bs.map D.bl))) (D.pd (.lst (cs.map D.bl))) = decide (bs = cs) := by rw [Bool.eq_iff_iff, eqv_bools, decide_eq_true_iff]
    rw [h2]; exact q⟩
end
end Fs

namespace Fs
open PySem PySem.Spec PyProof.Rows L2
/-! ### a class whose __init__ may raise -/
structure MakX (P : Program) (w : World) (K : PySem.W.Frag) (mg : Str → Option Value) (base : Heap) (x : Str) (C : Addr) (k : Nat) (ps : List Str) (dvs : List V) (sp : Sp) : Prop where
  ex : ∃ (f : Addr) (fd : FuncData) (ds : List Value), Mk K C f ∧ FnOk P w K mg base (L2.CX P w) k f fd ps sp ∧ mg x = some (.ref C) ∧ Binds K fd ps ds ∧ Vals dvs ds
def MakeXQ (C : Addr) (sp : Sp) (E : XK) (Q : VK) (vs : List V) (H1 : Hp) : Prop := ∀ o d, H1 o = none → H1 d = none → d ≠ o → sp (.ref o :: vs) (upd (upd H1 d (.own o)) o (.ins C d [])) (fun v H2 => v = .non ∧ Q (.ref o) H2) E
def tMakeX (C : Addr) (sp : Sp) (dvs : List V) (W : WX) (t : TA) : TE := fun σ H Q => t σ H fun vs H1 => MakeXQ C sp (WE W σ) Q (vs ++ dvs) H1
theorem s_makeX {C : Addr} {sp : Sp} {dvs : List V} {W : WX} {t : TA} {σ : L2.St} {H : Hp} {Q : VK} (h : t σ H fun vs H1 => MakeXQ C sp (WE W σ) Q (vs ++ dvs) H1) : tMakeX C sp dvs W t σ H Q := h
section
variable {X : Cx} {x : Str} {C : Addr} {p pos : Pos} {e : Expr} {es : List Expr} {t : TA} {k : Nat} {ps : List Str} {dvs : List V} {sp : Sp} {W : WX}
theorem run_makeX {pins : List (Addr × Obj)} {σ : L2.St} {H : Hp} {s : Shared} {Q : VK} {us ds : List Value} {vs : List V} {f : Addr} {fd : FuncData} (m : Mk X.K C f) (ok : FnOk X.prog X.w X.K X.mg X.base (L2.CX X.prog X.w) k f fd ps sp) (room : Room (k + 1) X.A)
    (bd : Binds X.K fd ps ds) (dv : Vals dvs ds) (tk : Takes X W) (J : Inv X pins σ H s) (rv : Vals vs us) (q : MakeXQ C sp (WE W σ) Q (vs ++ dvs) H) : wpAny (model X.prog X.w) X.A (call (.ref C) us) (EP X pins σ Q) X.xe s := by
  have q0 := q (s.heap.objs.size + 1) s.heap.objs.size (J.hok.fresh (Nat.le_succ _)) (J.hok.fresh (Nat.le_refl _)) (Nat.ne_of_lt (Nat.lt_succ_self _))
  have J2 := Inv.made (C := C) J
  have rr : Vals (V.ref (s.heap.objs.size + 1) :: (vs ++ dvs)) (Value.ref (s.heap.objs.size + 1) :: (us ++ ds)) := .cons rfl (rv.append dv)
  have hlen : (Value.ref (s.heap.objs.size + 1) :: us ++ ds).length = ps.length := rr.length.symm.trans (ok.len _ _ _ _ q0)
  have run := ok.run (X.A.under (.builtin "type.__call__" ⟨.ref C :: us, []⟩)) X.stack _ _ ⟨Value.ref (s.heap.objs.size + 1) :: us, []⟩ _ _ _ _ (room.make C us []) (J2.env0.make C us []) (bd _ (Value.ref (s.heap.objs.size + 1) :: us) J2.kIn hlen) rr q0
  refine wpAny_call (make_map (f := f) J.kIn m.makes m.init (beq_iff_eq.mp m.fn) (codeAny_mono run fun r s' z => ?_))
  match r, z with
  | .error er, z => exact tk er s' (XE.of_call J2 (fun _ _ _ y => y) z)
  | .ok (.ret u), z =>
    obtain ⟨v, H', J3, r3, e3, q3⟩ := J2.after z
    subst e3
    exact ⟨r3, ⟨V.ref (s.heap.objs.size + 1), H', J3, rfl, q3⟩⟩
  | .ok .next, z => exact z.elim
  | .ok .brk, z => exact z.elim
  | .ok .cont, z => exact z.elim
theorem pe_mkX (c : MakX X.prog X.w X.K X.mg X.base x C k ps dvs sp) (hr : Room (k + 1) X.A) (hg : Gl X x) (tk : Takes X W) (ha : PA X (e :: es) t) (hdb : (x == ("__debug__" : Str)) = false := by decide)
    (he : starEach (e :: es) X.env = (false, eval e X.env) :: starEach es X.env := by rfl) (hpl : (backTo pos (starEach es X.env)).any (·.1) = false := by rfl) : PE X (.Call (.Name x p) (e :: es) [] pos) (tMakeX C sp dvs W t) := by
  obtain ⟨f, fd, ds, m, ok, g, bd, dv⟩ := c.ex
  exact ⟨fun pins s σ H Q J h => wpAny_Call_Name_kw (ld_glob J hg g (PySem.W.callWith_K (h₀ := X.base) J.ok.mod.kin m.kp (thn (ha.run pos pins s σ H _ J h) fun us s1 ⟨vs, H1, J1, rv, q⟩ => ⟨J1.kIn, run_makeX m ok hr bd dv tk J1 rv q⟩) he hpl) hdb)⟩
end
section
variable {K : PySem.W.Frag} {H : Hp} {F : List (V × D)} {M M' : List ME} {Q : VK} {v : V} {p C : Addr} {d : D} {vs : List V} {sp : Sp} {E : XK}
/-- the new instance, its dict aside -/
theorem n_makeX (w : Wf F H M) (q : ∀ o H', Wf F H' (.mi o C [] :: M) → sp (.ref o :: vs) H' (fun v H2 => v = .non ∧ Q (.ref o) H2) E) : MakeXQ C sp E Q vs H := fun o dx ho hd ne => by
  obtain ⟨I, Mc, w, ac, hF⟩ := w.ex
  have w1 : W I (upd H dx (.own o)) Mc := w.more (same_new hd)
  have h1 : upd H dx (.own o) o = none := by rw [upd_ne ne.symm]; exact ho
  exact q o _ ⟨I, (o, .ins C dx []) :: Mc, w1.newM h1, .cons (.mi .nil) ac, hF⟩
theorem n_isXTd {a D dd : Addr} {b : Bool} {fs : List (Str × V)} {cs : List Addr} (w : Wf F H M) (ht : Rk F M v (.tup (cs.map Fs.D.ref))) (C : ExcC K D) (hd : H dd = some (.xd fs)) (h : PySem.W.kitAny K (.ref D) (cs.map Value.ref) = some b) (q : Q (.bl b) H) : rIsX K a (.ref D) (some dd) [.ref a, v] H Q := by
  obtain ⟨I, Mc, w, ac, hF⟩ := w.ex
  obtain ⟨p, vs, rfl, hp, ha⟩ := ht.tup w ac hF
  have e := isA_refs ha
  subst e
  exact ⟨D, .ref p, b, rfl, rfl, C, .inr ⟨dd, fs, rfl, hd⟩, .inr ⟨p, _, _, rfl, .inl (.inl hp), fun us h => vals_refs h, h⟩, q⟩
theorem knA_refs {F : List (V × Fs.D)} : ∀ (cs : List Addr), KnA F (cs.map V.ref) (cs.map Fs.D.ref)
  | [] => .nil
  | c :: cs => .cons (.ref c) (knA_refs cs)
theorem Wf.frzK {kvs : List (Key × D)} (w : Wf F H M) (r : Rem M (.dk p kvs) M') : Wf ((.ref p, .dict) :: F) H M' := by
  obtain ⟨I, Mc, w, a, hF⟩ := w.ex
  obtain ⟨M1, m, M2, rfl, h1, h2⟩ := a.rem r
  cases h1 with
  | dk b =>
    refine ⟨_, _, w.frz, h2.mono w.frzS, fun f hf => ?_⟩
    rcases List.mem_cons.mp hf with rfl | hf
    · exact .dct upd_same
    · exact (hF f hf).mono w.frzS
end
theorem putD_new {f : Str} {d : D} : ∀ {fs : List (Str × D)}, f ∉ fs.map (·.1) → putD f d fs = fs ++ [(f, d)]
  | [], _ => rfl
  | (g, x) :: r, h => by
    have e1 : ¬ g = f := fun e => h (by rw [e]; exact List.mem_cons_self)
    have e2 : f ∉ r.map (·.1) := fun e => h (List.mem_cons_of_mem _ e)
    unfold putD
    rw [if_neg e1, putD_new e2]
    rfl
/-! ### == of two lists of the same values, of two empty dicts -/
def plainV : V → Bool
  | .non => true | .bl _ => true | .int _ => true | .str _ => true | .ref _ => true
  | _ => false
theorem eqAt_id {A : Around} {s : Shared} {v : V} {u u' : Value} (r : RelV v u) (r' : RelV v u') (f : plainV v = true) : SeqAt.EqAt A s u u' true := by
  cases v with
  | ref a =>
    cases (show u = Value.ref a from r)
    cases (show u' = Value.ref a from r')
    exact SeqAt.EqAt.same _
  | non => exact eqAt_same r r' rfl
  | bl b => exact eqAt_same r r' rfl
  | int i => exact eqAt_same r r' rfl
  | str x => exact eqAt_same r r' rfl
  | _ => cases f
def rEqId (K : PySem.W.Frag) : R2 := fun x y H Q => ∃ a b xs, x = .ref a ∧ y = .ref b ∧ SqL K H a xs ∧ SqL K H b xs ∧ (∀ v ∈ xs, plainV v = true) ∧ Q (.bl true) H
def rEqU2 (K : PySem.W.Frag) : R2 := fun x y H Q => rEqU K x y H Q ∨ (rEqId K x y H Q ∨ rEqDA x y H Q)
section
variable {X : Cx}
theorem op_eqId (hu : X.A.units + 64 < cLine) : OpR X (compareOp .Eq) (rEqId X.K) := by
  intro pins s σ H x y v u Q I rx ry h
  obtain ⟨a, b, xs, rfl, rfl, ha, hb, hf, q⟩ := h
  obtain rfl : v = Value.ref a := rx
  obtain rfl : u = Value.ref b := ry
  obtain ⟨it, ra, ⟨o, n, ho, hc, _, hd⟩, _⟩ := I.list ha
  obtain ⟨jt, rb, ⟨o2, n2, ho2, hc2, _, hd2⟩, _⟩ := I.list hb
  have l1 := ra.length
  have l2 := rb.length
  have hsz : it.toArray.size = jt.toArray.size := by simp; omega
  refine SeqAt.eq_listAt (e := fun _ => true) ⟨o, ho, hc, n, hd⟩ ⟨o2, ho2, hc2, n2, hd2⟩ hsz (by omega) (fun j h1 h2 => ?_) ?_
  · have hj : j < xs.length := by
      simp at h1
      omega
    have hx : xs[j]? = some xs[j] := List.getElem?_eq_getElem hj
    obtain ⟨u1, e1, r1⟩ := ra.get hx
    obtain ⟨u2, e2, r2⟩ := rb.get hx
    have q1 : it.toArray[j] = u1 := by
      have := List.getElem?_eq_some_iff.mp e1
      simpa using this.2
    have q2 : jt.toArray[j] = u2 := by
      have := List.getElem?_eq_some_iff.mp e2
      simpa using this.2
    rw [q1, q2]
    exact eqAt_id r1 r2 (hf _ (List.getElem_mem hj))
  · have e : (List.range it.toArray.size).all (fun _ => true) = true := by simp
    rw [e]
    exact ⟨.bl true, H, I, rfl, q⟩
theorem uo_eq2 (hu : X.A.units + 64 < cLine) : OpR X (compareOp .Eq) (rEqU2 X.K) := opOr (uo_eq hu) (opOr (op_eqId hu) (op_eq_dictA (by omega)))
end
theorem k_eq2 {X : Cx} {K : PySem.W.Frag} (h : X.K = K) (hu : X.A.units + 64 < cLine) : OpR X (compareOp .Eq) (rEqU2 K) := h ▸ uo_eq2 hu
/-- a thing of which there is but one value -/
def rigid : D → Option V
  | .non => some .non
  | .bl b => some (.bl b)
  | .int i => some (.int i)
  | .str x => some (.str x)
  | .ref a => some (.ref a)
  | _ => none
theorem Is.rigid {I : Hp} {v u : V} {d : D} (h : Is I v d) (e : rigid d = some u) : v = u := by
  cases h <;> first | (cases e; rfl) | cases e
theorem IsA.rigid {I : Hp} : ∀ {ds : List D} {vs us : List V}, IsA I vs ds → ds.map Fs.rigid = us.map some → vs = us
  | [], _, [], h, _ => by cases h; rfl
  | [], _, _ :: _, _, e => by cases e
  | d :: ds, _, [], _, e => by cases e
  | d :: ds, _, u :: us, h, e => by
    cases h with
    | cons h1 h2 =>
      injection e with e1 e2
      rw [h1.rigid e1, IsA.rigid h2 e2]
theorem rigid_plain {d : D} {v : V} (e : rigid d = some v) : plainV v = true := by
  cases d <;> first | (cases e; rfl) | cases e
section
variable {K : PySem.W.Frag} {H : Hp} {F : List (V × D)} {M : List ME} {Q : VK} {x y : V} {ds : List D}
theorem n_eqId (w : Wf F H M) (hx : Rk F M x (.lst ds)) (hy : Rk F M y (.lst ds)) (hr : ∀ d ∈ ds, ∃ v, rigid d = some v) (q : Q (.bl true) H) : rEqU2 K x y H Q := by
  obtain ⟨I, Mc, w, a, hF⟩ := w.ex
  obtain ⟨p, vs, rfl, hp, h1⟩ := hx.lst w a hF
  obtain ⟨p', vs', rfl, hp', h2⟩ := hy.lst w a hF
  have ex : ∃ us : List V, ds.map rigid = us.map some := by
    clear hx hy h1 h2
    induction ds with
    | nil => exact ⟨[], rfl⟩
    | cons d ds ih =>
      obtain ⟨us, e⟩ := ih fun d hd => hr d (List.mem_cons_of_mem _ hd)
      obtain ⟨v, ev⟩ := hr d List.mem_cons_self
      exact ⟨v :: us, by rw [List.map_cons, List.map_cons, e, ev]⟩
  obtain ⟨us, e⟩ := ex
  have e1 := h1.rigid e
  have e2 := h2.rigid e
  subst e1
  subst e2
  refine .inr (.inl ⟨p, p', _, rfl, rfl, .inl (.inl hp), .inl (.inl hp'), fun v hv => ?_, q⟩)
  have : some v ∈ ds.map rigid := by rw [e]; exact List.mem_map_of_mem hv
  obtain ⟨d, _, hd⟩ := List.mem_map.mp this
  exact rigid_plain hd
theorem n_eqDict {a : Addr} (w : Wf F H M) (h : .raw a (.dK []) ∈ M) (q : Q (.bl true) H) : rEqU2 K (.ref a) (.ref a) H Q :=
  .inr (.inr ⟨a, a, [], [], rfl, rfl, w.rawAt h, w.rawAt h, rfl, fun _ h => (nomatch h), q⟩)
theorem n_eqTD {d : D} (w : Wf F H M) (hx : Rk F M x d) (hy : Rk F M y d) (n : NB 60 d) (q : Q (.bl true) H) : rEqU2 K x y H Q := .inl (n_eqT w hx hy n q)
end
/-- a thing of a known kind: by itself, or by a fact of the dict that it is -/
def TyF (F : List (V × D)) (d : D) : Prop := Ty d ∨ ∃ a, d = .ref a ∧ (V.ref a, D.dict) ∈ F
theorem TyF.more {F : List (V × D)} {d : D} {f : V × D} (h : TyF F d) : TyF (f :: F) d := h.elim .inl fun ⟨a, e, m⟩ => .inr ⟨a, e, List.mem_cons_of_mem _ m⟩
theorem Ty.rk {F : List (V × D)} {M : List ME} {v : V} {d : D} (t : Ty d) (h : Kn F v d) : Rk F M v d := Rk.of h fun q => by
  obtain ⟨a, e⟩ := t
  rcases q with ⟨n, rfl⟩ | ⟨n, rfl⟩ <;> cases e
theorem TyF.go {F : List (V × D)} {H : Hp} {M : List ME} {v : V} {d : D} (w : Wf F H M) (h : Kn F v d) (t : TyF F d) : ∃ e, Ty e ∧ Rk F M v e ∧ e.whole = d.whole := by
  rcases t with t | ⟨a, rfl, m⟩
  · exact ⟨d, t, t.rk h, rfl⟩
  · obtain ⟨I, Mc, w, ac, hF⟩ := w.ex
    have e : v = .ref a := (h.is hF).ref_eq
    subst e
    exact ⟨.dict, ⟨_, rfl⟩, .mem m, rfl⟩
end Fs

namespace Fs
open PySem PySem.Spec PyProof.Rows L2
/-- a tuple that the written part holds -/
theorem sqT_of {K : PySem.W.Frag} {H : Hp} {a : Addr} {td : Option Addr} {its : List Value} {n : Nat} {sl : Array (Option Value)} {xs : List V} (l : K.lookup a = some ⟨.type "tuple", td, .seq its.toArray n, sl⟩) (r : Vals xs its) (hz : its.length ≤ 1000) : SqT K H a xs :=
  .inr ⟨_, _, _, l, rfl, rfl, by rw [List.size_toArray, sizeLine_eq]; omega, by simpa using r⟩
section
variable {K : PySem.W.Frag} {H : Hp} {Q : VK} {x : V} {a : Addr} {xs : List V} {b : Bool}
theorem s_inT (h : SqT K H a xs) (f : flatV x = true) (g : xs.all flatV = true) (e : inV x xs = b) (q : Q (.bl b) H) : rIn K false x (.ref a) H Q := ⟨a, xs, rfl, .inr h, f, g, by rw [e]; exact q⟩
end
section
variable {K : PySem.W.Frag} {H : Hp} {F : List (V × D)} {M : List ME} {Q : VK} {v : V} {C a : Addr} {f : Str} {fs : List (Str × D)} {L : List Str} {ds : List D} {i : Int}
theorem n_fldr (w : Wf F H M) (h : Rk F M v (.obj C fs)) (hc : Cls K C) (hn : ∀ f ∈ L, NoAttr K C f) (hf : f ∈ L) (hd : fs.lookup f = some (.ref a)) (q : Q (.ref a) H) : FldQ K f Q v H := n_fld w h hc hn hf hd fun u w => by rw [w.ref0.1]; exact q
theorem n_ixTr (w : Wf F H M) (h : Rk F M v (.tup ds)) (hd : atI ds i = some (.ref a)) (q : Q (.ref a) H) : rIx K v (.int i) H Q := n_ixT w h hd fun u w => by rw [w.ref0.1]; exact q
theorem n_ixLr (w : Wf F H M) (h : Rk F M v (.lst ds)) (hd : atI ds i = some (.ref a)) (q : Q (.ref a) H) : rIx K v (.int i) H Q := n_ixL w h hd fun u w => by rw [w.ref0.1]; exact q
end
theorem k_slT {X : Cx} {K : PySem.W.Frag} (h : X.K = K) : SlR X (rSlT K) := h ▸ sl_tup
theorem n_slT {K : PySem.W.Frag} {H : Hp} {F : List (V × D)} {M : List ME} {Q : VK} {x : V} {ds : List D} {lo hi : Option Int} (w : Wf F H M) (h : Rk F M x (.tup ds)) (hn : ¬ (HT.sIx ds.length 0 lo = 0 ∧ HT.sIx ds.length ds.length hi = ds.length)) (q : ∀ p H', Wf ((.ref p, .tup (cutD ds lo hi)) :: F) H' M → Q (.ref p) H') : rSlT K x lo hi H Q := by
  obtain ⟨I, Mc, w0, ac, hF⟩ := w.ex
  obtain ⟨p, vs, rfl, hp, ha⟩ := h.tup w0 ac hF
  refine ⟨p, vs, rfl, .inl (.inl hp), by rw [ha.length]; exact hn, fun p' hp' => q p' _ (w.newT hp' fun I1 Mc1 w1 a1 hF1 => ?_)⟩
  obtain ⟨p2, vs2, e, hp2, ha2⟩ := h.tup w1 a1 hF1
  cases e
  rw [hp] at hp2
  cases hp2
  exact ha2.cut lo hi
section
variable {K : PySem.W.Frag} {H : Hp} {F : List (V × D)} {M : List ME} {Q : VK} {r : V} {p : Addr} {l : Int} {ds : List D}
/-- a tuple of a number and a list that may be changed, as it is now -/
theorem Wf.deep2 (w : Wf F H M) (h : Rk F M r (.tup [.int l, .ref p])) (hm : ME.ml p ds ∈ M) : Is H r (.tup [.int l, .lst ds]) := by
  obtain ⟨I, Mc, w, ac, hF⟩ := w.ex
  obtain ⟨t, vs, rfl, ht, ha⟩ := h.tup w ac hF
  have hl : Is H (.ref p) (.lst ds) := (Rk.ml (F := F) hm).rd w ac hF
  cases ha with
  | cons h1 ha =>
    cases ha with
    | cons h2 ha =>
      cases ha
      cases h1
      cases h2
      exact .tup ht (.cons (.int l) (.cons hl .nil))
/-- .. and for good -/
theorem Wf.upT (w : Wf F H M) (h : Kn F r (.tup [.int l, .ref p])) (h2 : Kn F (.ref p) (.lst ds)) : Wf ((r, .tup [.int l, .lst ds]) :: F) H M := by
  obtain ⟨I, Mc, w, ac, hF⟩ := w.ex
  have e := h.is hF
  have e2 := h2.is hF
  refine ⟨I, Mc, w, ac, fun f hf => ?_⟩
  rcases List.mem_cons.mp hf with rfl | hf
  · cases e with
    | tup ht ha =>
      cases ha with
      | cons h1 ha =>
        cases ha with
        | cons h2 ha =>
          cases ha
          cases h1
          cases h2
          exact .tup ht (.cons (.int l) (.cons e2 .nil))
  · exact hF f hf
end
end Fs

namespace Fs
open PySem PySem.Spec PyProof.Rows L2
theorem k_all {X : Cx} {K : PySem.W.Frag} (h : X.K = K) (hc : X.calm = true) : CallR X (.builtin "all") (rAll K) := h ▸ cr_all hc
theorem k_any {X : Cx} {K : PySem.W.Frag} (h : X.K = K) (hc : X.calm = true) : CallR X (.builtin "any") (rAny K) := h ▸ cr_any hc
section
variable {K : PySem.W.Frag} {H : Hp} {F : List (V × D)} {M M' : List ME} {Q : VK} {v : V} {p : Addr} {ds : List D} {bs : List Bool} {b : Bool}
theorem IsA.bls {I : Hp} : ∀ {bs : List Bool} {vs : List V}, IsA I vs (bs.map D.bl) → vs = bs.map V.bl
  | [], _, .nil => rfl
  | _ :: _, _, .cons h a => by
    cases h
    rw [IsA.bls a]
    rfl
theorem n_all (w : Wf F H M) (h : Rk F M v (.lst (bs.map D.bl))) (hb : bs.all id = b) (q : Q (.bl b) H) : rAll K [v] H Q := by
  obtain ⟨I, Mc, w, a, hF⟩ := w.ex
  obtain ⟨p, vs, rfl, hp, c⟩ := h.lst w a hF
  have e := c.bls
  subst e
  exact ⟨p, bs, rfl, .inl (.inl hp), by rw [hb]; exact q⟩
theorem n_any (w : Wf F H M) (h : Rk F M v (.lst (bs.map D.bl))) (hb : bs.any id = b) (q : Q (.bl b) H) : rAny K [v] H Q := by
  obtain ⟨I, Mc, w, a, hF⟩ := w.ex
  obtain ⟨p, vs, rfl, hp, c⟩ := h.lst w a hF
  have e := c.bls
  subst e
  exact ⟨p, bs, rfl, .inl (.inl hp), by rw [hb]; exact q⟩
theorem IsA.dropLast {I : Hp} : ∀ {vs : List V} {ds : List D}, IsA I vs ds → IsA I vs.dropLast ds.dropLast
  | _, _, .nil => .nil
  | _, _, .cons _ .nil => .nil
  | _, _, .cons h (.cons h' a) => .cons h (IsA.dropLast (.cons h' a))
theorem n_pop (w : Wf F H M) (f : Foc M (.ml p ds) M' (.ml p ds.dropLast)) (hz : 0 < ds.length) (q : ∀ y H', Wf F H' M' → Q y H') : rPop (.ref p) [] H Q := by
  obtain ⟨I, Mc, w, a, hF⟩ := w.ex
  obtain ⟨M1, m, M2, rfl, h3, h4⟩ := a.foc f
  cases h3 with
  | @ml _ vs _ b =>
    have h2 : vs.length - 1 < vs.length := by have := b.length; omega
    exact ⟨p, vs, _, rfl, rfl, w.at, List.getElem?_eq_getElem h2, q _ _ ⟨I, _, w.put, h4 I _ (Same.refl _) (.ml b.dropLast), hF⟩⟩
end
end Fs

namespace Fs
open PySem PySem.Spec PyProof.Rows L2
/-! ### a method that may raise -/
structure MetX (P : Program) (w : World) (K : PySem.W.Frag) (mg : Str → Option Value) (base : Heap) (m : Str) (C : Addr) (k : Nat) (ps : List Str) (sp : Sp) : Prop where
  ex : ∃ (f : Addr) (fd : FuncData), Cls K C ∧ Meth K C m f ∧ FnOk P w K mg base (L2.CX P w) k f fd ps sp ∧ Binds K fd ps []
def tMethX (C : Addr) (m : Str) (sp : Sp) (W : WX) (ta : TE) (t : TA) : TE := fun σ H Q => ta σ H fun x H1 => MethQ C m x H1 (t σ H1 fun vs H2 => sp (x :: vs) H2 Q (WE W σ))
theorem s_methX {C : Addr} {m : Str} {sp : Sp} {W : WX} {ta : TE} {t : TA} {σ : L2.St} {H : Hp} {Q : VK} (h : ta σ H fun x H1 => MethQ C m x H1 (t σ H1 fun vs H2 => sp (x :: vs) H2 Q (WE W σ))) : tMethX C m sp W ta t σ H Q := h
section
variable {X : Cx} {m : Str} {C : Addr} {pos apos : Pos} {e o : Expr} {es : List Expr} {ta : TE} {t : TA} {k : Nat} {ps : List Str} {sp : Sp} {W : WX}
theorem pe_metX {pl : Sem Bool} (he : PE X o ta) (c : MetX X.prog X.w X.K X.mg X.base m C k ps sp) (hr : Room k X.A) (tk : Takes X W) (ha : PA X (e :: es) t)
    (hst : starEach (e :: es) X.env = (false, eval e X.env) :: starEach es X.env := by rfl) (hpl : (backTo pos (starEach es X.env)).any (·.1) = false := by rfl)
    (ht : eval (.Call (.Attribute o m apos) (e :: es) [] pos) X.env = (do
      let ov ← eval o X.env
      standAt apos.atName
      let (f, first) ← holding [ov] (getMethod ov m pl)
      callWith pos f first (backTo pos (starEach (e :: es) X.env)) (backToKw pos (keywordEach [] X.env))) := by rfl) :
    PE X (.Call (.Attribute o m apos) (e :: es) [] pos) (tMethX C m sp W ta t) := by
  obtain ⟨f, fd, cl, hm, F, hb⟩ := c.ex
  refine ⟨fun pins s σ H Q I h => ?_⟩
  refine PySem.W.methodCall_KW (pl := pl) (thn (he.run pins s σ H _ I h) fun u s1 ⟨x, H1, I1, rx, a, dx, fs, ex, ea, l, q⟩ => ?_) ht
  subst ex
  obtain rfl : u = Value.ref a := rx
  refine getmeth_ok I1 ea cl hm l ?_
  refine PySem.W.callWith_K (first := [.ref a]) (h₀ := X.base) I.ok.mod.kin hm.kp (thn (ha.run pos pins s1 σ H1 _ I1 q) fun us s2 ⟨vs, H2, I2, r, q2⟩ => ⟨I2.kIn, ?_⟩) hst hpl
  exact run_fnS (us := .ref a :: us) (vs := .ref a :: vs) F hr hb (passAt tk σ) I2 (.cons rfl r) q2
end
end Fs

namespace Fs
open PySem PySem.Spec PyProof.Rows L2
/-! ### a dict whose keys are tuples of ints, texts and None -/
def lfV : Leaf → V
  | .none => .non
  | .num i => .int i
  | .text x => .str x
def lfD : Leaf → D
  | .none => .non
  | .num i => .int i
  | .text x => .str x
theorem lfV_is {k : Leaf} {u : Value} (r : RelV (lfV k) u) : Leaf.isOf k u = true := by
  cases k with
  | none =>
    have e : u = Value.none := r
    subst e
    rfl
  | num i =>
    obtain ⟨t, e⟩ := (show ∃ t, u = Value.int i t from r)
    subst e
    exact decide_eq_true rfl
  | text x =>
    obtain ⟨t, e⟩ := (show ∃ t, u = Value.str x t from r)
    subst e
    simp [Leaf.isOf, Value.isStrOf]
theorem itemsL {P : Program} {w : World} : ∀ {ks : List Leaf} {us : List Value}, Vals (ks.map lfV) us → ItemsAre (leafKind P w) ks us
  | [], _, r => by rw [List.map_nil] at r; cases r; exact .nil
  | k :: ks, _, r => by
    rw [List.map_cons] at r
    cases r with
    | cons h t => exact .cons (lfV_is h) (itemsL t)
abbrev NE := List Leaf × Addr × V
abbrev NR (p : NE) (q : List Leaf × Addr × Value) : Prop := p.1 = q.1 ∧ p.2.1 = q.2.1 ∧ RelV p.2.2 q.2.2
def NDok (P : Program) (w : World) (a : Addr) (xs : List NE) (h : Heap) : Prop :=
  xs.length ≤ sizeLine ∧ (a == sysModules) = false ∧ ∃ ys : List (List Leaf × Addr × Value), Paired NR xs ys ∧
    ∃ o es ep, h.get? a = some o ∧ o.ExactDict ∧ o.data = .dict es ep ∧ es.toList = ys.map (entryOfKey (tupleKind (leafKind P w))) ∧ (ys.map (·.1)).Nodup
def ndO (P : Program) (w : World) (a : Addr) (xs : List NE) : HO := .ext (NDok P w a xs)
def KeysAt (H : Hp) (xs : List NE) : Prop := ∀ x ∈ xs, H x.2.1 = some (.tup (x.1.map lfV))
def getN (xs : List NE) (k : List Leaf) : Option V := (xs.find? fun x => decide (x.1 = k)).map (·.2.2)
def putN (xs : List NE) (k : List Leaf) (b : Addr) (v : V) : List NE := if (getN xs k).isSome then xs.map (fun x => if x.1 = k then (x.1, x.2.1, v) else x) else xs ++ [(k, b, v)]
theorem nr_get {xs : List NE} {ys : List (List Leaf × Addr × Value)} (r : Paired NR xs ys) (k : List Leaf) : RelO (getN xs k) ((atKey ys k).map (·.2)) := by
  induction r with
  | nil => exact True.intro
  | @cons p q ps qs h t ih =>
    obtain ⟨h1, _, h2⟩ := h
    by_cases e : p.1 = k
    · have e' : q.1 = k := h1.symm.trans e
      have b : atKey (q :: qs) k = some q.2 := by simp [atKey, List.find?_cons, e']
      have c : getN (p :: ps) k = some p.2.2 := by simp [getN, List.find?_cons, e]
      rw [c, b]; exact h2
    · have e' : ¬ q.1 = k := fun z => e (h1.trans z)
      have b : atKey (q :: qs) k = atKey qs k := by simp [atKey, List.find?_cons, e']
      have c : getN (p :: ps) k = getN ps k := by simp [getN, List.find?_cons, e]
      rw [c, b]; exact ih
theorem nr_repl {xs : List NE} {ys : List (List Leaf × Addr × Value)} (r : Paired NR xs ys) (k : List Leaf) {y : V} {u : Value} (ry : RelV y u) :
    Paired NR (xs.map fun x => if x.1 = k then (x.1, x.2.1, y) else x) (ys.map (putAt k u)) := by
  induction r with
  | nil => exact .nil
  | @cons p q ps qs h t ih =>
    rw [List.map_cons, List.map_cons]
    refine .cons ?_ ih
    obtain ⟨h1, h2, h3⟩ := h
    unfold putAt
    by_cases e : p.1 = k
    · rw [if_pos e, if_pos (h1.symm.trans e)]; exact ⟨h1, h2, ry⟩
    · rw [if_neg e, if_neg (fun z => e (h1.trans z))]; exact ⟨h1, h2, h3⟩
theorem nr_put {xs : List NE} {ys : List (List Leaf × Addr × Value)} (r : Paired NR xs ys) (k : List Leaf) (b : Addr) {y : V} {u : Value} (ry : RelV y u) : Paired NR (putN xs k b y) (storedH ys k b u) := by
  have e : (getN xs k).isSome = (atKey ys k).isSome := by rw [(nr_get r k).isSome_eq, Option.isSome_map]
  unfold putN storedH
  rw [e]
  by_cases q : (atKey ys k).isSome = true
  · rw [if_pos q, if_pos q]; exact nr_repl r k ry
  · rw [if_neg q, if_neg q]; exact Paired.snoc r ⟨rfl, rfl, ry⟩
theorem putN_len (xs : List NE) (k : List Leaf) (b : Addr) (v : V) : (putN xs k b v).length ≤ xs.length + 1 := by
  unfold putN
  split
  · rw [List.length_map]; omega
  · rw [List.length_append, List.length_singleton]; omega
section
variable {P : Program} {w : World} {H : Hp} {h : Heap} {a b : Addr} {xs : List NE}
theorem keyL_of {ks : List Leaf} (ok : HOk P w H h) (e : H a = some (.tup (ks.map lfV))) : (tupleKind (leafKind P w)).is h ks a := by
  obtain ⟨_, its, r, o, h1, h2, n, h3⟩ := (show ObjOk P w H h a (.tup (ks.map lfV)) from ok a _ e)
  exact ⟨o, its.toArray, n, h1, h2, h3, by simpa using itemsL r⟩
theorem nd_rd (ok : HOk P w H h) (e : H a = some (ndO P w a xs)) (hk : KeysAt H xs) : xs.length ≤ sizeLine ∧ (a == sysModules) = false ∧ ∃ ys, Paired NR xs ys ∧ h.DictOfH (tupleKind (leafKind P w)) a ys := by
  obtain ⟨⟨z, y, ys, r, o, es, ep, h1, h2, h3, h4, h5⟩, _⟩ := (show ObjOk P w H h a (.ext (NDok P w a xs)) from ok a _ e)
  refine ⟨z, y, ys, r, o, es, ep, h1, h2, h3, h4, fun x hx => ?_, h5⟩
  have all : ∀ {l : List NE} {m : List (List Leaf × Addr × Value)}, Paired NR l m → (∀ x ∈ l, H x.2.1 = some (.tup (x.1.map lfV))) → ∀ x ∈ m, (tupleKind (leafKind P w)).is h x.1 x.2.1 := by
    intro l m q
    induction q with
    | nil => intro _ x hx; exact nomatch hx
    | @cons p q ps qs hq t ih =>
      intro hh x hx
      rcases List.mem_cons.mp hx with e | hx
      · subst e
        have := hh p List.mem_cons_self
        rw [hq.1, hq.2.1] at this
        exact keyL_of ok this
      · exact ih (fun x hx => hh x (List.mem_cons_of_mem _ hx)) x hx
  exact all r hk x hx
theorem nd_new {H' : Hp} {h' : Heap} {ys : List (List Leaf × Addr × Value)} (z : xs.length ≤ sizeLine) (y : (a == sysModules) = false) (r : Paired NR xs ys) (dd : h'.DictOfH (tupleKind (leafKind P w)) a ys) : ObjOk P w H' h' a (ndO P w a xs) := by
  obtain ⟨o, es, ep, h1, h2, h3, h4, _, h5⟩ := dd
  refine ⟨⟨z, y, ys, r, o, es, ep, h1, h2, h3, h4, h5⟩, ⟨o, h1⟩, fun g1 g2 hg hs => ?_⟩
  obtain ⟨z, y, ys, r, o, es, ep, h1, h2⟩ := hg
  exact ⟨z, y, ys, r, o, es, ep, hs o h1, h2⟩
end
/-- what the dict at a holds at y -/
def NGet (P : Program) (w : World) (H : Hp) (a : Addr) (y : V) (r : Option V) : Prop := ∃ xs k b, H a = some (ndO P w a xs) ∧ KeysAt H xs ∧ y = .ref b ∧ H b = some (.tup (k.map lfV)) ∧ r = getN xs k
def NPut (P : Program) (w : World) (H : Hp) (a : Addr) (y v : V) (H' : Hp) : Prop := ∃ xs k b, H a = some (ndO P w a xs) ∧ KeysAt H xs ∧ y = .ref b ∧ H b = some (.tup (k.map lfV)) ∧ xs.length < sizeLine ∧ H' = upd H a (ndO P w a (putN xs k b v))
def NGetQ (P : Program) (w : World) (Q : VK) (x y : V) (H : Hp) : Prop := ∃ a v, x = .ref a ∧ NGet P w H a y (some v) ∧ Q v H
def NInQ (P : Program) (w : World) (R : Bool → Prop) (x y : V) (H : Hp) : Prop := ∃ a o, x = .ref a ∧ NGet P w H a y o ∧ R o.isSome
def NPutQ (P : Program) (w : World) (R : Hp → Prop) (x y v : V) (H : Hp) : Prop := ∃ a H4, x = .ref a ∧ NPut P w H a y v H4 ∧ R H4
def tNGet (P : Program) (w : World) (td ty : TE) : TE := fun σ H Q => td σ H fun x H1 => ty σ H1 fun y H2 => NGetQ P w Q x y H2
def tNNotIn (P : Program) (w : World) (ty td : TE) : TE := fun σ H Q => ty σ H fun y H1 => td σ H1 fun x H2 => NInQ P w (fun b => Q (.bl (!b)) H2) x y H2
def sNPut (P : Program) (w : World) (td ty tv : TE) : TS := fun D σ H => tv σ H fun v H1 => td σ H1 fun x H2 => ty σ H2 fun y H3 => NPutQ P w (fun H4 => D.nx σ H4) x y v H3
def tNNew (P : Program) (w : World) : TE := fun _ H Q => ∀ p, H p = none → Q (.ref p) (upd H p (ndO P w p []))
section
variable {X : Cx} {o i value : Expr} {pos pos' : Pos} {td ty tv : TE} {P : Program} {w : World}
theorem pe_nget (hP : X.prog = P) (hw : X.w = w) (hu : X.A.units + 1 < cLine) (ho : PE X o td) (hi : PE X i ty) (hs : NoSl i) : PE X (.Subscript o i pos) (tNGet P w td ty) := by
  subst hP hw
  refine ⟨fun pins s σ H Q I h => ?_⟩
  refine subD_of PySem.F.slot_dict_getitem.lookup hs (thn (ho.run pins s σ H _ I h) fun u s1 ⟨x, H1, I1, rx, q1⟩ => thn (hi.run pins s1 σ H1 _ I1 q1) fun iv s2 ⟨y, H2, I2, ry, a, v, ex, g, q2⟩ => ?_)
  subst ex
  obtain rfl : u = Value.ref a := rx
  obtain ⟨xs, k, b, e, hk, ey, eb, l⟩ := g
  subst ey
  obtain rfl : iv = Value.ref b := ry
  obtain ⟨z, hd, ys, rel, dd⟩ := nd_rd I2.hok e hk
  refine ⟨dd.typeIs, ?_⟩
  obtain ⟨w', hw, rw'⟩ := RelO.some_of (v := v) (o := (atKey ys k).map (·.2)) (by rw [l]; exact nr_get rel k)
  obtain ⟨p, hp, hp2⟩ := Option.map_eq_some_iff.mp hw
  refine wpAny_getItem_heap (tupleKind_room_in1 hu) (keyL_of I2.hok eb) dd hp ?_
  rw [hp2]
  exact ⟨v, H2, I2.tok _, rw', q2⟩
theorem pc_nnotin (hP : X.prog = P) (hw : X.w = w) (hu : X.A.units + 1 < cLine) (hi : PE X i ty) (ho : PE X o td) : PC X .NotIn i o (tNNotIn P w ty td) := by
  subst hP hw
  refine ⟨fun pins s σ H Q I h => ?_⟩
  refine thn (hi.run pins s σ H _ I h) fun iv s1 ⟨y, H1, I1, ry, q1⟩ => thn (ho.run pins s1 σ H1 _ I1 q1) fun u s2 ⟨x, H2, I2, rx, a, ov, ex, g, q2⟩ => ?_
  subst ex
  obtain rfl : u = Value.ref a := rx
  obtain ⟨xs, k, b, e, hk, ey, eb, l⟩ := g
  subst ey
  obtain rfl : iv = Value.ref b := ry
  obtain ⟨z, hd, ys, rel, dd⟩ := nd_rd I2.hok e hk
  refine wpAny_notIn_heap (tupleKind_room_in1 hu) (keyL_of I2.hok eb) hd dd ?_
  have q := (nr_get rel k).isSome_eq
  rw [Option.isSome_map] at q
  rw [← q, ← l]
  exact ⟨.bl (!ov.isSome), H2, I2.tok _, rfl, q2⟩
theorem ps_nput (hP : X.prog = P) (hw : X.w = w) (hu : X.A.units + 1 < cLine) (ho : PE X o td) (hi : PE X i ty) (hv : PE X value tv) (hs : swapsWith value (some (.Subscript o i pos')) pos.line X.env = pure false) :
    PS X (.Assign [.Subscript o i pos'] value pos) (sNPut P w td ty tv) := by
  subst hP hw
  refine ⟨fun pins s σ H D I h => ?_⟩
  refine wpAny_Assign_Subscript (thn (hv.run pins s σ H _ I h) fun r s1 ⟨v, H1, I1, rv, q1⟩ => thn (ho.run pins s1 σ H1 _ I1 q1) fun u s2 ⟨x, H2, I2, rx, q2⟩ => thn (hi.run pins s2 σ H2 _ I2 q2) fun iv s3 ⟨y, H3, I3, ry, a, H4, ex, g, q3⟩ => ?_) hs
  subst ex
  obtain rfl : u = Value.ref a := rx
  obtain ⟨xs, k, b, e, hk, ey, eb, hl, rfl⟩ := g
  subst ey
  obtain rfl : iv = Value.ref b := ry
  obtain ⟨z, hd, ys, rel, dd⟩ := nd_rd I3.hok e hk
  have hz : ys.length ≤ sizeLine := by rw [← Paired.length rel]; exact z
  have hl2 : (putN xs k b v).length ≤ sizeLine := by have := putN_len xs k b v; omega
  refine wpAny_setItem_heap (hsz := hz) (tupleKind_room_in1 hu) (keyL_of I3.hok eb) dd fun h' dd' hs => ⟨σ, _, ?_, q3⟩
  have he : ∃ q, h'.get? a = some q := let ⟨q, _, _, hq, _⟩ := dd'; ⟨q, hq⟩
  exact d_write I3 (by rw [e]; exact True.intro) hs he (nd_new hl2 hd (nr_put rel k b rv) dd')
theorem pe_nnew (hP : X.prog = P) (hw : X.w = w) : PE X (.Dict [] [] pos) (tNNew P w) := by
  subst hP hw
  exact ⟨fun pins s σ H Q I h =>
    wpAny_Dict_empty ⟨.ref s.heap.objs.size, _, I.laid (a := s.heap.objs.size) (o := ndO X.prog X.w s.heap.objs.size []) (t' := s.toks) (fun _ _ q => Heap.get?_push_of_some _ q) (Nat.le_refl _)
      (nd_new (Nat.zero_le _) (beq_eq_false_iff_ne.mpr (Ne.symm (Nat.ne_of_lt I.big))) .nil ⟨_, #[], 0, Heap.get?_push_size _ rfl, ⟨rfl, rfl, rfl⟩, rfl, rfl, fun _ h => (nomatch h), List.nodup_nil⟩), rfl, h _ (I.hok.fresh (Nat.le_refl _))⟩⟩
end
theorem kit_self {K : PySem.W.Frag} {C : Addr} : PySem.W.kitOne K (.ref C) (.ref C) = some true := if_pos (beq_self_eq_true _)
section
variable {P : Program} {w : World} {K : PySem.W.Frag} {σ : L2.St} {H : Hp} {F : List (V × D)} {M M' : List ME} {Q : VK} {G : Ends} {v y : V} {p : Addr} {xs : List NE} {k : List Leaf}
theorem s_nget {td ty : TE} (h : td σ H fun x H1 => ty σ H1 fun y H2 => NGetQ P w Q x y H2) : tNGet P w td ty σ H Q := h
theorem s_nnotin {td ty : TE} (h : ty σ H fun y H1 => td σ H1 fun x H2 => NInQ P w (fun b => Q (.bl (!b)) H2) x y H2) : tNNotIn P w ty td σ H Q := h
theorem s_nput {td ty tv : TE} (h : tv σ H fun v H1 => td σ H1 fun x H2 => ty σ H2 fun y H3 => NPutQ P w (fun H4 => G.nx σ H4) x y v H3) : sNPut P w td ty tv G σ H := h
theorem s_nnew (ww : Wf F H M) (q : ∀ p H', Wf F H' (.raw p (ndO P w p []) :: M) → Q (.ref p) H') : tNNew P w σ H Q := fun p hp => q p _ (ww.newRaw hp)
/-- all keys of the dict are known -/
def KnK (F : List (V × D)) (xs : List NE) : Prop := ∀ x ∈ xs, Kn F (.ref x.2.1) (.tup (x.1.map lfD))
theorem isA_leafs {I : Hp} : ∀ {k : List Leaf} {vs : List V}, IsA I vs (k.map lfD) → vs = k.map lfV
  | [], _, h => by cases h; rfl
  | c :: cs, _, h => by
    cases h with
    | cons h1 h2 =>
      rw [isA_leafs h2]
      cases c <;> cases h1 <;> rfl
theorem Wf.keyL (ww : Wf F H M) (h : Rk F M y (.tup (k.map lfD))) : ∃ b, y = .ref b ∧ H b = some (.tup (k.map lfV)) := by
  obtain ⟨I, Mc, ww, a, hF⟩ := ww.ex
  obtain ⟨p, vs, rfl, hp, b⟩ := h.tup ww a hF
  exact ⟨p, rfl, by rw [hp, isA_leafs b]⟩
theorem Kn.rkT {ds : List D} (h : Kn F v (.tup ds)) : Rk F M v (.tup ds) := Rk.of h fun q => by rcases q with ⟨n, e⟩ | ⟨n, e⟩ <;> cases e
theorem KnK.at (ww : Wf F H M) (h : KnK F xs) : KeysAt H xs := fun x hx => by
  obtain ⟨b, e, hb⟩ := ww.keyL (M := M) (h x hx).rkT
  cases e
  exact hb
theorem n_nget {v : V} (ww : Wf F H M) (h : .raw p (ndO P w p xs) ∈ M) (hk : KnK F xs) (hy : Rk F M y (.tup (k.map lfD))) (hg : getN xs k = some v) (q : Q v H) : NGetQ P w Q (.ref p) y H := by
  obtain ⟨b, rfl, hb⟩ := ww.keyL hy
  exact ⟨p, v, rfl, ⟨xs, k, b, ww.rawAt h, hk.at ww, rfl, hb, hg.symm⟩, q⟩
theorem n_nin {R : Bool → Prop} (ww : Wf F H M) (h : .raw p (ndO P w p xs) ∈ M) (hk : KnK F xs) (hy : Rk F M y (.tup (k.map lfD))) (q : R (getN xs k).isSome) : NInQ P w R (.ref p) y H := by
  obtain ⟨b, rfl, hb⟩ := ww.keyL hy
  exact ⟨p, _, rfl, ⟨xs, k, b, ww.rawAt h, hk.at ww, rfl, hb, rfl⟩, q⟩
theorem n_nput {R : Hp → Prop} {M2 : HO → List ME} (ww : Wf F H M) (f : ∀ o', Foc M (.raw p (ndO P w p xs)) (M2 o') (.raw p o')) (hk : KnK F xs) (hy : Rk F M y (.tup (k.map lfD))) (hl : xs.length ≤ 100000) (q : ∀ b H', y = .ref b → Wf F H' (M2 (ndO P w p (putN xs k b v))) → R H') : NPutQ P w R (.ref p) y v H := by
  obtain ⟨b, rfl, hb⟩ := ww.keyL hy
  have h : .raw p (ndO P w p xs) ∈ M := (f (.lst [])).mem
  refine ⟨p, _, rfl, ⟨xs, k, b, ww.rawAt h, hk.at ww, rfl, hb, Nat.lt_of_le_of_lt hl (by decide), rfl⟩, q b _ rfl ?_⟩
  exact ww.put (f _) fun I m hF c => by cases c; exact ⟨rfl, .raw fun _ e => nomatch e⟩
end
/-! ### a list that may be changed, handed to a def of the elder form -/
theorem Rem.of {M : List ME} {e : ME} (h : e ∈ M) : ∃ M', Rem M e M' := by
  induction M with
  | nil => cases h
  | cons x M ih =>
    rcases List.mem_cons.mp h with rfl | h
    · exact ⟨M, .here⟩
    · obtain ⟨M', r⟩ := ih h
      exact ⟨x :: M', .there r⟩
theorem Wf.oldL {F : List (V × D)} {H : Hp} {M M' : List ME} {p : Addr} {ds : List D} (w : Wf F H M) (r : Rem M (.ml p ds) M') : ∃ I Mc, W I H Mc ∧ Is I (.ref p) (.lst ds) ∧ (∀ v d, Kn F v d → Is I v d) ∧ (∀ J H', Same I J → W J H' Mc → Wf F H' M) ∧ ∀ J H' u a b, Same I J → W J H' Mc → Is J u (.tup [.int a, .int b]) → Wf ((u, .tup [.int a, .int b]) :: F) H' M := by
  obtain ⟨I, Mc, w, ac, hF⟩ := w.ex
  obtain ⟨M1, m, M2, rfl, h1, h2⟩ := ac.rem r
  cases h1 with
  | @ml _ vs _ b =>
    have hI : I p = none := (w.mu _ (List.mem_append_right _ List.mem_cons_self)).2
    have go : ∀ J H', Same (upd I p (.lst vs)) J → W J H' (M1 ++ M2) → Same I (fun x => if x = p then none else J x) ∧ W (fun x => if x = p then none else J x) H' (M1 ++ (p, .lst vs) :: M2) := fun J H' s w' => by
      have hJ : J p = some (.lst vs) := s _ _ upd_same
      refine ⟨fun c x e => ?_, fun c x e => ?_, fun x hx => ?_, w.nd⟩
      · have ne : c ≠ p := fun q => by rw [q, hI] at e; cases e
        show (if c = p then none else J c) = some x
        rw [if_neg ne]
        exact s _ _ (by rw [upd_ne ne]; exact e)
      · have e' : (if c = p then none else J c) = some x := e
        by_cases ne : c = p
        · rw [if_pos ne] at e'; cases e'
        · rw [if_neg ne] at e'
          exact w'.imm _ _ e'
      · rcases List.mem_append.mp hx with hx | hx
        · obtain ⟨q1, q2⟩ := w'.mu x (List.mem_append_left _ hx)
          exact ⟨q1, by show (if x.1 = p then none else J x.1) = none; rw [q2]; split <;> rfl⟩
        · rcases List.mem_cons.mp hx with rfl | hx
          · exact ⟨w'.imm _ _ hJ, if_pos rfl⟩
          · obtain ⟨q1, q2⟩ := w'.mu x (List.mem_append_right _ hx)
            exact ⟨q1, by show (if x.1 = p then none else J x.1) = none; rw [q2]; split <;> rfl⟩
    refine ⟨upd I p (.lst vs), M1 ++ M2, w.frz, .lst upd_same (b.mono w.frzS), fun v d h => (h.is hF).mono w.frzS, fun J H' s w' => ?_, fun J H' u x y s w' hu => ?_⟩
    · obtain ⟨g1, g2⟩ := go J H' s w'
      exact ⟨_, _, g2, ac.mono g1, fun f hf => (hF f hf).mono g1⟩
    · obtain ⟨g1, g2⟩ := go J H' s w'
      refine ⟨_, _, g2, ac.mono g1, fun f hf => ?_⟩
      rcases List.mem_cons.mp hf with rfl | hf
      · have hJ : J p = some (.lst vs) := s _ _ upd_same
        obtain ⟨q, us, e, hq, hh⟩ := hu.tup_ex
        subst e
        have ne : q ≠ p := fun z => by rw [z, hJ] at hq; cases hq
        refine .tup (show (if q = p then none else J q) = some (.tup us) by rw [if_neg ne]; exact hq) ?_
        cases hh with
        | cons k1 hh =>
          cases hh with
          | cons k2 hh =>
            cases hh
            cases k1
            cases k2
            exact .cons (.int _) (.cons (.int _) .nil)
      · exact (hF f hf).mono g1
/-- .. or for good -/
theorem Wf.oldR {F : List (V × D)} {H : Hp} {M : List ME} {v : V} {ds : List D} (w : Wf F H M) (h : Rk F M v (.lst ds)) : ∃ I Mc, W I H Mc ∧ Is I v (.lst ds) ∧ (∀ v d, Kn F v d → Is I v d) ∧ (∀ J H', Same I J → W J H' Mc → Wf F H' M) ∧ ∀ J H' u a b, Same I J → W J H' Mc → Is J u (.tup [.int a, .int b]) → Wf ((u, .tup [.int a, .int b]) :: F) H' M := by
  cases h with
  | mem h =>
    obtain ⟨I, Mc, w, is, k1, k2⟩ := w.old
    exact ⟨I, Mc, w, is _ _ (.mem h), is, k1, fun J H' u a b s w' hu => k2 J H' u _ s w' hu⟩
  | ml h =>
    obtain ⟨M', r⟩ := Rem.of h
    exact w.oldL r
end Fs

namespace Fs
open PySem PySem.Spec PyProof.Rows L2
theorem s_rng2 {σ : L2.St} {H : Hp} {ta : TA} {R : It → Hp → Prop} (h : ta σ H fun vs H1 => ∃ i j : Int, vs = [.int i, .int j] ∧ (-(2 ^ 62) ≤ i ∧ i < 2 ^ 62 ∧ -(2 ^ 62) ≤ j ∧ j < 2 ^ 62) ∧ R (Itr i (j - i).toNat) H1) : iRng2 ta σ H R := h
theorem s_rng2' {P : Int → Int → Prop} {i j : Int} (h1 : -(2 ^ 62) ≤ i) (h2 : i < 2 ^ 62) (h3 : -(2 ^ 62) ≤ j) (h4 : j < 2 ^ 62) (h : P i j) : ∃ i' j' : Int, [V.int i, V.int j] = [.int i', .int j'] ∧ (-(2 ^ 62) ≤ i' ∧ i' < 2 ^ 62 ∧ -(2 ^ 62) ≤ j' ∧ j' < 2 ^ 62) ∧ P i' j' := ⟨i, j, rfl, ⟨h1, h2, h3, h4⟩, h⟩
section
variable {K : PySem.W.Frag} {σ : L2.St} {H : Hp} {F : List (V × D)} {M M' : List ME} {Q : VK} {G : Ends} {v u x y : V} {ds es : List D} {g : TG} {tb : TS} {te : TE} {tt : TT} {a b : Addr} {J : It} {n : Nat} {f : Nat → D} {OK : List (V × D) → List ME → Prop}
/-- any comprehension, what is known and what may be changed goes along -/
theorem n_lcK {xs : List Nat} (S : Src J n f OK) (w : Wf F H M) (R : Nat → List D → List (V × D) → List ME → Prop) (okm : ∀ i D acc F M, R i acc F M → OK F (.ml D acc :: M)) (h0 : R 0 [] F M) (hn : n ≤ 100000)
    (step : ∀ i x D acc H0 F M (Ap : VK) (Sk : Hp → Prop), i < n → R i acc F M → Wf ((x, f i) :: F) H0 (.ml D acc :: M) → (∀ y d H4 F' M', Wf ((y, d) :: F') H4 (.ml D acc :: M') → R (i + 1) (acc ++ [d]) F' M' → Ap y H4) → (∀ H3 F' M', Wf F' H3 (.ml D acc :: M') → R (i + 1) acc F' M' → Sk H3) →
      g x (wipe σ xs) H0 fun σ2 H2 => wipe σ2 xs = wipe σ xs ∧ tt σ2 H2 fun b H3 => if b = true then te σ2 H3 Ap else Sk H3)
    (q : ∀ p es H' F' M', R n es F' M' → Wf F' H' (.ml p es :: M') → Q (.ref p) H') : LcGo J g tt te xs σ Q H := by
  intro D nD
  have w0 : Wf F (upd H D (.lst [])) (.ml D [] :: M) := by
    obtain ⟨I, Mc, w, a, hF⟩ := w.ex
    exact ⟨I, _, w.newM nD, .cons (.ml .nil) a, hF⟩
  refine ⟨fun i m H => m = n - i ∧ i ≤ n ∧ ∃ acc F M, R i acc F M ∧ acc.length ≤ i ∧ Wf F H (.ml D acc :: M), ⟨n, rfl, Nat.zero_le _, [], F, M, h0, Nat.le_refl _, w0⟩, ?_⟩
  rintro i m H ⟨rfl, hi, acc, F, M, hR, hl, w⟩
  by_cases hlt : i < n
  · refine .inr ⟨S.go i H _ _ hlt (okm _ _ _ _ _ hR) w, fun H' => ∃ acc F M, R (i + 1) acc F M ∧ acc.length ≤ i + 1 ∧ Wf F H' (.ml D acc :: M), fun H' ⟨acc', F', M', h1, h2, h3⟩ => ⟨n - (i + 1), by omega, rfl, hlt, acc', F', M', h1, h2, h3⟩, fun x H' y => ?_⟩
    refine step i x D acc H' F M _ _ hlt hR (S.yld i H _ _ x H' hlt (okm _ _ _ _ _ hR) w y) (fun y d H4 F' M' w4 r => ?_) fun H3 F' M' w3 r => ⟨acc, F', M', r, by omega, w3⟩
    obtain ⟨vs, h1, h2⟩ := w4.lstAt List.mem_cons_self
    have w5 : Wf F' (upd H4 D (.lst (vs ++ [y]))) (.ml D (acc ++ [d]) :: M') := by
      obtain ⟨I, Mc, w, a, hF⟩ := w4.ex
      cases a with
      | cons h a =>
        cases h with
        | ml b =>
          have := w.at0
          rw [this] at h1
          cases h1
          exact ⟨I, _, w.put0, .cons (.ml (b.app (.one (hF _ List.mem_cons_self)))) a, fun f hf => hF f (List.mem_cons_of_mem _ hf)⟩
    exact ⟨vs, h1, by rw [h2]; exact Nat.lt_of_le_of_lt hl (Nat.lt_of_lt_of_le hlt (Nat.le_trans hn (by decide))), acc ++ [d], F', M', r, by rw [List.length_append]; exact Nat.add_le_add_right hl 1, w5⟩
  · have e : i = n := by omega
    subst e
    exact .inl ⟨S.stop H _ _ (okm _ _ _ _ _ hR) w, q D acc H F M hR w⟩
theorem n_lcKL {xs : List Nat} (w : Wf F H M) (R : Nat → List D → List (V × D) → List ME → Prop) (hv : ∀ i acc F M, R i acc F M → Rk F M v (.lst ds)) (h0 : R 0 [] F M) (hn : ds.length ≤ 100000)
    (step : ∀ i d x D acc H0 F M (Ap : VK) (Sk : Hp → Prop), ds[i]? = some d → R i acc F M → Wf ((x, d) :: F) H0 (.ml D acc :: M) → (∀ y d H4 F' M', Wf ((y, d) :: F') H4 (.ml D acc :: M') → R (i + 1) (acc ++ [d]) F' M' → Ap y H4) → (∀ H3 F' M', Wf F' H3 (.ml D acc :: M') → R (i + 1) acc F' M' → Sk H3) →
      g x (wipe σ xs) H0 fun σ2 H2 => wipe σ2 xs = wipe σ xs ∧ tt σ2 H2 fun b H3 => if b = true then te σ2 H3 Ap else Sk H3)
    (q : ∀ p es H' F' M', R ds.length es F' M' → Wf F' H' (.ml p es :: M') → Q (.ref p) H') : ∃ a, v = .ref a ∧ (∃ xs, SqL K H a xs) ∧ LcGo (Itl K a) g tt te xs σ Q H := by
  obtain ⟨I, Mc, p, vs, rfl, w1, ac, hF, hp, b⟩ := w.lstE (hv _ _ _ _ h0)
  refine ⟨p, rfl, ⟨vs, .inl (.inl hp)⟩, n_lcK src_list w R (fun i D acc F M h => (hv _ _ _ _ h).more) h0 hn (fun i x D acc H0 F M Ap Sk hi hR w k1 k2 => ?_) q⟩
  have e1 : ds[i]? = some ds[i] := List.getElem?_eq_getElem hi
  rw [getD_of e1] at w
  exact step i _ x D acc H0 F M Ap Sk e1 hR w k1 k2
end
/-! ### whether a number is among some -/
theorem k_in {X : Cx} {K : PySem.W.Frag} (h : X.K = K) : OpR X (compareOp .In) (rIn K false) := h ▸ op_in_seq
theorem k_notin {X : Cx} {K : PySem.W.Frag} (h : X.K = K) : OpR X (compareOp .NotIn) (rIn K true) := h ▸ op_notIn_seq
theorem inV_ints (n : Int) : ∀ ns : List Int, inV (.int n) (ns.map V.int) = decide (n ∈ ns)
  | [] => rfl
  | m :: ns => by
    have := inV_ints n ns
    unfold inV at this ⊢
    rw [List.map_cons, List.any_cons, this]
    have e : eqV (.int m) (.int n) = decide (n = m) := by
      show (m == n) = _
      by_cases h : n = m
      · subst h; simp
      · have h2 : m ≠ n := fun z => h z.symm
        simp [h, h2]
    rw [e]
    simp only [List.mem_cons, Bool.decide_or]
theorem flat_ints : ∀ ns : List Int, (ns.map V.int).all flatV = true
  | [] => rfl
  | _ :: ns => by rw [List.map_cons, List.all_cons, flat_ints ns]; rfl
section
variable {K : PySem.W.Frag} {H : Hp} {F : List (V × D)} {M : List ME} {Q : VK} {v : V}
theorem n_in {ns : List Int} {n : Int} (w : Wf F H M) (h : Rk F M v (.lst (ns.map D.int))) (q : Q (.bl (decide (n ∈ ns))) H) : rIn K false (.int n) v H Q := by
  obtain ⟨p, rfl, hp⟩ := w.ints h
  exact ⟨p, _, rfl, .inl (.inl (.inl hp)), rfl, flat_ints ns, by rw [inV_ints]; exact q⟩
theorem n_notin {ns : List Int} {n : Int} (w : Wf F H M) (h : Rk F M v (.lst (ns.map D.int))) (q : Q (.bl (!decide (n ∈ ns))) H) : rIn K true (.int n) v H Q := by
  obtain ⟨p, rfl, hp⟩ := w.ints h
  exact ⟨p, _, rfl, .inl (.inl (.inl hp)), rfl, flat_ints ns, by rw [inV_ints]; exact q⟩
end
def natD (n : Nat) : D := .int n
def nz (l : List Nat) : List Int := l.map fun e : Nat => (e : Int)
theorem natD_map (l : List Nat) : l.map natD = (nz l).map D.int := by unfold nz; rw [List.map_map]; rfl
theorem mem_nz {l : List Nat} {e : Nat} : (e : Int) ∈ nz l ↔ e ∈ l := by
  unfold nz
  rw [List.mem_map]
  constructor
  · rintro ⟨a, h, e⟩
    have : a = _ := Int.ofNat.inj e
    exact this ▸ h
  · exact fun h => ⟨e, h, rfl⟩
/-! ### list(d): the keys of a dict -/
def LdQ (Q : VK) (xs : List V) (H : Hp) : Prop := ∃ (a : Addr) (kvs : List (Key × V)), xs = [.ref a] ∧ Rd H a (.dK kvs) ∧ ∀ p, H p = none → Q (.ref p) (upd H p (.lst (kvs.map fun kv => kV kv.1)))
theorem k_listD {X : Cx} (hc : X.calm = true) : CallR X (.type "list") (fun xs H Q => LdQ Q xs H) := call_listD hc
theorem IsP.keys {I : Hp} : ∀ {vs : List (Key × V)} {ds : List (Key × D)}, IsP I vs ds → IsA I (vs.map fun kv => kV kv.1) (ds.map fun kv => keyD kv.1)
  | _, _, .nil => .nil
  | _, _, .cons (f := k) h a => .cons (by cases k with | inl i => exact .int i | inr i => exact .str i) (IsP.keys a)
theorem n_listD {H : Hp} {F : List (V × D)} {M : List ME} {Q : VK} {p : Addr} {kvs : List (Key × D)} (w : Wf F H M) (h : .dk p kvs ∈ M) (q : ∀ l H', Wf F H' (.ml l (kvs.map fun kv => keyD kv.1) :: M) → Q (.ref l) H') : LdQ Q [.ref p] H := by
  obtain ⟨I, Mc, vs, w, a, hF, hp, ha⟩ := w.dkAt h
  exact ⟨p, vs, rfl, .inl hp, fun l hl => q l _ ⟨I, _, w.newM hl, .cons (.ml ha.keys) a, hF⟩⟩
end Fs

namespace Fs
open PySem PySem.Spec PyProof.Rows L2
/-! ### sorted(d, reverse=True): the keys of d are pairs of ints -/
def pairAt (H : Hp) : V → Int × Int
  | .ref a => match H a with
    | some (.tup [.int i, .int j]) => (i, j)
    | _ => (0, 0)
  | _ => (0, 0)
def ndK (n : Int × Int) : List Key := [.inl n.1, .inl n.2]
def lexGe (a b : Int × Int) : Prop := b.1 < a.1 ∨ (a.1 = b.1 ∧ b.2 ≤ a.2)
def rSortRevT : List V → List V → Hp → VK → Prop := fun vs zs H Q => ∃ (d : Addr) (kvs : List (List Key × V)) (ns : List (Int × Int)), vs = [.ref d] ∧ zs = [.bl true] ∧ Rd H d (.dT kvs) ∧ kvs.map (·.1) = ns.map ndK ∧
  ∀ (ms : List (Int × Int)) (bs : List Addr) (p : Addr), ms.Perm ns → ms.Pairwise lexGe → bs.length = ms.length → (∀ (i : Nat) (b : Addr) (m : Int × Int), bs[i]? = some b → ms[i]? = some m → H b = some (.tup [.int m.1, .int m.2])) → H p = none → Q (.ref p) (upd H p (.lst (bs.map V.ref)))
theorem keyAcc {P : Program} {w : World} {es : Array DictEntry} {ks : List (List Key × Addr × Value)} {acc : Array Value} (he : es.toList = ks.map (entryOfKey (tupleKind (mixKind P w)))) (it : ItemsOf (fun i v => ∃ en : DictEntry, es[i]? = some en ∧ v = en.key) acc es.size) : acc.toList = (ks.map fun x => x.2.1).map Value.ref := by
  have l1 : acc.toList.length = ks.length := by
    rw [Array.length_toList, it.1, ← Array.length_toList, he, List.length_map]
  refine List.ext_getElem (by rw [l1, List.length_map, List.length_map]) fun j h1 h2 => ?_
  have hj : j < ks.length := by omega
  obtain ⟨en, q1, q2⟩ := it.2 j _ (by rw [← Array.getElem?_toList]; exact List.getElem?_eq_getElem h1)
  have q3 : es.toList[j]? = some en := by rw [Array.getElem?_toList]; exact q1
  rw [he, List.getElem?_map, List.getElem?_eq_getElem hj] at q3
  rw [q2, ← Option.some.inj q3, List.getElem_map, List.getElem_map]
  rfl
theorem kt_keys {H : Hp} {kvs : List (List Key × V)} {ks : List (List Key × Addr × Value)} (r : KT H kvs ks) : ∀ {ns : List (Int × Int)}, kvs.map (·.1) = ns.map ndK → (ks.map fun x => pairAt H (.ref x.2.1)) = ns ∧ ∀ x ∈ ks, ∃ n : Int × Int, H x.2.1 = some (.tup [.int n.1, .int n.2]) := by
  induction r with
  | nil =>
    intro ns e
    cases ns with
    | nil => exact ⟨rfl, fun _ h => (nomatch h)⟩
    | cons n ns => cases e
  | @cons p q ps qs h t ih =>
    intro ns e
    cases ns with
    | nil => cases e
    | cons n ns =>
      injection e with e1 e2
      obtain ⟨i1, i2⟩ := ih e2
      have h2 := h.2.1
      rw [show p.1 = ndK n from e1] at h2
      have h3 : H q.2.1 = some (.tup [.int n.1, .int n.2]) := h2
      refine ⟨?_, fun x hx => ?_⟩
      · rw [List.map_cons, i1]
        congr 1
        show (match H q.2.1 with | some (.tup [.int i, .int j]) => (i, j) | _ => (0, 0)) = n
        rw [h3]
      · rcases List.mem_cons.mp hx with rfl | hx
        · exact ⟨n, h3⟩
        · exact i2 x hx
section
variable {X : Cx}
theorem cr_sortedRevT (hc : X.calm = true) : CallRK X (.builtin "sorted") [Str.ofString "reverse"] rSortRevT := by
  intro pins s σ H vs zs us ws Q I r rz h
  obtain ⟨d, kvs, ns, rfl, rfl, hd, hk, q⟩ := h
  obtain rfl := Vals.ref1 r
  obtain ⟨w1, rfl, e1⟩ := vals1 rz
  obtain rfl : w1 = Value.bool true := e1
  obtain ⟨z, hs, ks, pr, o, es, ep, ho, hx, hdt, he, hn⟩ := (show ObjOk X.prog X.w H s.heap d (.dT kvs) from hd.ok I.hok)
  have lk : kvs.length = ks.length := Paired.length pr
  have le : es.size = ks.length := by rw [← Array.length_toList, he, List.length_map]
  refine call_function_entry_kw kind_sorted plain_sorted entry_sorted (args_sorted_rev _ _) ?_
  unfold Builtin.«sorted»
  refine wpAny_bind (m := checkCount "sorted" 1 1 _) (wpAny_pure ?_)
  refine wpAny_bind (PySem.W.kdu_collect (A := X.A.in1) (kdl_raw hs hx hdt) (I.ok.hd hc) ho (by omega) fun h' tk acc kp hacc => ?_)
  have ea := keyAcc he hacc
  have hsz : acc.toList.length = ks.length := by rw [ea]; simp
  obtain ⟨hns, hkey⟩ := kt_keys pr hk
  have hit : ∀ v ∈ acc.toList, ∃ b, v = Value.ref b ∧ ∃ n : Int × Int, H b = some (.tup [.int n.1, .int n.2]) := fun v hv => by
    rw [ea, List.map_map] at hv
    obtain ⟨x, hx, rfl⟩ := List.mem_map.mp hv
    exact ⟨_, rfl, hkey x hx⟩
  have hpa : ∀ b (n : Int × Int), H b = some (.tup [.int n.1, .int n.2]) → pairAt H (.ref b) = n := fun b n e => by
    show (match H b with | some (.tup [.int i, .int j]) => (i, j) | _ => (0, 0)) = n
    rw [e]
  refine wpAny_bind (wpAny_newList ?_ (by omega))
  have hoL : (h'.push (seqObj "list" acc.toList.toArray 0)).get? h'.objs.size = some (seqObj "list" acc.toList.toArray 0) := Heap.get?_push_size _ rfl
  refine wpAny_bind (wpAny_holding (wpAny_call_entry_kw slot_list_sort ⟨_, hoL, rfl⟩ entry_list_sort ?_ (args_list_sort_rev _ _)))
  refine SrtR.list_sort_ordR (SrtO.swo_lex fun u => pairAt H (backV u)) hoL (by omega) (fun h2 => ?_) fun out h1 h2 => ⟨_, rfl, ?_⟩
  · refine SrtO.pairs_sortableO (by omega) (fun v hv => ?_) fun o e => ?_
    · obtain ⟨b, rfl, n, hb⟩ := hit v hv
      obtain ⟨_, its2, r2, o2, ho2, hc2, n2, hd2⟩ := I.hok _ _ hb
      obtain ⟨u1, u2, rfl, ri, rj⟩ := vals2 r2
      obtain ⟨t1, rfl⟩ := ri
      obtain ⟨t2, rfl⟩ := rj
      rw [show pairAt H (backV (.ref b)) = n from hpa b n hb]
      exact ⟨b, o2, t1, t2, n2, rfl, Heap.get?_push_of_some _ (kp _ _ ho2), hc2, hd2⟩
    · have e' := Option.some.inj (e.symm.trans hoL)
      rw [e']
      intro c
      exact absurd (Value.type.inj c) (by decide)
  · refine wpAny_pure ⟨_, rfl, ?_⟩
    have h3 : ∀ u ∈ out, u ∈ acc.toList := fun u hu => List.mem_reverse.mp (h2.perm.mem_iff.mp hu)
    have hn1 : H h'.objs.size = none := (I.hok.kept kp).fresh (Nat.le_refl _)
    have hn2 : s.heap.get? h'.objs.size = none := by
      cases e : s.heap.get? h'.objs.size with
      | none => rfl
      | some u => exact absurd (Heap.lt_size (kp _ _ e)) (Nat.lt_irrefl _)
    obtain ⟨c, hfin⟩ := PyProof.Rows.sortedHeap_at (out := out.toArray.reverse) hoL
    have hlen : out.length = ks.length := by rw [h2.len]; simp [ea]
    have e0 : (if True then out.toArray.reverse else out.toArray) = out.reverse.toArray := by simp
    refine ⟨.ref _, upd H h'.objs.size (.lst ((out.reverse.map fun u => match u with | .ref a => a | _ => 0).map V.ref)), I.laidN (t' := tk) (fun b u e => ?_) hn2 hn1 ⟨?_, out.reverse, c, ?_, ?_⟩, rfl, q (out.reverse.map fun u => pairAt H (backV u)) (out.reverse.map fun u => match u with | .ref a => a | _ => 0) h'.objs.size ?_ ?_ (by simp) (fun i b m hb hm => ?_) hn1⟩
    · have hb := Heap.lt_size (kp _ _ e)
      rw [PyProof.Rows.sortedHeap_old (Nat.ne_of_lt hb) (by rw [size_push']; exact Nat.lt_succ_of_lt hb)]
      exact Heap.get?_push_of_some _ (kp _ _ e)
    · rw [List.length_map, List.length_map, List.length_reverse, hlen]; omega
    · rw [List.map_map]
      have : ∀ l : List Value, (∀ u ∈ l, ∃ b, u = Value.ref b) → Vals (l.map (V.ref ∘ fun u => match u with | .ref a => a | _ => 0)) l := fun l => by
        induction l with
        | nil => exact fun _ => .nil
        | cons u l ih =>
          intro hl
          obtain ⟨b, rfl⟩ := hl u List.mem_cons_self
          exact .cons rfl (ih fun v hv => hl v (List.mem_cons_of_mem _ hv))
      exact this _ fun u hu => by
        obtain ⟨b, e, _⟩ := hit u (h3 u (List.mem_reverse.mp hu))
        exact ⟨b, e⟩
    · simpa using hfin
    · have h4 : (out.reverse.map fun u => pairAt H (backV u)).Perm (acc.toList.map fun u => pairAt H (backV u)) := ((List.reverse_perm _).trans (h2.perm.trans (List.reverse_perm _))).map _
      have h5 : (acc.toList.map fun u => pairAt H (backV u)) = ns := by
        rw [ea, List.map_map, List.map_map, ← hns]
        rfl
      rw [h5] at h4
      exact h4
    · rw [List.pairwise_map, List.pairwise_reverse]
      refine h1.imp fun {u v} hh => ?_
      have := SrtO.lexB_no.mp hh
      unfold lexGe
      omega
    · rw [List.getElem?_map] at hb hm
      cases e : out.reverse[i]? with
      | none => rw [e] at hb; cases hb
      | some u =>
        rw [e] at hb hm
        obtain ⟨b', rfl, n, hb'⟩ := hit u (h3 u (List.mem_reverse.mp (List.mem_of_getElem? e)))
        cases hb
        have em : m = n := (Option.some.inj hm).symm.trans (hpa b' n hb')
        rw [em]
        exact hb'
end
/-! ### pairs known for good -/
inductive KnP (F : List (V × D)) {κ : Type} : List (κ × V) → List (κ × D) → Prop
  | nil : KnP F [] []
  | cons {f : κ} {v : V} {d : D} {vs : List (κ × V)} {ds : List (κ × D)} : Kn F v d → KnP F vs ds → KnP F ((f, v) :: vs) ((f, d) :: ds)
theorem Kn.sub {F F' : List (V × D)} {v : V} {d : D} (h : Kn F v d) (s : KS F F') : Kn F' v d := by
  cases h with
  | mem h => exact s _ h
  | int n => exact .int n
  | bl n => exact .bl n
  | str n => exact .str n
  | non => exact .non
  | ty n => exact .ty n
  | ref a => exact .ref a
theorem KnP.sub {F F' : List (V × D)} {κ : Type} (s : KS F F') : ∀ {vs : List (κ × V)} {ds : List (κ × D)}, KnP F vs ds → KnP F' vs ds
  | _, _, .nil => .nil
  | _, _, .cons h a => .cons (h.sub s) (KnP.sub s a)
theorem KnP.more {F : List (V × D)} {κ : Type} {f : V × D} {vs : List (κ × V)} {ds : List (κ × D)} (h : KnP F vs ds) : KnP (f :: F) vs ds := h.sub KS.refl.drop
theorem KnP.isP {I : Hp} {F : List (V × D)} {κ : Type} (hF : ∀ f ∈ F, Is I f.1 f.2) : ∀ {vs : List (κ × V)} {ds : List (κ × D)}, KnP F vs ds → IsP I vs ds
  | _, _, .nil => .nil
  | _, _, .cons h a => .cons (h.is hF) (KnP.isP hF a)
theorem KnP.length {F : List (V × D)} {κ : Type} : ∀ {vs : List (κ × V)} {ds : List (κ × D)}, KnP F vs ds → vs.length = ds.length
  | _, _, .nil => rfl
  | _, _, .cons _ a => by rw [List.length_cons, List.length_cons, KnP.length a]
theorem KnP.at {F : List (V × D)} {κ : Type} : ∀ {vs : List (κ × V)} {ds : List (κ × D)}, KnP F vs ds → ∀ {i : Nat} {k : κ} {u : V}, vs[i]? = some (k, u) → ∃ e, ds[i]? = some (k, e)
  | _, _, .nil, i, k, u, e => by simp at e
  | _, _, .cons _ a, 0, k, u, e => by cases e; exact ⟨_, rfl⟩
  | _, _, .cons _ a, i + 1, k, u, e => KnP.at a (i := i) e
theorem IsP.facts {I : Hp} {κ : Type} : ∀ {vs : List (κ × V)} {ds : List (κ × D)}, IsP I vs ds → ∃ F : List (V × D), (∀ f ∈ F, Is I f.1 f.2) ∧ KnP F vs ds
  | _, _, .nil => ⟨[], fun _ h => (nomatch h), .nil⟩
  | _, _, .cons (v := v) (d := d) h a => by
    obtain ⟨F, h1, h2⟩ := IsP.facts a
    refine ⟨(v, d) :: F, fun f hf => ?_, .cons (.mem List.mem_cons_self) h2.more⟩
    rcases List.mem_cons.mp hf with rfl | hf
    · exact h
    · exact h1 f hf
/-! ### a tuple that stands in the heap is known for good -/
theorem Cn.notT {I : Hp} {e : ME} {m : Addr × HO} (h : Cn I e m) : ∀ vs, m.2 ≠ .tup vs := by
  cases h with
  | raw hn => exact hn
  | ml _ => exact fun _ e => nomatch e
  | mi _ => exact fun _ e => nomatch e
  | bag hb =>
    obtain ⟨_, x, y, z, hb⟩ := hb
    have := hb.ob
    intro vs e
    rw [show _ = _ from this] at e
    cases e
  | dk _ => exact fun _ e => nomatch e
  | dt _ => exact fun _ e => nomatch e
  | cel _ => exact fun _ e => nomatch e
  | tb _ _ => exact fun _ e => nomatch e
theorem CnA.notT {I : Hp} {M : List ME} {Mc : List (Addr × HO)} (a : CnA I M Mc) : ∀ m ∈ Mc, ∀ vs, m.2 ≠ .tup vs := by
  induction a with
  | nil => exact fun _ h => nomatch h
  | cons h a ih =>
    intro m hm
    rcases List.mem_cons.mp hm with rfl | hm
    · exact h.notT
    · exact ih m hm
theorem Wf.tupN {F : List (V × D)} {H : Hp} {M : List ME} {q : Addr} {vs : List V} {ds : List D} (w : Wf F H M) (h : H q = some (.tup vs)) (hv : ∀ I, IsA I vs ds) : Wf ((.ref q, .tup ds) :: F) H M := by
  obtain ⟨I, Mc, w, a, hF⟩ := w.ex
  by_cases e : I q = none
  · have s : Same I (upd I q (.tup vs)) := fun b o hb => by
      have : b ≠ q := fun z => by rw [z, e] at hb; cases hb
      rw [upd_ne this]
      exact hb
    refine ⟨upd I q (.tup vs), Mc, ⟨fun b o hb => ?_, fun m hm => ⟨(w.mu m hm).1, ?_⟩, w.nd⟩, a.mono s, fun f hf => ?_⟩
    · by_cases hbq : b = q
      · subst hbq
        rw [upd_same] at hb
        rw [h, hb]
      · rw [upd_ne hbq] at hb
        exact w.imm b o hb
    · have : m.1 ≠ q := fun z => by
        have h1 := (w.mu m hm).1
        rw [z, h] at h1
        exact a.notT m hm vs (Option.some.inj h1).symm
      rw [upd_ne this]
      exact (w.mu m hm).2
    · rcases List.mem_cons.mp hf with rfl | hf
      · exact .tup upd_same (hv _)
      · exact (hF f hf).mono s
  · obtain ⟨o, ho⟩ := Option.ne_none_iff_exists'.mp e
    have h2 := w.imm q o ho
    rw [h] at h2
    cases h2
    exact ⟨I, Mc, w, a, fun f hf => by
      rcases List.mem_cons.mp hf with rfl | hf
      · exact .tup ho (hv _)
      · exact hF f hf⟩
theorem isA_key {I : Hp} : ∀ k : List Key, IsA I (k.map kV) (k.map keyD)
  | [] => .nil
  | k :: r => .cons (by cases k with | inl i => exact .int i | inr s => exact .str s) (isA_key r)
theorem Wf.keyN {F : List (V × D)} {H : Hp} {M : List ME} {q : Addr} {k : List Key} (w : Wf F H M) (h : H q = some (.tup (k.map kV))) : Wf ((.ref q, .tup (k.map keyD)) :: F) H M := w.tupN h fun I => isA_key k
/-! ### a dict with tuple keys that is walked -/
section
variable {K : PySem.W.Frag} {σ : L2.St} {H : Hp} {F : List (V × D)} {M M0 M' : List ME} {Q : VK} {G : Ends} {v x y : V} {p : Addr} {g : TG} {tb : TS} {td : TE} {kvs : List (List Key × D)} {vs : List (List Key × V)} {od : Obj} {d : D} {k : List Key}
theorem Wf.lockT (w : Wf F H M) (hr : Rem M (.dt p kvs) M0) : ∃ vs FX, H p = some (.dT vs) ∧ KS F FX ∧ KnP FX vs kvs ∧ ∀ od, Wf FX (upd H p (.frz od (.dT vs))) (.raw p (.frz od (.dT vs)) :: M0) := by
  obtain ⟨I, Mc, w, a, hF⟩ := w.ex
  obtain ⟨M1, m, M2, rfl, h3, h4⟩ := a.rem hr
  cases h3 with
  | @dt _ vs _ b =>
    obtain ⟨VF, q1, q2⟩ := b.facts
    refine ⟨vs, VF ++ F, w.at, fun f hf => .mem (List.mem_append_right _ hf), q2.sub fun f hf => .mem (List.mem_append_left _ hf), fun od => ?_⟩
    have w2 : W I (upd H p (.frz od (.dT vs))) (M1 ++ (p, .frz od (.dT vs)) :: M2) := w.put
    exact ⟨I, _, w2.perm List.perm_middle, .cons (.raw fun _ e => nomatch e) h4, fun f hf => (List.mem_append.mp hf).elim (q1 f) (hF f)⟩
theorem Wf.unlockT (w : Wf F H (.raw p (.frz od (.dT vs)) :: M)) (k : KnP F vs kvs) : H p = some (.frz od (.dT vs)) ∧ Wf F (upd H p (.dT vs)) (.dt p kvs :: M) := by
  refine ⟨w.rawAt List.mem_cons_self, ?_⟩
  obtain ⟨I, Mc, w, a, hF⟩ := w.ex
  cases a with
  | cons h a =>
    cases h with
    | raw _ => exact ⟨I, _, w.put0, .cons (.dt (k.isP hF)) a, hF⟩
/-- the heap of such a loop -/
def LIL (L : ME) (R : L2.St → List (V × D) → List ME → Prop) (σ : L2.St) (H : Hp) : Prop := ∃ F M, R σ F M ∧ Wf F H (L :: M)
/-- for k in d -/
theorem n_forKT (w : Wf F H M) (hr : Rem M (.dt p kvs) M0) (ht : ∀ H' (Q : VK), Q (.ref p) H' → td σ H' Q)
    (h : ∀ od vs FX, KS F FX → KnP FX vs kvs → ∃ R : Nat → L2.St → List (V × D) → List ME → Prop, (∀ i σ F' M', R i σ F' M' → KnP F' vs kvs) ∧ R 0 σ FX M0 ∧
      (∀ i k e x σ H F' M', kvs[i]? = some (k, e) → R i σ F' M' → Wf ((x, .tup (k.map keyD)) :: F') H (.raw p (.frz od (.dT vs)) :: M') →
        g x σ H fun σ2 H2 => tb { nx := LIL (.raw p (.frz od (.dT vs))) (R (i + 1)), ct := LIL (.raw p (.frz od (.dT vs))) (R (i + 1)), bk := fun σ' H' => H' p = some (.frz od (.dT vs)) ∧ G.nx σ' (upd H' p (.dT vs)), rt := fun v H' => H' p = some (.frz od (.dT vs)) ∧ G.rt v (upd H' p (.dT vs)) } σ2 H2) ∧
      ∀ σ H F' M', R kvs.length σ F' M' → Wf F' H (.dt p kvs :: M') → G.nx σ H) : tLock (tFor (iKeys td) g tb) G σ H := by
  obtain ⟨vs, FX, h1, h2, h3, h4⟩ := w.lockT hr
  refine ⟨p, .dT vs, h1, trivial, fun od => ?_⟩
  obtain ⟨R, r1, r2, r3, r4⟩ := h od vs FX h2 h3
  refine ht _ _ ⟨p, od, rfl, .inr ⟨vs, upd_same, ?_⟩⟩
  have hl := h3.length
  refine ⟨fun i m σ H => m = kvs.length - i ∧ i ≤ kvs.length ∧ LIL (.raw p (.frz od (.dT vs))) (R i) σ H, ⟨kvs.length, rfl, Nat.zero_le _, FX, M0, r2, h4 od⟩, ?_⟩
  rintro i m σ H ⟨rfl, hi, F', M', hR, w⟩
  have hat := w.rawAt List.mem_cons_self
  by_cases hlt : i < kvs.length
  · refine .inr ⟨⟨hat, by omega⟩, LIL (.raw p (.frz od (.dT vs))) (R (i + 1)), fun σ' H' z => ⟨kvs.length - (i + 1), by omega, rfl, hlt, z⟩, fun x H' y => ?_⟩
    obtain ⟨rfl, k, u, q, e1, rfl, hq⟩ := y
    obtain ⟨e, e2⟩ := h3.at e1
    exact r3 i k e _ σ _ F' M' e2 hR (w.keyN hq)
  · have e : i = kvs.length := by omega
    subst e
    obtain ⟨q1, q2⟩ := w.unlockT (r1 _ _ _ _ hR)
    exact .inl ⟨⟨hat, by omega⟩, q1, r4 σ _ F' M' hR q2⟩
/-- what such a dict holds -/
theorem KnP.get : ∀ {vs : List (List Key × V)} {kvs : List (List Key × D)}, KnP F vs kvs → ∀ {k : List Key} {d : D}, getP kvs k = some d → ∃ v, valV vs k = some v ∧ Kn F v d
  | _, _, .nil, k, d, e => by cases e
  | _, _, .cons (f := f) h a, k, d, e => by
    by_cases q : f = k
    · have : getP ((f, _) :: _) k = some _ := e
      rw [getP, List.find?_cons, decide_eq_true q] at this
      cases this
      exact ⟨_, valV_pos q, h⟩
    · have : getP ((f, _) :: _) k = some _ := e
      rw [getP, List.find?_cons, decide_eq_false q] at this
      obtain ⟨v, h1, h2⟩ := KnP.get a (k := k) this
      exact ⟨v, by rw [valV_neg q]; exact h1, h2⟩
theorem n_dgetTF (w : Wf F H M) (h : .raw p (.frz od (.dT vs)) ∈ M) (hk : KnP F vs kvs) (hy : Rk F M y (.tup (k.map keyD))) (hd : getP kvs k = some d) (q : ∀ u, Wf ((u, d) :: F) H M → Q u H) : DGetQ Q (.ref p) y H := by
  obtain ⟨b, rfl, hb⟩ := w.keyT hy
  obtain ⟨v, h1, h2⟩ := hk.get hd
  exact ⟨p, v, rfl, .inr ⟨vs, k, b, .inr ⟨od, w.rawAt h⟩, rfl, hb, h1.symm⟩, q v (w.add h2)⟩
/-- a return, a break from within -/
theorem Wf.retT {R : Hp → Prop} (w : Wf F H (.raw p (.frz od (.dT vs)) :: M)) (hk : KnP F vs kvs) (q : ∀ H', Wf F H' (.dt p kvs :: M) → R H') : H p = some (.frz od (.dT vs)) ∧ R (upd H p (.dT vs)) := ⟨(w.unlockT hk).1, q _ (w.unlockT hk).2⟩
end
/-! ### sorted(d, reverse=True) -/
def nD (n : Int × Int) : D := .tup [.int n.1, .int n.2]
theorem ndK_D (n : Int × Int) : (ndK n).map keyD = [.int n.1, .int n.2] := rfl
theorem k_sortRT {X : Cx} (hc : X.calm = true) : CallRK X (.builtin "sorted") [Str.ofString "reverse"] rSortRevT := cr_sortedRevT hc
theorem s_ckw {r : List V → List V → Hp → VK → Prop} {t tk : TA} {σ : L2.St} {H : Hp} {Q : VK} (h : t σ H fun vs H1 => tk σ H1 fun zs H2 => r vs zs H2 Q) : tCKw r t tk σ H Q := h
section
variable {K : PySem.W.Frag} {σ : L2.St} {H : Hp} {F : List (V × D)} {M M' : List ME} {Q : VK} {p : Addr} {kvs : List (List Key × D)} {ns : List (Int × Int)}
theorem Wf.nodesN {F : List (V × D)} {H : Hp} {M : List ME} (w : Wf F H M) : ∀ {bs : List Addr} {ms : List (Int × Int)}, bs.length = ms.length → (∀ (i : Nat) (b : Addr) (m : Int × Int), bs[i]? = some b → ms[i]? = some m → H b = some (.tup [.int m.1, .int m.2])) → ∃ FX, (∀ f ∈ F, f ∈ FX) ∧ Wf FX H M ∧ KnA FX (bs.map V.ref) (ms.map nD)
  | [], [], _, _ => ⟨F, fun _ h => h, w, .nil⟩
  | [], _ :: _, e, _ => by cases e
  | _ :: _, [], e, _ => by cases e
  | b :: bs, m :: ms, e, h => by
    obtain ⟨FX, h1, h2, h3⟩ := Wf.nodesN w (bs := bs) (ms := ms) (Nat.succ.inj e) fun i b' m' => h (i + 1) b' m'
    refine ⟨(.ref b, nD m) :: FX, fun f hf => List.mem_cons_of_mem _ (h1 f hf), h2.tupN (h 0 b m rfl rfl) fun I => .cons (.int _) (.cons (.int _) .nil), .cons (.mem List.mem_cons_self) ?_⟩
    have : ∀ {xs : List V} {ds : List D}, KnA FX xs ds → KnA ((.ref b, nD m) :: FX) xs ds := fun {xs ds} a => by
      induction a with
      | nil => exact .nil
      | cons h a ih => exact .cons h.more ih
    exact this h3
theorem n_sortRT (w : Wf F H M) (h : .dt p kvs ∈ M) (hk : kvs.map (·.1) = ns.map ndK) (q : ∀ (ms : List (Int × Int)) p H', ms.Perm ns → ms.Pairwise lexGe → Wf F H' (.ml p (ms.map nD) :: M) → Q (.ref p) H') : rSortRevT [.ref p] [.bl true] H Q := by
  obtain ⟨I, Mc, vs, w1, a, hF, hp, ha⟩ := w.dtAt h
  have e : vs.map (·.1) = kvs.map (·.1) := by
    clear hp hk h
    induction ha with
    | nil => rfl
    | cons _ _ ih => rw [List.map_cons, List.map_cons, ih]
  refine ⟨p, vs, ns, rfl, rfl, .inl hp, e.trans hk, fun ms bs l h1 h2 h3 h4 hl => q ms l _ h1 h2 ?_⟩
  obtain ⟨FX, f1, f2, f3⟩ := w.nodesN h3 h4
  obtain ⟨I2, Mc2, w2, a2, hF2⟩ := f2.ex
  exact ⟨I2, _, w2.newM hl, .cons (.ml (f3.is hF2)) a2, fun f hf => hF2 f (f1 f hf)⟩
end
/-! ### long lists; the last one is taken -/
section
variable {K : PySem.W.Frag} {σ : L2.St} {H : Hp} {F : List (V × D)} {M M' : List ME} {Q : VK} {x : V} {p : Addr} {ds : List D} {d : D}
theorem n_appB (w : Wf F H M) (f : Foc M (.ml p ds) M' (.ml p (ds ++ [d]))) (h : Kn F x d) (hz : ds.length ≤ 10000000) (q : ∀ H', Wf F H' M' → Q .non H') : rAppend (.ref p) [x] H Q := by
  obtain ⟨I, Mc, w, a, hF⟩ := w.ex
  obtain ⟨M1, m, M2, rfl, h3, h4⟩ := a.foc f
  cases h3 with
  | ml b =>
    exact ⟨p, _, x, rfl, rfl, w.at, by rw [b.length]; exact Nat.lt_of_le_of_lt hz (by decide), q _ ⟨I, _, w.put, h4 I _ (Same.refl _) (.ml (b.app (.one (h.is hF)))), hF⟩⟩
theorem n_popD (w : Wf F H M) (f : Foc M (.ml p ds) M' (.ml p ds.dropLast)) (hd : ds[ds.length - 1]? = some d) (q : ∀ y H', Wf ((y, d) :: F) H' M' → Q y H') : rPop (.ref p) [] H Q := by
  obtain ⟨I, Mc, w, a, hF⟩ := w.ex
  obtain ⟨M1, m, M2, rfl, h3, h4⟩ := a.foc f
  cases h3 with
  | @ml _ vs _ b =>
    have h0 : ds.length - 1 < ds.length := (List.getElem?_eq_some_iff.mp hd).1
    have h2 : vs.length - 1 < vs.length := by rw [b.length]; exact h0
    obtain ⟨d', e1, e2⟩ := b.of (List.getElem?_eq_getElem h2)
    rw [b.length, hd] at e1
    cases e1
    refine ⟨p, vs, _, rfl, rfl, w.at, List.getElem?_eq_getElem h2, q _ _ ⟨I, _, w.put, h4 I _ (Same.refl _) (.ml b.dropLast), fun f hf => ?_⟩⟩
    rcases List.mem_cons.mp hf with rfl | hf
    · exact e2
    · exact hF f hf
end
end Fs

namespace Fs
open PySem PySem.Spec PyProof.Rows L2
/-! ### try with several clauses `except X as e` -/
abbrev Clause := Value × Nat × (Addr → Value → Option Addr → TS)
/-- what the clauses wish of an exception, one behind the other -/
def wAsM (K : PySem.W.Frag) (Wout : WX) (D : Ends) : List Clause → WX
  | [] => Wout
  | (c, i, ts) :: r => wAs K c i ts (wAsM K Wout D r) D
inductive HdsAs (X : Cx) : List ExceptHandler → List Clause → Prop
  | nil : HdsAs X [] []
  | cons {x n : Str} {c : Value} {i : Nat} {ts : Addr → Value → Option Addr → TS} {b₀ : Stmt} {suite : List Stmt} {np pos' : Pos} {hds : List ExceptHandler} {l : List Clause} (hi : X.N[i]? = some n) (hln : X.env.kindOf n = some .local) (hc : Names X x c)
      (hsu : ∀ (a : Addr) (oe : Obj) (cls : Value) (d : Option Addr) (pn : List (Addr × Obj)), Zc cls d oe → (∃ vs, oe.data = .fields vs) → PSs (X.suite a ((a, oe) :: pn)) (b₀ :: suite) (ts a cls d)) (r : HdsAs X hds l) :
      HdsAs X (.ExceptHandler (some (.Name x np)) (some n) (b₀ :: suite) pos' :: hds) ((c, i, ts) :: l)
/-- an exception `a` is caught and has landed: the clauses are gone through -/
structure Cau (X : Cx) (pins : List (Addr × Obj)) (σ : L2.St) (H : Hp) (a : Addr) (cls : Value) (d : Option Addr) (s : Shared) : Prop where
  ex : ∃ (B : Heap) (sI : Shared), Inv X pins σ H sI ∧ (∀ b o, sI.heap.get? b = some o → b ∉ frs X.stack → B.get? b = some o) ∧ HandSPX.FlyingZ B (X.env :: X.outer) a (Zc cls d) s.heap ∧ sI.heap.UpToSlots s.heap ∧ s.os = sI.os ∧ AllBare s.gens
  na : H a = none
section
variable {X : Cx} {pins : List (Addr × Obj)} {σ : L2.St} {H : Hp} {a : Addr} {cls : Value} {d : Option Addr} {s : Shared}
theorem Cau.inv (c : Cau X pins σ H a cls d s) : Inv X pins σ H s := by
  obtain ⟨B, sI, I, nb, fl, up, os, ag⟩ := c.ex
  exact I.landed nb fl.1 up os ag
theorem Cau.again (c : Cau X pins σ H a cls d s) {M : Model} {A : Around} {E : Value → Shared → Prop} {Q : Unit → Shared → Prop} (q : ∀ s', Cau X pins σ H a cls d s' → Q () s') : wpAny M A (setFlight (.ref a) none) Q E s := by
  obtain ⟨B, sI, I, nb, fl, up, os, ag⟩ := c.ex
  exact HandSPX.lands_againZ fl fun h' fl' up' => q _ ⟨⟨B, sI, I, nb, fl', up.trans up', os, ag⟩, c.na⟩
/-- the thing that is caught; the clause's own state -/
theorem Cau.suite (c : Cau X pins σ H a cls d s) (hs : X.stack = X.env :: X.outer) (hf : X.env.frame = some X.env.locals) : ∃ oe, s.heap.get? a = some oe ∧ Zc cls d oe ∧ (∃ vs, oe.data = .fields vs) ∧ Inv (X.suite a ((a, oe) :: (X.pn ++ pins))) [] σ H s := by
  have J := c.inv
  obtain ⟨B, sI, I, nb, fl, up, os, ag⟩ := c.ex
  obtain ⟨oe, vs, he, hz, hd⟩ := fl.there
  have out : a ∉ frs (X.env :: X.outer) := fun hm => by
    obtain ⟨_, o', e', hn⟩ := fl.2.2.1.mem hm
    cases he.symm.trans e'
    exact hn _ hd
  exact ⟨oe, he, hz, ⟨vs, hd⟩, J.suite he hd c.na
    (fun z => out (List.mem_filterMap.mpr ⟨X.env, List.mem_cons_self, by rw [hf, z]⟩))
    (fun hm => by
      obtain ⟨e, h1, h2⟩ := List.mem_filterMap.mp hm
      exact out (List.mem_filterMap.mpr ⟨e, List.mem_cons_of_mem _ h1, h2⟩))⟩
/-- no clause is left -/
theorem Cau.out (c : Cau X pins σ H a cls d s) (hs : X.stack = X.env :: X.outer) (hf : X.env.frame = some X.env.locals) {W : WX} (tk : Takes X W) (w : W cls d σ H) {Q : Flow → Shared → Prop} : wpAny (model X.prog X.w) X.A (handleBy (.ref a) X.env []) Q X.xe s := by
  have J := c.inv
  obtain ⟨B, sI, I, nb, fl, up, os, ag⟩ := c.ex
  refine wpAny_handleBy_nil ?_
  obtain ⟨_, _, _, oe, vs, T, oT, ts', he, hz, hd, h1, hr⟩ := id fl
  have fin : wpAny (model X.prog X.w) X.A (setFlight (.ref a) X.env.frame) (fun _ s4 => wpAny (model X.prog X.w) X.A (throw (.ref a) : Sem Flow) Q X.xe s4) X.xe s := by
    rw [hf]
    exact HandSPX.setFlight_upZ fl fun h4 hh4 up4 => wpAny_throw (tk _ _ ⟨a, B, sI, pins, σ, H, cls, d, rfl, I, nb, up.trans up4, .inr (.inr (by rw [hs]; exact hh4)), c.na, os, ag, w⟩)
  unfold PySem.passOn
  refine wpAny_bind (wpAny_field he hd h1 ?_)
  rw [if_neg (by simp)]
  first
    | exact wpAny_bind (wpAny_pure (wpAny_bind fin))
    | exact wpAny_bind fin
end
section
variable {X : Cx} {body : List Stmt} {h₀ : ExceptHandler} {hds : List ExceptHandler} {l : List Clause} {pos : Pos} {tb : WX → TS} {Wout : WX}
/-- the clauses, gone through -/
theorem Cau.go {pins : List (Addr × Obj)} {σ : L2.St} {H : Hp} {a : Addr} {cls : Value} {d : Option Addr} {D : Ends} (ok : X.Ok) (hs : X.stack = X.env :: X.outer) (hf : X.env.frame = some X.env.locals) (hN : X.N.Nodup) (tk : Takes X Wout) {hds : List ExceptHandler} {l : List Clause} (hk : HdsAs X hds l) :
    ∀ {s : Shared}, Cau X pins σ H a cls d s → wAsM X.K Wout D l cls d σ H → wpAny (model X.prog X.w) X.A (handleBy (.ref a) X.env hds) (SP X pins D) X.xe s := by
  induction hk with
  | nil => exact fun c w => c.out hs hf tk w
  | @cons x n k i ts b₀ suite np pos' hds2 l2 hi hln hc hsu r ih =>
    intro s c w
    obtain ⟨b, hb1, hyes, hno⟩ := w
    obtain ⟨oe, he, hz, _, S⟩ := c.suite hs hf
    refine wpAny_handleBy_cons (codeAny_handlers_test ?_) (by intro q; cases q)
    have LM := PySem.W.exm_one (M := model X.prog X.w) (c.inv.kIn) (fun A Q E s k q => wpAny_typeOf_ref (k _ _ he) (by rw [hz.1]; exact q)) hb1
    have test : ∀ {Q : Value → Shared → Prop} {E : Value → Shared → Prop}, Q k s → wpAny (model X.prog X.w) (X.A.mark (some (.ref a))) (eval (.Name x np) X.env) Q E s := fun {Q E} q => by
      obtain ⟨hg, hdbg, hm | ⟨hm, hv, hnn⟩⟩ := hc
      · exact ld_glob (X := X.suite a ((a, oe) :: (X.pn ++ pins))) S hg hm q hdbg
      · exact ld_blt (X := X.suite a ((a, oe) :: (X.pn ++ pins))) S hg hm hv q hnn hdbg
    refine test (LM.here ?_)
    cases b with
    | false => exact ih c (hno rfl)
    | true =>
      refine codeAny_handlers_suite_as (c.again fun s4 c4 => ?_)
      obtain ⟨oe4, he4, hz4, hd4, S4⟩ := c4.suite hs hf
      refine store_ok (X := X.suite a ((a, oe4) :: (X.pn ++ pins))) (v := .ref a) S4 hN hi (.inl hln) rfl (fun s5 S5 => ?_) (.inr hln)
      refine wpAny_mono ((hsu a oe4 cls d (X.pn ++ pins) hz4 hd4).run [] s5 _ H _ S5 (hyes rfl a c.na)) (fun f s6 hsp => ?_) (fun _ _ z => False.elim z)
      have gone : ∀ {σ6 : L2.St} {H6 : Hp} {Q : Shared → Prop}, Inv (X.suite a ((a, oe4) :: (X.pn ++ pins))) [] σ6 H6 s6 → (∀ s7, Inv X pins (σ6.set i none) H6 s7 → Q s7) →
          wpAny (model X.prog X.w) X.A (do bindName X.env n .none; unbindBehindTheSuite X.env n pos') (fun _ s7 => Q s7) X.xe s6 := fun S6 hq => gone_ok (S6.unsuite ok) hN hi hln hq
      cases f with
      | ret u =>
        obtain ⟨v6, σ6, H6, S6, r6, q6⟩ := hsp
        exact gone S6 fun s7 J7 => ⟨_, _, _, J7, r6, q6⟩
      | _ =>
        obtain ⟨σ6, H6, S6, q6⟩ := hsp
        exact gone S6 fun s7 J7 => ⟨_, _, J7, q6⟩
theorem ps_try_asM (hs : X.stack = X.env :: X.outer) (hf : X.env.frame = some X.env.locals) (hN : X.N.Nodup) (tk : Takes X Wout)
    (hb : ∀ (W : WX) (pn : List (Addr × Obj)) (xe : Value → Shared → Prop), Takes (X.tr pn xe) W → PassesOwn (model X.prog X.w) X.A X.env xe → PSs (X.tr pn xe) body (tb W))
    (hh : HdsAs X (h₀ :: hds) l) : PS X (.Try body (h₀ :: hds) [] [] pos) (fun D σ H => tb (wAsM X.K Wout D l) D σ H) := by
  refine ⟨fun pins s σ H D I h => ?_⟩
  have ok := I.ok
  have B := hb (wAsM X.K Wout D l) (X.pn ++ pins) (fun e s₁ => wpAny (model X.prog X.w) X.A (noteFrame e X.env) (fun _ s₂ => wpAny (model X.prog X.w) X.A (setFlight e none) (fun _ s₃ =>
    wpAny (model X.prog X.w) X.A (handleBy e X.env (h₀ :: hds)) (SP X pins D) X.xe s₃) X.xe s₂) X.xe s₁) (fun u s' xx => by
      obtain ⟨a, B, sI, pins', σ', H', cls, d, rfl, J', nb, up, sky, na, os, ag, w⟩ := xx
      refine Sky.land Zc.steady (by rw [ok.frames, hs]) hf (by rw [← hs]; exact sky) fun h3 fl3 up3 => ?_
      exact Cau.go ok hs hf hN tk hh ⟨⟨B, sI, J'.ofTry ok, nb, fl3, up.trans up3, os, ag⟩, na⟩ w) PassesOwn.looking
  refine wpAny_Try_except (wpAny_mono (B.run [] s σ H D (I.toTry _) h) (fun f s1 q => ?_) fun _ _ z => z)
  cases f with
  | next => obtain ⟨σ', H', J', q⟩ := q; exact wpAny_execs_nil ⟨σ', H', J'.ofTry ok, q⟩
  | ret u => obtain ⟨v, σ', H', J', r, q⟩ := q; exact ⟨v, σ', H', J'.ofTry ok, r, q⟩
  | _ => obtain ⟨σ', H', J', q⟩ := q; exact ⟨σ', H', J'.ofTry ok, q⟩
end
/-- a clause that does not fit -/
theorem s_missed {K : PySem.W.Frag} {cls c : Value} {i : Nat} {ts : Addr → Value → Option Addr → TS} {D : Ends} {d : Option Addr} {σ : L2.St} {H : Hp} {W : WX} (e : PySem.W.exmOne K cls c = some false) (h : W cls d σ H) : wAs K c i ts W D cls d σ H := ⟨false, e, fun q => (nomatch q), fun _ => h⟩
theorem s_hit {K : PySem.W.Frag} {cls c : Value} {i : Nat} {ts : Addr → Value → Option Addr → TS} {D : Ends} {d : Option Addr} {σ : L2.St} {H : Hp} {W : WX} (e : PySem.W.exmOne K cls c = some true)
    (h : ∀ a, H a = none → ts a cls d { nx := fun σ' H' => D.nx (σ'.set i none) H', rt := D.rt, bk := fun σ' H' => D.bk (σ'.set i none) H', ct := fun σ' H' => D.ct (σ'.set i none) H' } (σ.set i (some (.ref a))) H) : wAs K c i ts W D cls d σ H := ⟨true, e, fun _ a ha => h a ha, fun q => (nomatch q)⟩
theorem s_par3 {i j l : Nat} {tA : TA} {G : Ends} {σ : L2.St} {H : Hp} (h : tA σ H fun vs H1 => ∃ u v w, vs = [u, v, w] ∧ G.nx (((σ.set i (some u)).set j (some v)).set l (some w)) H1) : tPar3 i j l tA G σ H := h
theorem s_par3' {P : V → V → V → Prop} {x y z : V} (h : P x y z) : ∃ u v w, [x, y, z] = [u, v, w] ∧ P u v w := ⟨x, y, z, rfl, h⟩
/-- a call by either of two contracts -/
theorem pe_two {X : Cx} {e : Expr} {t1 t2 : TE} (h1 : PE X e t1) (h2 : PE X e t2) : PE X e (fun σ H Q => t1 σ H Q ∨ t2 σ H Q) := ⟨fun pins s σ H Q I h => h.elim (h1.run pins s σ H Q I) (h2.run pins s σ H Q I)⟩
theorem ps_two {X : Cx} {s : Stmt} {t1 t2 : TS} (h1 : PS X s t1) (h2 : PS X s t2) : PS X s (fun D σ H => t1 D σ H ∨ t2 D σ H) := ⟨fun pins s σ H D I h => h.elim (h1.run pins s σ H D I) (h2.run pins s σ H D I)⟩
end Fs

namespace Fs
open PySem PySem.Spec PyProof.Rows L2
/-! ### cells that are shown to a callee, as things that are read alone -/
theorem topO_ok {P : Program} {w : World} {H : Hp} {h : Heap} {a : Addr} {o : Obj} (e : h.get? a = some o) : ObjOk P w H h a topO := ⟨trivial, ⟨o, e⟩, fun _ _ _ _ => trivial⟩
def addC : List (Addr × Obj) → Hp → Hp
  | [], H => H
  | c :: cs, H => upd (addC cs H) c.1 (.frz c.2 topO)
def cutC (cs : List (Addr × Obj)) (H : Hp) : Hp := fun b => if b ∈ cs.map (·.1) then none else H b
section
variable {P : Program} {w : World} {H H' : Hp} {h h' : Heap} {cs : List (Addr × Obj)} {b : Addr} {o : HO}
theorem addC_ne (n : b ∉ cs.map (·.1)) : addC cs H b = H b := by
  induction cs with
  | nil => rfl
  | cons c cs ih =>
    rw [List.map_cons, List.mem_cons, not_or] at n
    show upd (addC cs H) c.1 _ b = _
    rw [upd_ne n.1, ih n.2]
theorem addC_at (nd : (cs.map (·.1)).Nodup) {c : Addr × Obj} (hc : c ∈ cs) : addC cs H c.1 = some (.frz c.2 topO) := by
  induction cs with
  | nil => cases hc
  | cons d cs ih =>
    rw [List.map_cons, List.nodup_cons] at nd
    show upd (addC cs H) d.1 _ c.1 = _
    rcases List.mem_cons.mp hc with rfl | hc
    · exact upd_same
    · rw [upd_ne (fun e => nd.1 (by rw [← e]; exact List.mem_map_of_mem hc)), ih nd.2 hc]
theorem addC_or (nd : (cs.map (·.1)).Nodup) (b : Addr) : (∃ c ∈ cs, b = c.1 ∧ addC cs H b = some (.frz c.2 topO)) ∨ (b ∉ cs.map (·.1) ∧ addC cs H b = H b) := by
  by_cases hb : b ∈ cs.map (·.1)
  · obtain ⟨c, hc, e⟩ := List.mem_map.mp hb
    exact .inl ⟨c, hc, e.symm, by rw [← e]; exact addC_at nd hc⟩
  · exact .inr ⟨hb, addC_ne hb⟩
theorem cutC_nil {H : Hp} : cutC [] H = H := funext fun b => if_neg (by simp)
theorem cutC_in (hb : b ∈ cs.map (·.1)) : cutC cs H b = none := if_pos hb
theorem cutC_ne (hb : b ∉ cs.map (·.1)) : cutC cs H b = H b := if_neg hb
/-- a description that leans on fewer or more of the things that are not read -/
theorem objOk_of {a : Addr} (x : ObjOk P w H h a o) (ho : ∀ b, H b = some (.own a) → H' b = some (.own a)) (ht : ∀ b xs, H b = some (.tup xs) → H' b = some (.tup xs)) : ObjOk P w H' h a o :=
  x.stay (fun _ _ _ e => e) ho ht
theorem hok_add (nd : (cs.map (·.1)).Nodup) (x : HOk P w H h) (hc : ∀ c ∈ cs, H c.1 = none ∧ h.get? c.1 = some c.2) : HOk P w (addC cs H) h := fun b o e => by
  have out : ∀ b' o', H b' = some o' → addC cs H b' = some o' := fun b' o' e' => by
    rcases addC_or (H := H) nd b' with ⟨c, h1, h2, _⟩ | ⟨_, h2⟩
    · rw [h2, (hc c h1).1] at e'
      cases e'
    · rw [h2]
      exact e'
  rcases addC_or (H := H) nd b with ⟨c, h1, h2, h3⟩ | ⟨_, h2⟩
  · rw [h3] at e
    cases e
    rw [h2]
    exact ⟨(hc c h1).2, topO_ok (hc c h1).2⟩
  · rw [h2] at e
    exact objOk_of (x b o e) (fun _ q => out _ _ q) fun _ _ q => out _ _ q
theorem hok_cut (x : HOk P w H h) (hc : ∀ c ∈ cs, ∃ u, H c.1 = some (.frz c.2 u)) : HOk P w (cutC cs H) h := fun b o e => by
  have hb : b ∉ cs.map (·.1) := fun z => by
    rw [cutC_in z] at e
    cases e
  rw [cutC_ne hb] at e
  have out : ∀ b' o', H b' = some o' → (∀ ob u, o' ≠ .frz ob u) → cutC cs H b' = some o' := fun b' o' e' n => by
    by_cases z : b' ∈ cs.map (·.1)
    · obtain ⟨c, h1, h2⟩ := List.mem_map.mp z
      obtain ⟨u, h3⟩ := hc c h1
      rw [← h2, h3] at e'
      exact (n _ _ (Option.some.inj e').symm).elim
    · rw [cutC_ne z]
      exact e'
  exact objOk_of (x b o e) (fun _ q => out _ _ q fun _ _ z => nomatch z) fun _ _ q => out _ _ q fun _ _ z => nomatch z
end
section
variable {P : Program} {w : World} {K : PySem.W.Frag} {mg : Str → Option Value} {base : Heap} {A : Around} {outer : List Env} {s s' : Shared} {H : Hp} {cs : List (Addr × Obj)} {Q : VK} {u : Value}
/-- things that nobody follows: new since the base, no frames -/
structure Hid (base : Heap) (outer : List Env) (s : Shared) (cs : List (Addr × Obj)) : Prop where
  nd : (cs.map (·.1)).Nodup
  at_ : ∀ c ∈ cs, s.heap.get? c.1 = some c.2
  nb : ∀ c ∈ cs, base.get? c.1 = none
  nf : ∀ c ∈ cs, c.1 ∉ frs outer
theorem env0_add (e : Env0 P w K mg base A outer s H) (d : Hid base outer s cs) (n : ∀ c ∈ cs, H c.1 = none) : Env0 P w K mg base A outer s (addC cs H) where
  frames := e.frames
  mod := e.mod
  bs := fun b o q => ⟨(e.bs b o q).1, by
    rcases addC_or (H := H) d.nd b with ⟨c, h1, h2, _⟩ | ⟨_, h2⟩
    · rw [h2, d.nb c h1] at q
      cases q
    · rw [h2]
      exact (e.bs b o q).2⟩
  bsz := e.bsz
  funs := e.funs
  frf := fun b hb => by
    rcases addC_or (H := H) d.nd b with ⟨c, h1, h2, _⟩ | ⟨_, h2⟩
    · exact absurd (h2 ▸ hb) (d.nf c h1)
    · rw [h2]
      exact e.frf b hb
  hok := hok_add d.nd e.hok fun c hc => ⟨n c hc, d.at_ c hc⟩
  bare := e.bare
theorem ce_cut (d : Hid base outer s cs) (n : ∀ c ∈ cs, H c.1 = none) (x : CE outer P w (addC cs H) s (fun v H2 => Q v (cutC cs H2)) u s') : CE outer P w H s Q u s' := by
  obtain ⟨v, H', os, bare, un, hok, r, q⟩ := x
  have ca : ∀ c ∈ cs, H' c.1 = some (.frz c.2 topO) := fun c hc => un.frzs _ _ _ (addC_at d.nd hc)
  have go : ∀ {b : Addr}, H b = none → (∃ c ∈ cs, b = c.1) ∨ (b ∉ cs.map (·.1) ∧ addC cs H b = none) := fun {b} e => by
    rcases addC_or (H := H) d.nd b with ⟨c, h1, h2, _⟩ | ⟨h1, h2⟩
    · exact .inl ⟨c, h1, h2⟩
    · exact .inr ⟨h1, by rw [h2]; exact e⟩
  have out : ∀ {b : Addr} {o : HO}, H b = some o → b ∉ cs.map (·.1) := fun {b o} e z => by
    obtain ⟨c, h1, h2⟩ := List.mem_map.mp z
    rw [← h2, n c h1] at e
    cases e
  refine ⟨v, cutC cs H', os, bare, ⟨fun b o e hb nf nx => ?_, fun b o e hb hf nx => ?_, fun b o e hb nx => ?_, un.there, fun b xs e => ?_, fun b o x e => ?_, fun b ps e => ?_⟩, hok_cut hok fun c hc => ⟨_, ca c hc⟩, r, q⟩
  · rcases go hb with ⟨c, h1, h2⟩ | ⟨_, h2⟩
    · have := (hok _ _ (ca c h1)).1
      rw [h2] at e ⊢
      rw [d.at_ c h1] at e
      cases e
      exact this
    · exact un.keep b o e h2 nf nx
  · rcases go hb with ⟨c, h1, h2⟩ | ⟨_, h2⟩
    · exact absurd (h2 ▸ hf) (d.nf c h1)
    · exact un.slot b o e h2 hf nx
  · rcases go hb with ⟨c, h1, h2⟩ | ⟨h1, h2⟩
    · exact cutC_in (List.mem_map.mpr ⟨c, h1, h2.symm⟩)
    · rw [cutC_ne h1]
      exact un.free b o e h2 nx
  · rw [cutC_ne (out e)]
    exact un.tups b xs (by rw [addC_ne (out e)]; exact e)
  · rw [cutC_ne (out e)]
    exact un.frzs b o x (by rw [addC_ne (out e)]; exact e)
  · rw [cutC_ne (out e)]
    exact un.tbls b ps (by rw [addC_ne (out e)]; exact e)
theorem env0_cut (e : Env0 P w K mg base A outer s H) (c : ∀ c ∈ cs, H c.1 = some (.frz c.2 topO)) : Env0 P w K mg base A outer s (cutC cs H) where
  frames := e.frames
  mod := e.mod
  bs := fun b o q => ⟨(e.bs b o q).1, by
    by_cases z : b ∈ cs.map (·.1)
    · exact cutC_in z
    · rw [cutC_ne z]
      exact (e.bs b o q).2⟩
  bsz := e.bsz
  funs := e.funs
  frf := fun b hb => by
    by_cases z : b ∈ cs.map (·.1)
    · exact cutC_in z
    · rw [cutC_ne z]
      exact e.frf b hb
  hok := hok_cut e.hok fun d hd => ⟨_, c d hd⟩
  bare := e.bare
theorem ce_add (nd : (cs.map (·.1)).Nodup) (e : Env0 P w K mg base A outer s H) (c : ∀ c ∈ cs, H c.1 = some (.frz c.2 topO)) (x : CE outer P w (cutC cs H) s (fun v H2 => (∀ d ∈ cs, H2 d.1 = none) → Q v (addC cs H2)) u s') : CE outer P w H s Q u s' := by
  obtain ⟨v, H', os, bare, un, hok, r, q⟩ := x
  have at0 : ∀ d ∈ cs, s.heap.get? d.1 = some d.2 := fun d hd => (e.hok _ _ (c d hd)).1
  have nf : ∀ d ∈ cs, d.1 ∉ frs outer := fun d hd z => by
    have := e.frf _ z
    rw [c d hd] at this
    cases this
  have cn : ∀ d ∈ cs, cutC cs H d.1 = none := fun d hd => cutC_in (List.mem_map_of_mem hd)
  have at1 : ∀ d ∈ cs, H' d.1 = none ∧ s'.heap.get? d.1 = some d.2 := fun d hd => ⟨un.free _ _ (at0 d hd) (cn d hd) (by simp), un.keep _ _ (at0 d hd) (cn d hd) (nf d hd) (by simp)⟩
  have out : ∀ {b : Addr}, (∀ d ∈ cs, b ≠ d.1) → b ∉ cs.map (·.1) := fun {b} h z => by
    obtain ⟨d, h1, h2⟩ := List.mem_map.mp z
    exact h d h1 h2.symm
  have n0 : ∀ {b : Addr}, H b = none → b ∉ cs.map (·.1) := fun {b} hb => out fun d hd z => by
    rw [z, c d hd] at hb
    cases hb
  have n1 : ∀ {b : Addr} {o : HO}, H b = some o → (∀ ob u, o ≠ .frz ob u) → b ∉ cs.map (·.1) := fun {b o} hb n => out fun d hd z => by
    rw [z, c d hd] at hb
    exact n _ _ (Option.some.inj hb).symm
  refine ⟨v, addC cs H', os, bare, ⟨fun b o e hb => ?_, fun b o e hb => ?_, fun b o e hb nx => ?_, un.there, fun b xs e => ?_, fun b o x e => ?_, fun b ps e => ?_⟩, hok_add nd hok at1, r, q fun d hd => (at1 d hd).1⟩
  · exact un.keep b o e (by rw [cutC_ne (n0 hb)]; exact hb)
  · exact un.slot b o e (by rw [cutC_ne (n0 hb)]; exact hb)
  · rw [addC_ne (n0 hb)]
    exact un.free b o e (by rw [cutC_ne (n0 hb)]; exact hb) nx
  · have z := n1 e fun _ _ z => nomatch z
    rw [addC_ne z]
    exact un.tups b xs (by rw [cutC_ne z]; exact e)
  · by_cases z : b ∈ cs.map (·.1)
    · obtain ⟨d, h1, h2⟩ := List.mem_map.mp z
      rw [← h2, c d h1] at e
      cases e
      rw [← h2]
      exact addC_at nd h1
    · rw [addC_ne z]
      exact un.frzs b o x (by rw [cutC_ne z]; exact e)
  · have z := n1 e fun _ _ z => nomatch z
    rw [addC_ne z]
    exact un.tbls b ps (by rw [cutC_ne z]; exact e)
end
/-! ### a value that may be called -/
/-- v is a function; its promise sp, wherever what I knows stands -/
def FnV (P : Program) (w : World) (K : PySem.W.Frag) (mg : Str → Option Value) (base : Heap) (k : Nat) (sp : Sp) : V → Hp → Prop := fun v I => ∃ f : Addr, v = .ref f ∧ (∀ H h, HOk P w H h → Same I H → PySem.W.FnAt f h) ∧
  ∀ (A : Around) (outer : List Env) (s : Shared) (H : Hp) (us : List Value) (vs : List V) (Q : VK), Room k A → Env0 P w K mg base A outer s H → Vals vs us → Same I H → sp vs H Q E0 → codeAny (model P w) A (.call (.ref f) ⟨us, []⟩) (CR CX0 outer P w H s Q E0) s
theorem FnV.imp {P : Program} {w : World} {K : PySem.W.Frag} {mg : Str → Option Value} {base : Heap} {j k : Nat} {sp sp' : Sp} {v : V} {I : Hp} (x : FnV P w K mg base j sp v I) (hk : j ≤ k) (h : ∀ vs H Q, sp' vs H Q E0 → sp vs H Q E0) : FnV P w K mg base k sp' v I := by
  obtain ⟨f, e, a, r⟩ := x
  exact ⟨f, e, a, fun A outer s H us vs Q hr e0 rv sm q => r A outer s H us vs Q (hr.mono hk) e0 rv sm (h _ _ _ q)⟩
def CallV (P : Program) (w : World) (K : PySem.W.Frag) (mg : Str → Option Value) (base : Heap) (k : Nat) (v : V) (vs : List V) (H : Hp) (Q : VK) : Prop := ∃ (sp : Sp) (I : Hp), FnV P w K mg base k sp v I ∧ Same I H ∧ sp vs H Q E0
def IsFnV (P : Program) (w : World) (K : PySem.W.Frag) (mg : Str → Option Value) (base : Heap) (k : Nat) (v : V) (H : Hp) : Prop := ∃ (sp : Sp) (I : Hp), FnV P w K mg base k sp v I ∧ Same I H
def tCallV (P : Program) (w : World) (K : PySem.W.Frag) (mg : Str → Option Value) (base : Heap) (k i : Nat) (t : TA) : TE := fun σ H Q => ∃ v, σ[i]? = some (some v) ∧ IsFnV P w K mg base k v H ∧ t σ H fun vs H1 => CallV P w K mg base k v vs H1 Q
section
variable {X : Cx} {a : Str} {i k : Nat} {p1 p2 : Pos} {e : Expr} {es : List Expr} {t : TA}
theorem pe_callV (hN : X.N[i]? = some a) (hv : Vis X.env.scope a) (hr : Room k X.A) (ha : PA X (e :: es) t) (hd : (a == ("__debug__" : Str)) = false := by decide) (hcd : (a == ("__classdict__" : Str)) = false := by decide)
    (he : starEach (e :: es) X.env = (false, eval e X.env) :: starEach es X.env := by rfl) (hpl : (backTo p2 (starEach es X.env)).any (·.1) = false := by rfl) :
    PE X (.Call (.Name a p1) (e :: es) [] p2) (tCallV X.prog X.w X.K X.mg X.base k i t) := by
  refine ⟨fun pins s σ H Q J h => ?_⟩
  obtain ⟨v, hs, ⟨sp0, I0, ⟨f, ev, fa, _⟩, sm0⟩, h⟩ := h
  subst ev
  refine wpAny_Call_Name_kw (thn ((pe_var (pos := p1) (i := i) hN hv hd hcd).run pins s σ H (fun v H1 => v = .ref f ∧ H1 = H) J ⟨.ref f, hs, rfl, rfl⟩) fun u s1 ⟨v, H1, J1, r1, q1⟩ => ?_)
  obtain ⟨ev, eH⟩ := q1
  subst ev
  rw [eH] at J1
  obtain rfl : u = Value.ref f := r1
  refine PySem.W.callWith_F (fa _ _ J1.hok sm0) (thn (ha.run p2 pins s1 σ H _ J1 h) fun us s2 ⟨vs, H2, J2, rv, sp, I, ⟨f2, ef, fa2, run⟩, sm, q⟩ => ?_) he hpl
  cases ef
  refine ⟨fa2 _ _ J2.hok sm, wpAny_call (codeAny_mono (run X.A X.stack s2 H2 us vs Q hr J2.env0 rv sm q) fun r s' z => ?_)⟩
  cases r with
  | error er => exact False.elim z
  | ok fl =>
    cases fl with
    | ret u => exact J2.after z
    | next => exact False.elim z
    | brk => exact False.elim z
    | cont => exact False.elim z
end
/-! ### calls out of a frame whose cells others captured -/
/-- the address of the cell of the j-th name -/
def cAt (X : Cx) (j : Nat) : Addr := (X.env.cells.lookup ((X.N[j]?).getD (Str.ofString ""))).getD 0
/-- the cells of the slots js as objects -/
def CellsFor (X : Cx) (σ : L2.St) (js : List Nat) (cs : List (Addr × Obj)) : Prop := Paired (fun (j : Nat) (c : Addr × Obj) => c.1 = cAt X j ∧ ∃ v, σ[j]? = some (some v) ∧ CelO c.2 v) js cs
theorem CellsFor.adr {X : Cx} {σ : L2.St} : ∀ {js : List Nat} {cs : List (Addr × Obj)}, CellsFor X σ js cs → cs.map (·.1) = js.map (cAt X)
  | _, _, .nil => rfl
  | _, _, .cons h t => by rw [List.map_cons, List.map_cons, h.1, CellsFor.adr t]
def celM (X : Cx) (js : List Nat) (vs : List V) : List ME := (js.zip vs).map fun p => .cel (cAt X p.1) p.2
section
variable {X : Cx} {pins : List (Addr × Obj)} {σ : L2.St} {H : Hp} {s : Shared} {cs : List (Addr × Obj)} {js : List Nat}
/-- slots that are cells of this def, told apart -/
structure Celled (X : Cx) (js : List Nat) : Prop where
  nd : js.Nodup
  nN : X.N.Nodup
  k : ∀ j ∈ js, ∃ y, X.N[j]? = some y ∧ X.env.scope.names.lookup y = some .cell
  fn : ∀ y, X.fn y = true
theorem cells_are (J : Inv X pins σ H s) (c : Celled X js) (h : ∀ j ∈ js, ∃ v, σ[j]? = some (some v)) : ∃ cs, CellsFor X σ js cs ∧ Hid X.base X.stack s cs ∧ ∀ d ∈ cs, H d.1 = none := by
  have one : ∀ j ∈ js, ∃ o y, X.N[j]? = some y ∧ X.env.cells.lookup y = some (cAt X j) ∧ s.heap.get? (cAt X j) = some o ∧ ∃ v, σ[j]? = some (some v) ∧ CelO o v := fun j hj => by
    obtain ⟨y, h1, h2⟩ := c.k j hj
    obtain ⟨v, hv⟩ := h j hj
    obtain ⟨m, _, hl⟩ := J.loc
    obtain ⟨u, ru, hk⟩ := hl j y v h1 hv (.inr (.inl h2))
    rcases hk with ⟨hk, _⟩ | ⟨_, a, ha, o, ho, hd⟩
    · have hk : X.env.scope.names.lookup y = some .local := hk
      rw [h2] at hk
      cases hk
    · have e : cAt X j = a := by
        unfold cAt
        rw [h1]
        show (X.env.cells.lookup y).getD 0 = a
        rw [ha]
        rfl
      rw [e]
      exact ⟨o, y, h1, ha, ho, v, hv, u, hd, ru⟩
  have ex : ∃ cs, CellsFor X σ js cs ∧ ∀ d ∈ cs, s.heap.get? d.1 = some d.2 ∧ ∃ y, X.env.cells.lookup y = some d.1 := by
    clear c h
    revert one
    induction js with
    | nil => exact fun _ => ⟨[], .nil, fun _ h => nomatch h⟩
    | cons j js ih =>
      intro one
      obtain ⟨o, y, _, h1, h2, h3⟩ := one j List.mem_cons_self
      obtain ⟨cs, i1, i2⟩ := ih fun j hj => one j (List.mem_cons_of_mem _ hj)
      refine ⟨(cAt X j, o) :: cs, .cons ⟨rfl, h3⟩ i1, fun d hd => ?_⟩
      rcases List.mem_cons.mp hd with rfl | hd
      · exact ⟨h2, y, h1⟩
      · exact i2 d hd
  obtain ⟨cs, c1, c2⟩ := ex
  have low : ∀ d ∈ cs, X.s_0.heap.objs.size ≤ d.1 := fun d hd => by
    obtain ⟨y, hy⟩ := (c2 d hd).2
    exact J.ok.cab y d.1 (c.fn y) hy
  refine ⟨cs, c1, ⟨?_, fun d hd => (c2 d hd).1, fun d hd => ?_, fun d hd z => ?_⟩, fun d hd => ?_⟩
  · rw [c1.adr]
    refine List.pairwise_map.mpr (c.nd.imp_of_mem fun {a b} ha hb ne e => ne ?_)
    obtain ⟨_, y, n1, l1, _⟩ := one a ha
    obtain ⟨_, z, n2, l2, _⟩ := one b hb
    have e2 : y = z := J.ok.inj y z _ l1 (by rw [e]; exact l2)
    rw [← e2] at n2
    exact nodup_ix c.nN n1 n2
  · exact Heap.get?_none_of_le (Nat.le_trans J.ok.bsz (low d hd))
  · rcases List.mem_cons.mp (J.stkSub _ z) with e | e
    · obtain ⟨y, hy⟩ := (c2 d hd).2
      exact J.cne y _ hy e
    · obtain ⟨_, o, ho, _⟩ := J.ok.funs.mem e
      exact absurd (Nat.lt_of_lt_of_le (Heap.lt_size ho) (low d hd)) (Nat.lt_irrefl _)
  · obtain ⟨y, hy⟩ := (c2 d hd).2
    exact J.freeC y _ hy
/-- what a callee's promise is asked, the cells shown -/
def ShowQ (X : Cx) (js : List Nat) (sp : Sp) (vs : List V) (σ : L2.St) (H : Hp) (Q : VK) : Prop := (∀ j ∈ js, ∃ v, σ[j]? = some (some v)) ∧ ∀ cs, CellsFor X σ js cs → (cs.map (·.1)).Nodup → (∀ d ∈ cs, H d.1 = none) → sp vs (addC cs H) (fun v H2 => Q v (cutC cs H2)) E0
section
variable {k : Nat} {f C : Addr} {fd : FuncData} {ps : List Str} {sp : Sp} {dvs vs : List V} {ds us : List Value} {Q : VK}
theorem run_fnC (F : FnOk X.prog X.w X.K X.mg X.base CX0 k f fd ps sp) (hr : Room k X.A) (hb : Binds X.K fd ps ds) (hd : Vals dvs ds) (c : Celled X js) (J : Inv X pins σ H s) (r : Vals vs us) (h : ShowQ X js sp (vs ++ dvs) σ H Q) :
    wpAny (model X.prog X.w) X.A (call (.ref f) us) (EP X pins σ Q) X.xe s := by
  obtain ⟨cs, c1, c2, c3⟩ := cells_are J c h.1
  have q := h.2 cs c1 c2.nd c3
  have r2 : Vals (vs ++ dvs) (us ++ ds) := r.append hd
  have hl : (us ++ ds).length = ps.length := by rw [← r2.length]; exact F.len _ _ _ _ q
  refine wpAny_call (codeAny_mono (F.run X.A X.stack s (addC cs H) ⟨us, []⟩ (us ++ ds) (vs ++ dvs) _ E0 hr (env0_add J.env0 c2 c3) (hb s us J.kIn hl) r2 q) fun z s' hz => ?_)
  match z, hz with
  | .ok (.ret u), hz => exact J.after (ce_cut c2 c3 hz)
  | .ok .next, hz => exact False.elim hz
  | .ok .brk, hz => exact False.elim hz
  | .ok .cont, hz => exact False.elim hz
  | .error er, hz => exact False.elim hz
end
end
section
variable {F : List (V × D)} {H : Hp} {M M' : List ME} {X : Cx} {σ : L2.St} {js : List Nat} {vs us : List V} {cs : List (Addr × Obj)} {Q : VK} {sp : Sp}
theorem CellsFor.cn {I : Hp} : ∀ {js : List Nat} {cs : List (Addr × Obj)} {us : List V}, CellsFor X σ js cs → js.map (fun j => σ[j]?) = us.map (fun u => some (some u)) → CnA I (celM X js us) (cs.map fun c => (c.1, .frz c.2 topO))
  | _, _, [], .nil, _ => .nil
  | _, _, _ :: _, .nil, e => by cases e
  | _, _, [], .cons _ _, e => by cases e
  | j :: _, c :: _, u :: us, .cons ⟨h1, v, h2, h3⟩ t, e => by
    injection e with e1 e2
    cases h2.symm.trans e1
    refine .cons ?_ (CellsFor.cn t e2)
    show Cn I (.cel (cAt X j) u) (c.1, .frz c.2 topO)
    rw [← h1]
    exact .cel h3
theorem Wf.shown (w : Wf F H M) (c : CellsFor X σ js cs) (nd : (cs.map (·.1)).Nodup) (n : ∀ d ∈ cs, H d.1 = none) (hv : js.map (fun j => σ[j]?) = us.map (fun u => some (some u))) : Wf F (addC cs H) (celM X js us ++ M) := by
  obtain ⟨I, Mc, w, a, hF⟩ := w.ex
  have out : ∀ {b : Addr} {o : HO}, H b = some o → b ∉ cs.map (·.1) := fun {b o} e z => by
    obtain ⟨d, h1, h2⟩ := List.mem_map.mp z
    rw [← h2, n d h1] at e
    cases e
  have app : ∀ {M1 M2 : List ME} {N1 N2 : List (Addr × HO)}, CnA I M1 N1 → CnA I M2 N2 → CnA I (M1 ++ M2) (N1 ++ N2) := fun {M1 M2 N1 N2} h1 h2 => by
    induction h1 with
    | nil => exact h2
    | cons h _ ih => exact .cons h ih
  refine ⟨I, cs.map (fun c => (c.1, .frz c.2 topO)) ++ Mc, ⟨fun b x e => ?_, fun p hp => ?_, ?_⟩, app (c.cn hv) a, hF⟩
  · rw [addC_ne (out (w.imm _ _ e))]
    exact w.imm _ _ e
  · rcases List.mem_append.mp hp with h | h
    · obtain ⟨d, h1, rfl⟩ := List.mem_map.mp h
      exact ⟨addC_at nd h1, w.imm.free (n d h1)⟩
    · obtain ⟨h1, h2⟩ := w.mu p h
      exact ⟨by rw [addC_ne (out h1)]; exact h1, h2⟩
  · rw [List.map_append, List.map_map]
    refine List.nodup_append.mpr ⟨nd, w.nd, fun x hx y hy e => ?_⟩
    obtain ⟨p, h1, h2⟩ := List.mem_map.mp hy
    have := out (w.mu p h1).1
    rw [h2, ← e] at this
    exact this hx
theorem CnA.split {I : Hp} {M2 : List ME} : ∀ {M1 : List ME} {N : List (Addr × HO)}, CnA I (M1 ++ M2) N → ∃ N1 N2, N = N1 ++ N2 ∧ CnA I M1 N1 ∧ CnA I M2 N2
  | [], N, a => ⟨[], N, rfl, .nil, a⟩
  | _ :: _, _, .cons h a => by
    obtain ⟨N1, N2, rfl, h1, h2⟩ := CnA.split a
    exact ⟨_ :: N1, N2, rfl, .cons h h1, h2⟩
theorem cel_adr {I : Hp} : ∀ {js : List Nat} {us : List V} {N : List (Addr × HO)}, js.length = us.length → CnA I (celM X js us) N → N.map (·.1) = js.map (cAt X)
  | [], [], _, _, a => by cases a; rfl
  | [], _ :: _, _, e, _ => by cases e
  | _ :: _, [], _, e, _ => by cases e
  | j :: js, u :: us, _, e, a => by
    cases a with
    | cons h a =>
      cases h
      rw [List.map_cons, List.map_cons, cel_adr (Nat.succ.inj e) a]
theorem Wf.hidden (w : Wf F H (celM X js us ++ M)) (hl : js.length = us.length) (ha : cs.map (·.1) = js.map (cAt X)) : Wf F (cutC cs H) M := by
  obtain ⟨I, Mc, w, a, hF⟩ := w.ex
  obtain ⟨N1, N2, rfl, a1, a2⟩ := a.split
  have e := cel_adr hl a1
  rw [← ha] at e
  have nd := w.nd
  rw [List.map_append] at nd
  obtain ⟨_, nd2, nd3⟩ := List.nodup_append.mp nd
  refine ⟨I, N2, ⟨fun b x h => ?_, fun p hp => ?_, nd2⟩, a2, hF⟩
  · by_cases z : b ∈ cs.map (·.1)
    · rw [← e] at z
      obtain ⟨p, h1, h2⟩ := List.mem_map.mp z
      have := (w.mu p (List.mem_append_left _ h1)).2
      rw [h2, h] at this
      cases this
    · rw [cutC_ne z]
      exact w.imm _ _ h
  · obtain ⟨h1, h2⟩ := w.mu p (List.mem_append_right _ hp)
    refine ⟨?_, h2⟩
    rw [cutC_ne (fun z => ?_)]
    · exact h1
    · rw [← e] at z
      exact nd3 _ z _ (List.mem_map_of_mem hp) rfl
/-- a promise asked with the cells shown -/
theorem n_shown (w : Wf F H M) (hv : js.map (fun j => σ[j]?) = us.map (fun u => some (some u)))
    (h : ∀ H1 (Q1 : VK), Wf F H1 (celM X js us ++ M) → (∀ v F' M' H2, Wf F' H2 (celM X js us ++ M') → (∀ H3, Wf F' H3 M' → Q v H3) → Q1 v H2) → sp vs H1 Q1 E0) : ShowQ X js sp vs σ H Q := by
  have hl : js.length = us.length := by
    have := congrArg List.length hv
    rwa [List.length_map, List.length_map] at this
  refine ⟨fun j hj => ?_, fun cs c nd n => h _ _ (w.shown c nd n hv) fun v F' M' H2 w2 q => q _ (w2.hidden hl c.adr)⟩
  clear h hl
  induction js generalizing us with
  | nil => cases hj
  | cons i js ih =>
    cases us with
    | nil => cases hv
    | cons u us =>
      injection hv with e1 e2
      rcases List.mem_cons.mp hj with rfl | hj
      · exact ⟨u, e1⟩
      · exact ih e2 hj
end
/-! ### a lambda is made -/
/-- its words -/
structure LW where
  params : Arguments
  body : Expr
  scope : Scope
  qual : Str
  cl : List (Str × Addr)
def LamO (f : Addr) (L : LW) (c : Addr) : HO := .ext fun h => ∃ pm ctv : Value, h.get? f = some (PySem.W.kla_obj "<lambda>" L.qual L.params L.body L.scope L.cl pm c ctv)
theorem lamO_new {P : Program} {w : World} {H : Hp} {h : Heap} {f c : Addr} {L : LW} {pm ctv : Value} (e : h.get? f = some (PySem.W.kla_obj "<lambda>" L.qual L.params L.body L.scope L.cl pm c ctv)) : ObjOk P w H h f (LamO f L c) :=
  ⟨⟨pm, ctv, e⟩, ⟨_, e⟩, fun _ _ ⟨pm, ctv, z⟩ st => ⟨pm, ctv, st _ z⟩⟩
theorem lamO_at {P : Program} {w : World} {H : Hp} {h : Heap} {f c : Addr} {L : LW} (x : HOk P w H h) (e : H f = some (LamO f L c)) : ∃ pm ctv : Value, h.get? f = some (PySem.W.kla_obj "<lambda>" L.qual L.params L.body L.scope L.cl pm c ctv) := (x f _ e).1
/-- a table of code objects, all of the name q -/
def TabK (H : Hp) (q : Str) (ps : Array Value) : Prop := TriplesOk ps.toList ∧ ∀ (pos : Pos) (cv : Value), codeAmong pos ps.toList = some cv → ∃ c, cv = .ref c ∧ H c = some (LamX.CodeO c q)
def tLamV (Pt : Addr) (pos : Pos) (L : LW) : TE := fun _ H Q => ∃ ps : Array Value, H Pt = some (.tbl ps) ∧ TabK H L.qual ps ∧
  (∀ f c, H c = none → H f = none → f ≠ c → Q (.ref f) (upd (upd (upd H Pt (.tbl (ps ++ #[rawInt pos.line, rawInt pos.col, .ref c]))) c (LamX.CodeO c L.qual)) f (LamO f L c))) ∧
  ∀ f c, codeAmong pos ps.toList = some (.ref c) → H f = none → Q (.ref f) (upd H f (LamO f L c))
section
variable {X : Cx} {c P : Addr} {params : Arguments} {body : Expr} {scope : Scope} {pos : Pos}
theorem pe_lamV (B : LamX.TabB X.base X.mg c P) (hcode : X.env.code = .ref c) (hdef : defaultsOf params X.env = ([], [])) (hfree : ∀ y ∈ scope.names, y.2 = .free → X.env.scope.names.lookup y.1 = some .cell ∨ X.env.scope.names.lookup y.1 = some .free) :
    PE X (.Lambda params body scope pos) (tLamV P pos ⟨params, body, scope, X.env.qual ++ "<lambda>", cloFrom X.env.cells scope.names []⟩) := by
  refine ⟨fun pins s σ H Q J h => ?_⟩
  obtain ⟨ps, hP, ⟨tok, tell⟩, miss, hit⟩ := h
  have clo := closure_ok (scope := scope) (env := X.env) fun y hy e => (hfree y hy e).elim (fun z => J.ok.has _ (.inl z)) fun z => J.ok.has _ (.inr z)
  have oP : s.heap.get? P = some { cls := .none, data := .fields ps } := J.hok P _ hP
  have bP := B.bm.keeps J.bk
  refine PySem.W.kla_eval hdef ?_
  cases among : codeAmong pos ps.toList with
  | some cv =>
    obtain ⟨k, ek, hk⟩ := tell pos cv among
    subst ek
    refine PySem.W.kla_makeFunctionHit (c := c) (P := P) (mg := X.mg) clo J.ok.glob (J.mod.glob.keeps J.bk) hcode (B.code.keeps J.bk) oP tok among bP fun ctv h2 tk ext big => ?_
    have J2 : Inv X pins σ H { s with heap := h2, toks := tk } := J.kept ext
    refine ⟨.ref _, _, J2.laid (o := LamO h2.objs.size ⟨params, body, scope, X.env.qual ++ "<lambda>", cloFrom X.env.cells scope.names []⟩ k) (fun b u e => ?_) (Nat.le_refl _) (lamO_new (pm := (X.mg "__name__").getD .none) (ctv := ctv) ?_), rfl, hit _ _ among (J2.hok.fresh (Nat.le_refl _))⟩
    · exact Heap.get?_push_of_some _ e
    · exact Heap.get?_push_size _ rfl
  | none =>
    refine PySem.W.kla_makeFunction (c := c) (P := P) (mg := X.mg) clo J.ok.glob (J.mod.glob.keeps J.bk) hcode (B.code.keeps J.bk) oP tok among B.gP bP fun k ctv h2 tk ext low high rec tab => ?_
    obtain ⟨k2, ob, vs, t, e2, ho, hd, hv⟩ := rec
    cases e2
    have J2 := LamX.inv_table (t' := tk) (more := #[rawInt pos.line, rawInt pos.col, .ref k]) J hP (fun b o nb e => ext b o nb e) tab low ⟨ob, vs, t, ho, hd, hv⟩
    refine ⟨.ref _, _, J2.laid (o := LamO h2.objs.size ⟨params, body, scope, X.env.qual ++ "<lambda>", cloFrom X.env.cells scope.names []⟩ k) (fun b u e => ?_) (Nat.le_refl _) (lamO_new (pm := (X.mg "__name__").getD .none) (ctv := ctv) ?_), rfl, miss _ _ (J.hok.fresh low) (J.hok.fresh (Nat.le_trans low (Nat.le_of_lt high))) (Nat.ne_of_gt high)⟩
    · exact Heap.get?_push_of_some _ e
    · exact Heap.get?_push_size _ rfl
end
theorem Foc.self {e : ME} : ∀ {M : List ME}, e ∈ M → Foc M e M e
  | _ :: _, h => by
    rcases List.mem_cons.mp h with rfl | h
    · exact .here
    · exact .there (Foc.self h)
section
variable {F : List (V × D)} {σ : L2.St} {H : Hp} {M : List ME} {Q : VK} {Pt : Addr} {pos : Pos} {L : LW} {φ : V → Hp → Prop}
theorem n_lam (w : Wf F H M) (hm : .tb Pt L.qual ∈ M) (hφ : ∀ f c I, I f = some (LamO f L c) → I c = some (LamX.CodeO c L.qual) → φ (.ref f) I) (q : ∀ f H', Wf ((.ref f, .fact φ) :: F) H' M → Q (.ref f) H') : tLamV Pt pos L σ H Q := by
  obtain ⟨I, Mc, w, a, hF⟩ := w.ex
  obtain ⟨M1, m, M2, rfl, c1, c2⟩ := a.foc (Foc.self hm)
  cases c1 with
  | @tb _ _ ps tok tell =>
    have hP : H Pt = some (.tbl ps) := w.at
    refine ⟨ps, hP, ⟨tok, fun p cv e => let ⟨k, h1, h2⟩ := tell p cv e; ⟨k, h1, w.imm _ _ h2⟩⟩, fun f k nk nf ne => q f _ ?_, fun f k hk nf => q f _ ?_⟩
    · have kP : k ≠ Pt := fun e => by rw [e, hP] at nk; cases nk
      have fP : f ≠ Pt := fun e => by rw [e, hP] at nf; cases nf
      have w1 : W I (upd H Pt (.tbl (ps ++ #[rawInt pos.line, rawInt pos.col, .ref k]))) _ := w.put
      have n1 : upd H Pt (.tbl (ps ++ #[rawInt pos.line, rawInt pos.col, .ref k])) k = none := by rw [upd_ne kP]; exact nk
      have w2 := w1.newI (o := LamX.CodeO k L.qual) n1
      have n2 : upd (upd H Pt (.tbl (ps ++ #[rawInt pos.line, rawInt pos.col, .ref k]))) k (LamX.CodeO k L.qual) f = none := by rw [upd_ne ne, upd_ne fP]; exact nf
      have w3 := w2.newI (o := LamO f L k) n2
      have s1 : Same I (upd I k (LamX.CodeO k L.qual)) := w1.same n1
      have s2 : Same (upd I k (LamX.CodeO k L.qual)) (upd (upd I k (LamX.CodeO k L.qual)) f (LamO f L k)) := w2.same n2
      refine ⟨_, _, w3, c2 _ _ (s1.trans s2) (.tb ?_ fun p cv e => ?_), fun g hg => ?_⟩
      · rw [show (ps ++ #[rawInt pos.line, rawInt pos.col, .ref k]).toList = ps.toList ++ [rawInt pos.line, rawInt pos.col, .ref k] by simp]
        exact PySem.TriplesOk_snoc _ _ _ _ tok
      · rw [show (ps ++ #[rawInt pos.line, rawInt pos.col, .ref k]).toList = ps.toList ++ [rawInt pos.line, rawInt pos.col, .ref k] by simp] at e
        rcases LamX.among_app _ tok e with z | z
        · obtain ⟨j, h1, h2⟩ := tell p cv z
          exact ⟨j, h1, s2 _ _ (s1 _ _ h2)⟩
        · exact ⟨k, z, s2 _ _ upd_same⟩
      · rcases List.mem_cons.mp hg with rfl | hg
        · exact .fact (Same.refl _) (hφ f k _ upd_same (by rw [upd_ne ne.symm]; exact upd_same))
        · exact (hF g hg).mono (s1.trans s2)
    · have w3 := w.newI (o := LamO f L k) nf
      have s2 : Same I (upd I f (LamO f L k)) := w.same nf
      obtain ⟨j, e1, ho⟩ := tell pos _ hk
      cases e1
      refine ⟨_, _, w3, c2 _ _ s2 (.tb tok fun p cv e => let ⟨j, h1, h2⟩ := tell p cv e; ⟨j, h1, s2 _ _ h2⟩), fun g hg => ?_⟩
      rcases List.mem_cons.mp hg with rfl | hg
      · exact .fact (Same.refl _) (hφ f k _ upd_same (s2 _ _ ho))
      · exact (hF g hg).mono s2
end
/-! ### what a lambda promises -/
abbrev LW.nf (L : LW) (c : Addr) : NdefX.NF := ⟨"<lambda>", L.qual, L.params, [], L.scope, L.cl, c⟩
theorem paired_at {α β : Type} {R : α → β → Prop} : ∀ {l : List α} {m : List β}, Paired R l m → ∀ {i : Nat} {a : α}, l[i]? = some a → ∃ b, m[i]? = some b ∧ R a b
  | _, _, .nil, i, a, e => by simp at e
  | _, _, .cons h _, 0, a, e => by simp at e; subst e; exact ⟨_, rfl, h⟩
  | _, _, .cons _ t, i + 1, a, e => by
    obtain ⟨b, h1, h2⟩ := paired_at t (i := i) (a := a) (by simpa using e)
    exact ⟨b, by simpa using h1, h2⟩
theorem paired_nodup {cl : List (Str × Addr)} (hinj : ∀ x y c, cl.lookup x = some c → cl.lookup y = some c → x = y) : ∀ {fr : List Str} {cs : List (Addr × Obj)}, Paired (fun y (c : Addr × Obj) => cl.lookup y = some c.1) fr cs → fr.Nodup → (cs.map (·.1)).Nodup
  | _, _, .nil, _ => List.nodup_nil
  | y :: fr, c :: cs, .cons h t, nd => by
    obtain ⟨n1, n2⟩ := List.nodup_cons.mp nd
    refine List.nodup_cons.mpr ⟨fun z => n1 ?_, paired_nodup hinj t n2⟩
    clear nd n1 n2
    revert z
    generalize hcs : cs = ds at t
    intro z
    obtain ⟨d, h1, h2⟩ := List.mem_map.mp z
    have aux : ∀ {fr : List Str} {ds : List (Addr × Obj)}, Paired (fun y (c : Addr × Obj) => cl.lookup y = some c.1) fr ds → d ∈ ds → ∃ x ∈ fr, cl.lookup x = some d.1 := fun {fr ds} t => by
      induction t with
      | nil => exact fun h => nomatch h
      | cons h t ih =>
        intro hd
        rcases List.mem_cons.mp hd with rfl | hd
        · exact ⟨_, List.mem_cons_self, h⟩
        · obtain ⟨x, q1, q2⟩ := ih hd
          exact ⟨x, List.mem_cons_of_mem _ q1, q2⟩
    obtain ⟨x, q1, q2⟩ := aux t h1
    rw [hinj y x c.1 h (by rw [show c.1 = d.1 from h2.symm]; exact q2)]
    exact q1
section
variable {P : Program} {w : World} {K : PySem.W.Frag} {mg : Str → Option Value} {base : Heap} {N ps fr : List Str} {f c : Addr} {k : Nat} {sp : Sp} {L : LW} {I : Hp}
theorem fnV_lam (S : NdefX.NScope N ps fr L.scope) (hb : ∀ (pm cv ctv : Value) (us : List Value), us.length = ps.length → bindArgs (PySem.W.kla_fn "<lambda>" L.qual L.params L.body L.scope L.cl pm cv ctv) ⟨us, []⟩ = pure (ps.zip us))
    (hinj : ∀ x y c, L.cl.lookup x = some c → L.cl.lookup y = some c → x = y) (hfr : ∀ y c, L.cl.lookup y = some c → y ∈ fr)
    (hsp : ∀ vs H Q, sp vs H Q E0 → vs.length = ps.length ∧ ∃ (cs : List (Addr × Obj)) (ws : List V), Paired (fun y (c : Addr × Obj) => L.cl.lookup y = some c.1) fr cs ∧ Paired (fun (c : Addr × Obj) w => CelO c.2 w) cs ws ∧ (∀ c ∈ cs, H c.1 = some (.frz c.2 topO)) ∧
      ∀ (A : Around) (outer : List Env) (s : Shared) (f c : Addr), Room k (A.deeper (NdefX.envF (L.nf c) f s.heap.objs.size)) → ∃ t, PE (NdefX.ncx CX0 P w K mg base N (L.nf c) f A outer s (cutC cs H) E0) L.body t ∧ t (NdefX.startF N vs (ws.map some)) (cutC cs H) (fun v H2 => (∀ d ∈ cs, H2 d.1 = none) → Q v (addC cs H2)))
    (hf : I f = some (LamO f L c)) (hc : I c = some (LamX.CodeO c L.qual)) : FnV P w K mg base (k + 1) sp (.ref f) I := by
  refine ⟨f, rfl, fun H h x sm => ?_, fun A outer s H us vs Q hr e0 rv sm q => ?_⟩
  · obtain ⟨pm, ctv, e⟩ := lamO_at x (sm _ _ hf)
    exact ⟨_, _, _, _, e⟩
  obtain ⟨hl, cs, ws, p1, p2, hcs, body⟩ := hsp vs H Q q
  obtain ⟨pm, ctv, ho⟩ := lamO_at e0.hok (sm _ _ hf)
  obtain ⟨⟨oc, cvs, t, hoc, hdc, hvc⟩, _, _⟩ := e0.hok c _ (sm _ _ hc)
  have ndf : fr.Nodup := by
    have z := S.nd.sublist (List.take_sublist (ps.length + fr.length) N)
    rw [S.pre] at z
    exact (List.nodup_append.mp z).2.1
  have nd := paired_nodup hinj p1 ndf
  have e1 := env0_cut e0 hcs
  have C : NdefX.CellsAt L.cl fr (ws.map some) s.heap (cutC cs H) := by
    have one : ∀ (i : Nat) (y : Str), fr[i]? = some y → ∃ d ∈ cs, L.cl.lookup y = some d.1 ∧ ∃ v u, ws[i]? = some v ∧ RelV v u ∧ s.heap.IsCell d.1 (some u) := fun i y hy => by
      obtain ⟨d, q1, q2⟩ := paired_at p1 hy
      obtain ⟨v, q3, u, q4, q5⟩ := paired_at p2 q1
      exact ⟨d, List.mem_of_getElem? q1, q2, v, u, q3, q5, d.2, (e0.hok _ _ (hcs d (List.mem_of_getElem? q1))).1, q4⟩
    refine ⟨?_, fun y a ha => ?_, hinj, fun i y hy => ?_⟩
    · rw [List.length_map, ← p2.length, ← p1.length]
    · obtain ⟨i, hi⟩ := List.mem_iff_getElem?.mp (hfr y a ha)
      obtain ⟨d, q1, q2, v, u, _, _, q3⟩ := one i y hi
      rw [ha] at q2
      cases q2
      exact ⟨cutC_in (List.mem_map_of_mem q1), _, q3⟩
    · obtain ⟨d, q1, q2, v, u, q3, q4, q5⟩ := one i y hy
      refine ⟨d.1, q2, fun v2 h2 => ⟨u, ?_, q5⟩⟩
      rw [List.getElem?_map, q3] at h2
      cases h2
      exact q4
  have fin : codeAny (model P w) A (.call (.ref f) ⟨us, []⟩) (CR CX0 outer P w (cutC cs H) s (fun v H2 => (∀ d ∈ cs, H2 d.1 = none) → Q v (addC cs H2)) E0) s := by
    have lim : s.heap.NoLimit := e0.mod.nolimit.keeps fun b o e => (e0.bs b o e).1
    refine PySem.W.kla_callFunE hr.depth ho rfl S.co S.gen rfl ⟨c, oc, cvs, t, rfl, hoc, hdc, hvc⟩ ?_
    rw [hb _ _ _ us (by rw [← rv.length]; exact hl)]
    refine wpAny_pure (wpAny_newFunctionEnv S.nocell (fun ⟨n, _⟩ hy => S.par n (List.of_mem_zip hy).1) (fun h1 hns hsb => ⟨lim.fresh _ hsb, ?_⟩) S.kind)
    have keep : ∀ b o, s.heap.get? b = some o → h1.get? b = some o := fun b o e => hsb.extBut b o (Nat.ne_of_lt (Heap.lt_size e)) (Heap.get?_push_of_some _ e)
    obtain ⟨t2, ht, hq⟩ := body A outer s f c (hr.deeper _)
    have J : Inv (NdefX.ncx CX0 P w K mg base N (L.nf c) f A outer s (cutC cs H) E0) [] (NdefX.startF N vs (ws.map some)) (cutC cs H) { s with heap := h1, toks := s.toks + (ps.zip us).length } :=
      NdefX.inv_startN S hr.hd e1 hl rv C hns keep
    refine PySem.W.kla_codeExpr (wpAny_mono (ht.run [] _ _ _ _ J hq) (fun u s' hz => ?_) fun e s' hz => hz)
    obtain ⟨v, H2, J2, r2, q2⟩ := hz
    exact ⟨v, H2, J2.os, J2.bare, J2.base, J2.hok, r2, q2⟩
  refine codeAny_mono fin fun r s' z => ?_
  match r, z with
  | .ok (.ret u), z => exact ce_add nd e0 hcs z
  | .ok .next, z => exact False.elim z
  | .ok .brk, z => exact False.elim z
  | .ok .cont, z => exact False.elim z
  | .error er, z => exact False.elim z
end
def celL (as : List Addr) (ws : List V) : List ME := (as.zip ws).map fun p => .cel p.1 p.2
theorem celM_L {X : Cx} : ∀ {js : List Nat} {us : List V}, celM X js us = celL (js.map (cAt X)) us
  | [], _ => rfl
  | _ :: _, [] => rfl
  | j :: js, u :: us => by
    show ME.cel (cAt X j) u :: celM X js us = ME.cel (cAt X j) u :: celL (js.map (cAt X)) us
    rw [celM_L]
section
variable {F : List (V × D)} {H : Hp} {M G : List ME} {as : List Addr} {ws : List V}
theorem cn_cels {I : Hp} : ∀ {as : List Addr} {ws : List V} {N : List (Addr × HO)}, as.length = ws.length → CnA I (celL as ws) N → ∃ cs : List (Addr × Obj), cs.map (·.1) = as ∧ Paired (fun (c : Addr × Obj) w => CelO c.2 w) cs ws ∧ N = cs.map fun c => (c.1, HO.frz c.2 topO)
  | [], [], _, _, a => by cases a; exact ⟨[], rfl, .nil, rfl⟩
  | [], _ :: _, _, e, _ => by cases e
  | _ :: _, [], _, e, _ => by cases e
  | x :: as, v :: ws, _, e, a => by
    cases a with
    | cons h a =>
      obtain ⟨cs, h1, h2, rfl⟩ := cn_cels (Nat.succ.inj e) a
      cases h with
      | @cel _ _ o hc => exact ⟨(x, o) :: cs, by rw [List.map_cons, h1], .cons hc h2, rfl⟩
theorem cels_cn {I : Hp} : ∀ {as : List Addr} {ws : List V} {cs : List (Addr × Obj)}, cs.map (·.1) = as → Paired (fun (c : Addr × Obj) w => CelO c.2 w) cs ws → CnA I (celL as ws) (cs.map fun c => (c.1, HO.frz c.2 topO))
  | _, _, _, rfl, .nil => .nil
  | _, _, _, rfl, .cons h t => .cons (.cel h) (cels_cn rfl t)
/-- the cells are put aside while a function's body runs -/
theorem n_cels (w : Wf F H (M ++ (celL as ws ++ G))) (hl : as.length = ws.length) : ∃ cs : List (Addr × Obj), cs.map (·.1) = as ∧ Paired (fun (c : Addr × Obj) w => CelO c.2 w) cs ws ∧ (∀ c ∈ cs, H c.1 = some (.frz c.2 topO)) ∧ as.Nodup ∧ Wf F (cutC cs H) (M ++ G) ∧
    ∀ F' H' M' G', Wf F' H' (M' ++ G') → (∀ c ∈ cs, H' c.1 = none) → Wf F' (addC cs H') (M' ++ (celL as ws ++ G')) := by
  have pm : ∀ M G : List ME, List.Perm (M ++ (celL as ws ++ G)) (celL as ws ++ (M ++ G)) := fun M G => by
    rw [← List.append_assoc, ← List.append_assoc]
    exact List.Perm.append_right _ List.perm_append_comm
  obtain ⟨I, Mc, w, a, hF⟩ := (w.perm (pm M G)).ex
  obtain ⟨N1, N2, rfl, a1, a2⟩ := a.split
  obtain ⟨cs, h1, h2, rfl⟩ := cn_cels hl a1
  have hcs : ∀ c ∈ cs, H c.1 = some (.frz c.2 topO) := fun c hc => (w.mu _ (List.mem_append_left _ (List.mem_map_of_mem (f := fun c : Addr × Obj => (c.1, HO.frz c.2 topO)) hc))).1
  have nd := w.nd
  rw [List.map_append, List.map_map] at nd
  obtain ⟨nd1, nd2, nd3⟩ := List.nodup_append.mp nd
  have nd1 : (cs.map (·.1)).Nodup := nd1
  refine ⟨cs, h1, h2, hcs, h1 ▸ nd1, ⟨I, N2, ⟨fun b x h => ?_, fun p hp => ?_, nd2⟩, a2, hF⟩, fun F' H' M' G' w' hn => Wf.perm ?_ (pm M' G').symm⟩
  · by_cases z : b ∈ cs.map (·.1)
    · obtain ⟨c, q1, q2⟩ := List.mem_map.mp z
      have := (w.mu _ (List.mem_append_left _ (List.mem_map_of_mem (f := fun c : Addr × Obj => (c.1, HO.frz c.2 topO)) q1))).2
      rw [show b = c.1 from q2.symm] at h
      rw [this] at h
      cases h
    · rw [cutC_ne z]
      exact w.imm _ _ h
  · obtain ⟨q1, q2⟩ := w.mu p (List.mem_append_right _ hp)
    refine ⟨?_, q2⟩
    rw [cutC_ne fun z => ?_]
    · exact q1
    · exact nd3 _ z _ (List.mem_map_of_mem hp) rfl
  · obtain ⟨I', Mc', w2, a', hF'⟩ := w'.ex
    have out : ∀ {b : Addr} {o : HO}, H' b = some o → b ∉ cs.map (·.1) := fun {b o} e z => by
      obtain ⟨d, q1, q2⟩ := List.mem_map.mp z
      rw [show b = d.1 from q2.symm, hn d q1] at e
      cases e
    have app : ∀ {M1 M2 : List ME} {N1 N2 : List (Addr × HO)}, CnA I' M1 N1 → CnA I' M2 N2 → CnA I' (M1 ++ M2) (N1 ++ N2) := fun {M1 M2 N1 N2} h1 h2 => by
      induction h1 with
      | nil => exact h2
      | cons h _ ih => exact .cons h ih
    refine ⟨I', cs.map (fun c => (c.1, HO.frz c.2 topO)) ++ Mc', ⟨fun b x e => ?_, fun p hp => ?_, ?_⟩, app (cels_cn h1 h2) a', hF'⟩
    · rw [addC_ne (out (w2.imm _ _ e))]
      exact w2.imm _ _ e
    · rcases List.mem_append.mp hp with h | h
      · obtain ⟨d, q1, rfl⟩ := List.mem_map.mp h
        exact ⟨addC_at nd1 q1, w2.imm.free (hn d q1)⟩
      · obtain ⟨q1, q2⟩ := w2.mu p h
        exact ⟨by rw [addC_ne (out q1)]; exact q1, q2⟩
    · rw [List.map_append, List.map_map]
      refine List.nodup_append.mpr ⟨nd1, w2.nd, fun x hx y hy e => ?_⟩
      obtain ⟨p, q1, q2⟩ := List.mem_map.mp hy
      have := out (w2.mu p q1).1
      rw [show p.1 = y from q2, ← e] at this
      exact this hx
end
/-! ### defs that make functions: their code object is known -/
section
variable {P : Program} {w : World} {K : PySem.W.Frag} {mg : Str → Option Value} {base : Heap}
theorem _root_.L2.FunD.okT {CX : CXT} {x qual : Str} {st : Stmt} {dvs : List V} {f c : Addr} {fd : FuncData} {N ps : List Str} {k : Nat} {sp : Sp} (F : FunD K x qual (defArgs st) (defBody st) (defScope st) dvs [] f fd) (T : fd.code = .ref c) (S : FnScope N ps (defScope st)) (len : ∀ vs H Q E, sp vs H Q E → vs.length = ps.length)
    (hbody : ∀ (A : Around) (outer : List Env) (s : Shared) (H : Hp) (vs : List V) (Q : VK) (E : XK), Room k (A.deeper (envOfC qual (defScope st) s.heap.objs.size f (.ref c))) → sp vs H Q E →
      ∃ t, PSs (cxOf CX P w K mg base N qual (defScope st) f (.ref c) A outer s H E) (defBody st) t ∧ t { nx := fun _ H' => Q .non H', rt := Q } (start N vs) H) : FnOk P w K mg base CX (k + 1) f fd ps sp := by
  obtain ⟨oc, od, dV, kV, doc, pm, an, cdv, ct, osl, rfl, lk, hcd, _, _⟩ := F.ex
  obtain rfl : cdv = .ref c := T
  exact fn_of lk hcd S len fun A outer s H vs Q E hr hsp => hbody A outer s H vs Q E hr hsp
theorem _root_.L2.Fun.okT {x qual : Str} {st : Stmt} {f c : Addr} {fd : FuncData} {N ps : List Str} {k : Nat} {sp : Sp} (F : Fun K x qual st f fd) (T : fd.code = .ref c) (S : FnScope N ps (defScope st)) (len : ∀ vs H Q E, sp vs H Q E → vs.length = ps.length)
    (hbody : ∀ (A : Around) (outer : List Env) (s : Shared) (H : Hp) (vs : List V) (Q : VK) (E : XK), Room k (A.deeper (envOfC qual (defScope st) s.heap.objs.size f (.ref c))) → sp vs H Q E →
      ∃ t, PSs (cxOf CX0 P w K mg base N qual (defScope st) f (.ref c) A outer s H E).nox (defBody st) t ∧ t { nx := fun _ H' => Q .non H', rt := Q } (start N vs) H) : FnOk P w K mg base CX0 (k + 1) f fd ps sp := by
  obtain ⟨oc, od, kV, doc, pm, an, cdv, ct, osl, rfl, lk, hcd⟩ := F.ex
  obtain rfl : cdv = .ref c := T
  refine fn_of lk hcd S len fun A outer s H vs Q E hr hsp => ?_
  obtain ⟨t, h, q⟩ := hbody A outer s H vs Q E hr hsp
  exact ⟨t, h.nox, q⟩
/-- what the end asks: the makers' tables cs -/
def LawT (q : Program) (l : PySem.W.OpenLaw) (w : World) (K : PySem.W.Frag) (CX : CXT) (k n : Nat) (x : Str) (mg : Str → Option Value) (fa : Addr) : Prop := ∃ (fd : FuncData) (cs : List (Addr × Addr)) (sp : Sp),
  (∀ p ∈ cs, (∃ y d, (recsOf q).find? (fun e => e.name == y) = some d ∧ PySem.W.tabIn K y = some p) ∧ K.lookup p.2 = none) ∧ (∀ (s : Shared) (u : Value), BindsTo s fd ⟨[u], []⟩ [(x, u)]) ∧
  (∀ (H : Hp) (a : Addr) (ns : List Int), ns.length ≤ n → (∀ z ∈ ns, Builtin.Int.intBits z ≤ 1048576) → (∀ p ∈ cs, H p.2 = some (.tbl #[])) → SqL K H a (ns.map V.int) → sp [.ref a] H (fun v _ => v = .bl true) fun _ _ _ => False) ∧
  ∀ base : Heap, K.In base → base.Ns mainGlobals mg → (∀ p ∈ cs, LamX.TabB base mg p.1 p.2) → FnOk l.prog w K mg base CX k fa fd [x] sp
theorem walk_T {l : PySem.W.OpenLaw} {n k : Nat} {q : Program} {loose : List Str} {XP : (Str → Option Value) → Heap → Prop} {YP : World → Heap → Prop} {d : DefRec} {K : Params → PySem.W.Frag} {CX : World → CXT} {x : Str}
    (hn : l.most = some n) (hn2 : n ≤ sizeLine) (hdf : d.params.defaults = []) (hr : Room k callerA) (hY : ∀ (w : World) (h : Heap), YP w h → (K w.params).In h)
    (F : ∀ (w : World) (mg : Str → Option Value) (fa : Addr) (h : Heap), (K w.params).In h → h.Ns mainGlobals mg → mg d.name = some (.ref fa) → LawT q l w (K w.params) (CX w) k n x mg fa)
    (hCX : ∀ (w : World) (H : Hp) (s : Shared) (e : Value) (s' : Shared), CX w [] H s (fun _ _ _ => False) e s' → False) :
    PySem.W.WalkO q loose XP YP l.row.toRowW d [] (fun f vs => PySem.call f vs) := by
  refine Att.attach_callB hn hdf fun w s0 s1 mg mb fa o pm cd doc a vs ns G Y ho hd hcd hmg hobj hints hlen hbits hg => ?_
  have KX := hY w _ Y
  obtain ⟨fd, cs, sp, hT, hb, hsp, hF⟩ := F w mg fa _ KX G.T.g hmg
  have tb : ∀ p ∈ cs, PySem.W.CodeHd s1.heap p.1 p.2 ∧ s1.heap.get? p.2 = some { cls := .none, data := .fields #[] } := fun p hp => by
    obtain ⟨⟨y, d2, h1, h2⟩, _⟩ := hT p hp
    exact PySem.W.tab_of G.T KX h1 h2
  exact LamX.law_callTs KX G.T.g G.T.b G.T.builtins G.T.nolimit hg (fun p hp => (tb p hp).2) (fun p hp => (hT p hp).2) (fun p hp => (tb p hp).1) G.T.bmain hobj hints (Nat.le_trans hlen hn2) hr hF hb (fun H hH hS => hsp H a ns hlen hbits hH hS) fun H e s' => hCX w H s1 e s'
end
/-- an empty table at the begin -/
theorem Wf.tb0 {H : Hp} {P : Addr} {q : Str} (h : H P = some (.tbl #[])) : Wf [] H [.tb P q] :=
  ⟨fun _ => none, [(P, .tbl #[])], ⟨fun _ _ e => (nomatch e), fun p hp => by rw [List.mem_singleton.mp hp]; exact ⟨h, rfl⟩, by simp⟩, .cons (.tb trivial fun pos cv e => by
    have z : codeAmong pos [] = some cv := e
    simp [codeAmong] at z) .nil, fun _ h => nomatch h⟩
/-! ### calls with the cells shown -/
def tCalC (X : Cx) (js : List Nat) (sp : Sp) (dvs : List V) (t : TA) : TE := fun σ H Q => t σ H fun vs H1 => ShowQ X js sp (vs ++ dvs) σ H1 Q
def ShowV (X : Cx) (js : List Nat) (k : Nat) (v : V) (vs : List V) (σ : L2.St) (H : Hp) (Q : VK) : Prop := ∃ (sp : Sp) (I : Hp), FnV X.prog X.w X.K X.mg X.base k sp v I ∧ Same I H ∧ ShowQ X js sp vs σ H Q
def tCallVC (X : Cx) (js : List Nat) (k i : Nat) (t : TA) : TE := fun σ H Q => ∃ v, σ[i]? = some (some v) ∧ IsFnV X.prog X.w X.K X.mg X.base k v H ∧ t σ H fun vs H1 => ShowV X js k v vs σ H1 Q
def tFldVC (X : Cx) (js : List Nat) (k : Nat) (m : Str) (te : TE) (t : TA) : TE := fun σ H Q => te σ H fun y H1 => ∃ (a C dx : Addr) (fs : List (Str × V)) (v : V), y = .ref a ∧ H1 a = some (.ins C dx fs) ∧ Cls X.K C ∧ NoAttr X.K C m ∧ fs.lookup m = some v ∧ IsFnV X.prog X.w X.K X.mg X.base k v H1 ∧
      t σ H1 fun vs H2 => ShowV X js k v vs σ H2 Q
theorem s_calC {X : Cx} {js : List Nat} {sp : Sp} {dvs : List V} {t : TA} {σ : L2.St} {H : Hp} {Q : VK} (h : t σ H fun vs H1 => ShowQ X js sp (vs ++ dvs) σ H1 Q) : tCalC X js sp dvs t σ H Q := h
theorem s_callVC {X : Cx} {js : List Nat} {k i : Nat} {t : TA} {σ : L2.St} {H : Hp} {Q : VK} {v : V} (hs : σ[i]? = some (some v)) (hf : IsFnV X.prog X.w X.K X.mg X.base k v H) (h : t σ H fun vs H1 => ShowV X js k v vs σ H1 Q) : tCallVC X js k i t σ H Q := ⟨v, hs, hf, h⟩
theorem s_fldVC {X : Cx} {js : List Nat} {k : Nat} {m : Str} {te : TE} {t : TA} {σ : L2.St} {H : Hp} {Q : VK} (h : te σ H fun y H1 => ∃ (a C dx : Addr) (fs : List (Str × V)) (v : V), y = .ref a ∧ H1 a = some (.ins C dx fs) ∧ Cls X.K C ∧ NoAttr X.K C m ∧ fs.lookup m = some v ∧ IsFnV X.prog X.w X.K X.mg X.base k v H1 ∧ t σ H1 fun vs H2 => ShowV X js k v vs σ H2 Q) : tFldVC X js k m te t σ H Q := h
theorem celled1 {X : Cx} {j : Nat} {y : Str} (nN : X.N.Nodup) (h1 : X.N[j]? = some y) (h2 : X.env.scope.names.lookup y = some .cell) (fn : ∀ y, X.fn y = true) : Celled X [j] :=
  ⟨by simp, nN, fun i hi => by rw [List.mem_singleton.mp hi]; exact ⟨y, h1, h2⟩, fn⟩
section
variable {X : Cx} {x m a : Str} {C : Addr} {i : Nat} {p pos apos p1 p2 : Pos} {e o : Expr} {es : List Expr} {t : TA} {k : Nat} {ps : List Str} {dvs : List V} {sp : Sp} {js : List Nat} {te : TE}
theorem pe_calC (c : Cal X.prog X.w X.K X.mg X.base x k ps dvs sp) (hr : Room k X.A) (hg : Gl X x) (hc : Celled X js) (ha : PA X (e :: es) t) (hdb : (x == ("__debug__" : Str)) = false := by decide)
    (he : starEach (e :: es) X.env = (false, eval e X.env) :: starEach es X.env := by rfl) (hpl : (backTo pos (starEach es X.env)).any (·.1) = false := by rfl) : PE X (.Call (.Name x p) (e :: es) [] pos) (tCalC X js sp dvs t) := by
  obtain ⟨f, fd, ds, F, hm, hk, hb, hd⟩ := c.ex
  refine ⟨fun pins s σ H Q J h => ?_⟩
  refine wpAny_Call_Name_kw (ld_glob J hg hm ?_ hdb)
  exact PySem.W.callWith_K (h₀ := X.base) J.ok.mod.kin hk (thn (ha.run pos pins s σ H _ J h) fun us s1 ⟨vs, H1, J1, r, q⟩ => ⟨J1.kIn, run_fnC F hr hb hd hc J1 r q⟩) he hpl
/-- a function that a slot holds, called with the cells shown -/
theorem pe_callVC (hN : X.N[i]? = some a) (hv : Vis X.env.scope a) (hr : Room k X.A) (hc : Celled X js) (ha : PA X (e :: es) t) (hd : (a == ("__debug__" : Str)) = false := by decide) (hcd : (a == ("__classdict__" : Str)) = false := by decide)
    (he : starEach (e :: es) X.env = (false, eval e X.env) :: starEach es X.env := by rfl) (hpl : (backTo p2 (starEach es X.env)).any (·.1) = false := by rfl) :
    PE X (.Call (.Name a p1) (e :: es) [] p2) (tCallVC X js k i t) := by
  refine ⟨fun pins s σ H Q J h => ?_⟩
  obtain ⟨v, hs, ⟨sp0, I0, ⟨f, ev, fa, _⟩, sm0⟩, h⟩ := h
  subst ev
  refine wpAny_Call_Name_kw (thn ((pe_var (pos := p1) (i := i) hN hv hd hcd).run pins s σ H (fun v H1 => v = .ref f ∧ H1 = H) J ⟨.ref f, hs, rfl, rfl⟩) fun u s1 ⟨v, H1, J1, r1, q1⟩ => ?_)
  obtain ⟨ev, eH⟩ := q1
  subst ev
  rw [eH] at J1
  obtain rfl : u = Value.ref f := r1
  refine PySem.W.callWith_F (fa _ _ J1.hok sm0) (thn (ha.run p2 pins s1 σ H _ J1 h) fun us s2 ⟨vs, H2, J2, rv, sp, I, ⟨f2, ef, fa2, run⟩, sm, q⟩ => ?_) he hpl
  cases ef
  obtain ⟨cs, c1, c2, c3⟩ := cells_are J2 hc q.1
  have sm2 : Same I (addC cs H2) := fun b o e => by
    have := sm b o e
    rw [addC_ne (fun z => ?_)]
    · exact this
    · obtain ⟨d, h1, h2⟩ := List.mem_map.mp z
      rw [← h2, c3 d h1] at this
      cases this
  refine ⟨fa2 _ _ J2.hok sm, wpAny_call (codeAny_mono (run X.A X.stack s2 (addC cs H2) us vs _ hr (env0_add J2.env0 c2 c3) rv sm2 (q.2 cs c1 c2.nd c3)) fun r s' z => ?_)⟩
  match r, z with
  | .ok (.ret u), z => exact J2.after (ce_cut c2 c3 z)
  | .ok .next, z => exact False.elim z
  | .ok .brk, z => exact False.elim z
  | .ok .cont, z => exact False.elim z
  | .error er, z => exact False.elim z
/-- a function that a field holds, called with the cells shown: x.f(..) -/
theorem pe_fldVC {pl : Sem Bool} (ho : PE X o te) (hr : Room k X.A) (hc : Celled X js) (ha : PA X (e :: es) t)
    (he : starEach (e :: es) X.env = (false, eval e X.env) :: starEach es X.env := by rfl) (hpl : (backTo pos (starEach es X.env)).any (·.1) = false := by rfl)
    (ht : eval (.Call (.Attribute o m apos) (e :: es) [] pos) X.env = (do
      let ov ← eval o X.env
      standAt apos.atName
      let (f, first) ← holding [ov] (getMethod ov m pl)
      callWith pos f first (backTo pos (starEach (e :: es) X.env)) (backToKw pos (keywordEach [] X.env))) := by rfl) :
    PE X (.Call (.Attribute o m apos) (e :: es) [] pos) (tFldVC X js k m te t) := by
  refine ⟨fun pins s σ H Q J h => ?_⟩
  refine PySem.W.methodCall_KW (pl := pl) (thn (ho.run pins s σ H _ J h) fun u s1 ⟨y, H1, J1, ry, b, C, dx, fs, v, ey, eb, hC, hno, hl, ⟨sp0, I0, ⟨f, ev, fa, _⟩, sm0⟩, q1⟩ => ?_) ht
  subst ey
  subst ev
  obtain rfl : u = Value.ref b := ry
  refine getmeth_fld J1 eb hC hno hl fun u2 s2 J2 r2 => ?_
  obtain rfl : u2 = Value.ref f := r2
  refine PySem.W.callWith_F (first := []) (fa _ _ J2.hok sm0) (thn (ha.run pos pins s2 σ H1 _ J2 q1) fun us s3 ⟨vs, H2, J3, rv, sp, I, ⟨f2, ef, fa2, run⟩, sm, q⟩ => ?_) he hpl
  cases ef
  obtain ⟨cs, c1, c2, c3⟩ := cells_are J3 hc q.1
  have sm2 : Same I (addC cs H2) := fun b o e => by
    have := sm b o e
    rw [addC_ne (fun z => ?_)]
    · exact this
    · obtain ⟨d, h1, h2⟩ := List.mem_map.mp z
      rw [← h2, c3 d h1] at this
      cases this
  refine ⟨fa2 _ _ J3.hok sm, wpAny_call (codeAny_mono (run X.A X.stack s3 (addC cs H2) us vs _ hr (env0_add J3.env0 c2 c3) rv sm2 (q.2 cs c1 c2.nd c3)) fun r s' z => ?_)⟩
  match r, z with
  | .ok (.ret u), z => exact J3.after (ce_cut c2 c3 z)
  | .ok .next, z => exact False.elim z
  | .ok .brk, z => exact False.elim z
  | .ok .cont, z => exact False.elim z
  | .error er, z => exact False.elim z
end
section
variable {P : Program} {w : World} {K : PySem.W.Frag} {mg : Str → Option Value} {base : Heap} {k : Nat} {sp : Sp} {v : V} {F : List (V × D)} {H : Hp} {M : List ME}
theorem Wf.fnV (ww : Wf F H M) (h : Kn F v (.fact (FnV P w K mg base k sp))) : ∃ I, FnV P w K mg base k sp v I ∧ Same I H := by
  obtain ⟨I, Mc, w1, a, hF⟩ := ww.ex
  have := h.is hF
  cases this with
  | fact s q => exact ⟨_, q, s.trans w1.imm⟩
theorem n_isFn (ww : Wf F H M) (h : Kn F v (.fact (FnV P w K mg base k sp))) : IsFnV P w K mg base k v H := by
  obtain ⟨I, a, b⟩ := ww.fnV h
  exact ⟨sp, I, a, b⟩
theorem n_callV {vs : List V} {Q : VK} (ww : Wf F H M) (h : Kn F v (.fact (FnV P w K mg base k sp))) (q : sp vs H Q E0) : CallV P w K mg base k v vs H Q := by
  obtain ⟨I, a, b⟩ := ww.fnV h
  exact ⟨sp, I, a, b, q⟩
end
/-- entries that are cells of unlike addresses stand together ahead -/
theorem cels_ahead {G : List ME} : ∀ {as : List Addr} {ws : List V} {M : List ME}, as.Nodup → (∀ e ∈ celL as ws, e ∈ M) → ∃ M', List.Perm M (celL as ws ++ M') ∧ ∀ e ∈ M, (∀ c v, e ≠ .cel c v) → e ∈ M'
  | [], _, M, _, _ => ⟨M, .refl _, fun e h _ => h⟩
  | _ :: _, [], M, _, _ => ⟨M, .refl _, fun e h _ => h⟩
  | a :: as, v :: ws, M, nd, h => by
    obtain ⟨n1, n2⟩ := List.nodup_cons.mp nd
    obtain ⟨M1, M2, rfl⟩ := List.append_of_mem (h _ List.mem_cons_self)
    have ne : ∀ e ∈ celL as ws, e ≠ .cel a v := fun e he z => by
      obtain ⟨p, h1, h2⟩ := List.mem_map.mp he
      rw [z] at h2
      injection h2 with h3 _
      exact n1 (h3 ▸ (List.of_mem_zip h1).1)
    obtain ⟨M', p, q⟩ := cels_ahead (G := G) (ws := ws) (M := M1 ++ M2) n2 fun e he => by
      have := h e (List.mem_cons_of_mem _ he)
      rcases List.mem_append.mp this with z | z
      · exact List.mem_append_left _ z
      · rcases List.mem_cons.mp z with z | z
        · exact absurd z (ne e he)
        · exact List.mem_append_right _ z
    refine ⟨M', List.perm_middle.trans (p.cons _), fun e he nc => q e ?_ nc⟩
    rcases List.mem_append.mp he with z | z
    · exact List.mem_append_left _ z
    · rcases List.mem_cons.mp z with z | z
      · exact absurd z (nc a v)
      · exact List.mem_append_right _ z
/-- what a lambda captures are cells of the def that makes it -/
def lamFreeB (sc scope : Scope) : Bool := scope.names.all fun y => !decide (y.2 = .free) || (decide (sc.names.lookup y.1 = some .cell) || decide (sc.names.lookup y.1 = some .free))
theorem lamFree_by {sc scope : Scope} (h : lamFreeB sc scope = true) : ∀ y ∈ scope.names, y.2 = .free → sc.names.lookup y.1 = some .cell ∨ sc.names.lookup y.1 = some .free := fun y hy e => by
  have := List.all_eq_true.mp h y hy
  simp only [Bool.or_eq_true, Bool.not_eq_true', decide_eq_true_eq, decide_eq_false_iff_not] at this
  exact this.resolve_left fun z => z e
section
variable {P : Program} {wd : World} {K : PySem.W.Frag} {mg : Str → Option Value} {base : Heap} {k : Nat} {sp : Sp} {v y : V} {F : List (V × D)} {H : Hp} {M : List ME} {X : Cx} {js : List Nat} {us vs : List V} {σ : L2.St} {Q : VK} {φ ψ : V → Hp → Prop}
theorem n_showV (w : Wf F H M) (h : Kn F v (.fact (FnV X.prog X.w X.K X.mg X.base k sp))) (hv : js.map (fun j => σ[j]?) = us.map (fun u => some (some u)))
    (q : ∀ H1 (Q1 : VK), Wf F H1 (celM X js us ++ M) → (∀ v F' M' H2, Wf F' H2 (celM X js us ++ M') → (∀ H3, Wf F' H3 M' → Q v H3) → Q1 v H2) → sp vs H1 Q1 E0) : ShowV X js k v vs σ H Q := by
  obtain ⟨I, a, b⟩ := w.fnV h
  exact ⟨sp, I, a, b, n_shown w hv q⟩
theorem n_fldFn {C : Addr} {fs : List (Str × D)} {m : Str} {A : V → Prop} (w : Wf F H M) (h : Rk F M y (.obj C fs)) (hc : Cls K C) (hn : NoAttr K C m) (hl : fs.lookup m = some (.fact φ)) (hi : ∀ v, Wf ((v, .fact φ) :: F) H M → A v) :
    ∃ (a C dx : Addr) (fs : List (Str × V)) (v : V), y = .ref a ∧ H a = some (.ins C dx fs) ∧ Cls K C ∧ NoAttr K C m ∧ fs.lookup m = some v ∧ A v := by
  obtain ⟨I, Mc, w, a, hF⟩ := w.ex
  obtain ⟨p, dx, vs, rfl, hp, b⟩ := h.obj w a hF
  obtain ⟨u, e, hu⟩ := b.get hl
  exact ⟨p, C, dx, vs, u, rfl, hp, hc, hn, e, hi u ⟨I, Mc, w, a, fun f hf => by
    rcases List.mem_cons.mp hf with rfl | hf
    · exact hu
    · exact hF f hf⟩⟩
theorem Wf.factTo (w : Wf F H M) (h : Kn F v (.fact φ)) (hi : ∀ v I, φ v I → ψ v I) : Wf ((v, .fact ψ) :: F) H M := by
  obtain ⟨I, Mc, w, a, hF⟩ := w.ex
  have e := h.is hF
  refine ⟨I, Mc, w, a, fun f hf => ?_⟩
  rcases List.mem_cons.mp hf with rfl | hf
  · cases e with
    | fact s q => exact .fact s (hi _ _ q)
  · exact hF f hf
theorem Wf.ref_of {C : Addr} {fs : List (Str × D)} (w : Wf F H M) (h : Kn F v (.obj C fs)) : ∃ a, v = .ref a := by
  obtain ⟨I, Mc, w, a, hF⟩ := w.ex
  have e := h.is hF
  cases e
  exact ⟨_, rfl⟩
theorem Wf.non_of (w : Wf F H M) (h : Kn F v .non) : v = .non := by
  obtain ⟨I, Mc, w, a, hF⟩ := w.ex
  exact (h.is hF).non_eq
theorem Wf.fn_of (w : Wf F H M) (h : Kn F v (.fact (FnV P wd K mg base k sp))) : ∃ a, v = .ref a := by
  obtain ⟨I, ⟨f, e, _⟩, _⟩ := w.fnV h
  exact ⟨f, e⟩
theorem Kn.app {d : D} : ∀ (L : List (V × D)), Kn F v d → Kn (L ++ F) v d
  | [], h => h
  | _ :: L, h => (Kn.app L h).more
theorem Rk.app {d : D} : ∀ (L : List (V × D)), Rk F M v d → Rk (L ++ F) M v d
  | [], h => h
  | _ :: L, h => (Rk.app L h).moreF
end
theorem lk1 {y z : Str} {a c : Addr} (h : [(y, a)].lookup z = some c) : z = y := by
  rw [List.lookup_cons] at h
  cases e : z == y with
  | true => exact eq_of_beq e
  | false => rw [e] at h; cases h
theorem cloFrom_app (cells : List (Str × Addr)) : ∀ (names : List (Str × NameKind)) (acc : List (Str × Addr)), cloFrom cells names acc = (((names.filter fun p => p.2 == .free).map fun p => (p.1, (cells.lookup p.1).getD 0)).reverse) ++ acc
  | [], acc => rfl
  | (n, k) :: r, acc => by
    unfold cloFrom
    cases e : (k == .free) with
    | true => rw [if_pos rfl, cloFrom_app cells r, List.filter_cons, if_pos e, List.map_cons, List.reverse_cons, List.append_assoc]; rfl
    | false => rw [if_neg (by decide), cloFrom_app cells r, List.filter_cons, if_neg (by rw [e]; decide)]
/-- what a lambda with one captured name closes over -/
theorem clo1 {cells : List (Str × Addr)} {names : List (Str × NameKind)} {y : Str} (h : ((names.filter fun p => p.2 == .free).map fun p => p.1) = [y]) : cloFrom cells names [] = [(y, (cells.lookup y).getD 0)] := by
  rw [cloFrom_app, List.append_nil, show ((names.filter fun p => p.2 == .free).map fun p => (p.1, (cells.lookup p.1).getD 0)) = (((names.filter fun p => p.2 == .free).map fun p => p.1).map fun n => (n, (cells.lookup n).getD 0)) by rw [List.map_map]; rfl, h]
  rfl
section
variable {P : Program} {w : World} {K : PySem.W.Frag} {mg : Str → Option Value} {base : Heap} {N ps fr : List Str} {f c : Addr} {k : Nat} {sp : Sp} {L : LW} {I : Hp}
theorem fnV_lam1 {y : Str} {ca : Addr} (hcl : L.cl = [(y, ca)]) (S : NdefX.NScope N ps [y] L.scope) (hb : ∀ (pm cv ctv : Value) (us : List Value), us.length = ps.length → bindArgs (PySem.W.kla_fn "<lambda>" L.qual L.params L.body L.scope L.cl pm cv ctv) ⟨us, []⟩ = pure (ps.zip us))
    (hsp : ∀ vs H Q, sp vs H Q E0 → vs.length = ps.length ∧ ∃ (F : List (V × D)) (M : List ME) (v : V), Wf F H M ∧ .cel ca v ∈ M ∧ ∀ (H1 : Hp) (M1 : List ME) (Q1 : VK), Wf F H1 M1 → (∀ e ∈ M, (∀ c u, e ≠ .cel c u) → e ∈ M1) → (∀ u H2, Wf F H2 M1 → (∀ H3, Wf F H3 M → Q u H3) → Q1 u H2) →
      ∀ (A : Around) (outer : List Env) (s : Shared) (f c : Addr), Room k (A.deeper (NdefX.envF (L.nf c) f s.heap.objs.size)) → ∃ t, PE (NdefX.ncx CX0 P w K mg base N (L.nf c) f A outer s H1 E0) L.body t ∧ t (NdefX.startF N vs [some v]) H1 Q1)
    (hf : I f = some (LamO f L c)) (hc : I c = some (LamX.CodeO c L.qual)) : FnV P w K mg base (k + 1) sp (.ref f) I := by
  refine fnV_lam (fr := [y]) S hb (fun x z c h1 h2 => ?_) (fun x c h => ?_) (fun vs H Q q => ?_) hf hc
  · rw [hcl] at h1 h2
    exact (lk1 h1).trans (lk1 h2).symm
  · rw [hcl] at h
    exact List.mem_singleton.mpr (lk1 h)
  · obtain ⟨hl, F, M, v, w', hm, body⟩ := hsp vs H Q q
    obtain ⟨M1, pm, hM1⟩ := cels_ahead (G := []) (as := [ca]) (ws := [v]) (M := M) (by simp) (fun e he => by rw [List.mem_singleton.mp he]; exact hm)
    obtain ⟨cs, e1, p2, hcs, nd, w2, back⟩ := n_cels (M := []) (as := [ca]) (ws := [v]) (G := M1) (w'.perm pm) rfl
    have w2 : Wf F (cutC cs H) M1 := w2
    have bk : ∀ H2, Wf F H2 M1 → (∀ d ∈ cs, H2 d.1 = none) → Wf F (addC cs H2) M := fun H2 w3 hn => Wf.perm (back F H2 [] M1 w3 hn) pm.symm
    have b2 := body (cutC cs H) M1 (fun v H2 => (∀ d ∈ cs, H2 d.1 = none) → Q v (addC cs H2)) w2 hM1 (fun u H2 w3 q3 hn => q3 _ (bk H2 w3 hn))
    refine ⟨hl, cs, [v], ?_, p2, hcs, fun A outer s f c hr => ?_⟩
    rotate_left
    · exact b2 A outer s f c hr
    have one : ∃ c0, cs = [c0] ∧ c0.1 = ca := by
      clear p2 hcs back bk b2 w2 nd
      cases cs with
      | nil => cases e1
      | cons c0 r =>
        cases r with
        | nil => exact ⟨c0, rfl, (List.cons.inj e1).1⟩
        | cons d r => cases (List.cons.inj e1).2
    obtain ⟨c0, e3, e2⟩ := one
    rw [e3]
    exact .cons (by rw [hcl, e2, List.lookup_cons, beq_self_eq_true]) .nil
end
end Fs

namespace Fs
open PySem PySem.Spec PyProof.Rows L2
/-! ### dicts with pairs as keys: length, kind -/
section
variable {K : PySem.W.Frag} {F : List (V × D)} {M : List ME} {H : Hp} {Q : VK} {p : Addr} {kvs : List (List Key × D)}
theorem IsP.len {I : Hp} {κ : Type} : ∀ {vs : List (κ × V)} {ds : List (κ × D)}, IsP I vs ds → vs.length = ds.length
  | _, _, .nil => rfl
  | _, _, .cons _ a => congrArg Nat.succ (IsP.len a)
theorem n_lenDT (w : Wf F H M) (h : .dt p kvs ∈ M) (q : Q (.int (kvs.length : Nat)) H) : rLenT [.ref p] H Q := by
  obtain ⟨I, Mc, vs, w, a, hF, hp, ha⟩ := w.dtAt h
  exact ⟨p, vs, rfl, hp, by rw [ha.len]; exact q⟩
theorem n_isiDT {b : String} {k : Bool} (w : Wf F H M) (h : .dt p kvs ∈ M) (hb : kitB "dict" b = some k) (q : Q (.bl k) H) : rIsiU K [.ref p, .ty b] H Q := by
  obtain ⟨I, Mc, vs, w, a, hF, hp, ha⟩ := w.dtAt h
  exact .inl ⟨.ref p, .ty b, _, _, k, rfl, .ty b, .base (.dT hp), hb, q⟩
end
/-! ### x is True, x is not False; d.get(k) -/
def IsBQ (b : Bool) (Q : VK) (x : V) (H : Hp) : Prop := ∃ c, x = .bl c ∧ Q (.bl (c == b)) H
def NotBQ (b : Bool) (Q : VK) (x : V) (H : Hp) : Prop := ∃ c, x = .bl c ∧ Q (.bl (c != b)) H
def tIsB (b : Bool) (ta : TE) : TE := fun σ H Q => ta σ H fun x H1 => IsBQ b Q x H1
def tNotB (b : Bool) (ta : TE) : TE := fun σ H Q => ta σ H fun x H1 => NotBQ b Q x H1
section
variable {X : Cx} {a : Expr} {ta : TE} {b c : Bool}
theorem pc_isB {j pos'} (ha : PE X a ta) : PC X .Is a (.Constant (.bool b) j pos') (tIsB b ta) := by
  refine ⟨fun pins s σ H Q I h => ?_⟩
  refine thn (ha.run pins s σ H _ I h) fun v s1 ⟨x, H1, I1, r1, c, e, q1⟩ => ?_
  subst e
  cases r1
  exact Constant_bool (is_bool ⟨.bl _, H1, I1, rfl, q1⟩)
theorem pc_notB {j pos'} (ha : PE X a ta) : PC X .IsNot a (.Constant (.bool b) j pos') (tNotB b ta) := by
  refine ⟨fun pins s σ H Q I h => ?_⟩
  refine thn (ha.run pins s σ H _ I h) fun v s1 ⟨x, H1, I1, r1, c, e, q1⟩ => ?_
  subst e
  cases r1
  exact Constant_bool (isnot_bool ⟨.bl _, H1, I1, rfl, q1⟩)
end
section
variable {K : PySem.W.Frag} {F : List (V × D)} {M : List ME} {H : Hp} {Q : VK} {σ : L2.St} {ta ty : TE} {b c : Bool} {p : Addr} {kvs : List (List Key × D)} {k : List Key} {y : V}
theorem s_isB (h : ta σ H fun x H1 => IsBQ b Q x H1) : tIsB b ta σ H Q := h
theorem s_notB (h : ta σ H fun x H1 => NotBQ b Q x H1) : tNotB b ta σ H Q := h
theorem s_isBt (h : Q (.bl c) H) : IsBQ true Q (.bl c) H := ⟨c, rfl, by cases c <;> exact h⟩
theorem s_isBf (h : Q (.bl (!c)) H) : IsBQ false Q (.bl c) H := ⟨c, rfl, by cases c <;> exact h⟩
theorem s_notBt (h : Q (.bl (!c)) H) : NotBQ true Q (.bl c) H := ⟨c, rfl, by cases c <;> exact h⟩
theorem s_notBf (h : Q (.bl c) H) : NotBQ false Q (.bl c) H := ⟨c, rfl, by cases c <;> exact h⟩
/-- d.get(k) of a dict with tuples as keys -/
def DG1 (ty : TE) (σ : L2.St) (Q : VK) (x : V) (H : Hp) : Prop := ∃ a, x = .ref a ∧ IsD H a ∧ ty σ H fun y H2 => ∃ o, DGet H2 a y o ∧ Q (o.getD .non) H2
def DG1Q (Q : VK) (p : Addr) (y : V) (H : Hp) : Prop := ∃ o, DGet H p y o ∧ Q (o.getD .non) H
theorem s_dget1 (h : ta σ H fun x H1 => DG1 ty σ Q x H1) : tDGet1 ta ty σ H Q := h
theorem n_dgetM (w : Wf F H M) (h : .dt p kvs ∈ M) (q : ty σ H fun y H2 => DG1Q Q p y H2) : DG1 ty σ Q (.ref p) H := by
  obtain ⟨I, Mc, vs, w, a, hF, hp, ha⟩ := w.dtAt h
  exact ⟨p, rfl, .inr ⟨vs, .inl hp⟩, q⟩
theorem n_dgetO (w : Wf F H M) (h : .dt p kvs ∈ M) (hy : Rk F M y (.tup (k.map keyD))) (q : ∀ u, Wf ((u, (getP kvs k).getD .non) :: F) H M → Q u H) : DG1Q Q p y H := by
  obtain ⟨b, rfl, hb⟩ := w.keyT hy
  obtain ⟨I, Mc, vs, w, a, hF, hp, ha⟩ := w.dtAt h
  refine ⟨_, DGet.t hp hb, ?_⟩
  rcases ha.get (k := k) with ⟨h1, h2⟩ | ⟨v, d', h1, h2, h3⟩
  · rw [h2]
    rw [h1] at q
    exact q _ (.cons w a hF .non)
  · rw [h1]
    rw [h2] at q
    exact q v (.cons w a hF h3)
/-- what is known goes over to more facts -/
theorem Rk.ks {F FX : List (V × D)} {M : List ME} {v : V} {d : D} (h : Rk F M v d) (k : KS F FX) (hd : (∃ n, d = .ref n) ∨ (∃ n, d = .ty n) → False) : Rk FX M v d := by
  cases h with
  | mem h => exact .of (k _ h) hd
  | int n => exact .int n
  | bl n => exact .bl n
  | str n => exact .str n
  | non => exact .non
  | ml h => exact .ml h
  | mi h => exact .mi h
/-- k in a dict that is walked -/
theorem n_dinTF {P : Bool → Prop} {vs : List (List Key × V)} {od : Obj} {d : D} (w : Wf F H M) (h : .raw p (.frz od (.dT vs)) ∈ M) (hk : KnP F vs kvs) (hy : Rk F M y (.tup (k.map keyD))) (hd : getP kvs k = some d) (q : P true) : DInQ P (.ref p) y H := by
  obtain ⟨b, rfl, hb⟩ := w.keyT hy
  obtain ⟨v, h1, h2⟩ := hk.get hd
  exact ⟨p, some v, rfl, .inr ⟨vs, k, b, .inr ⟨od, w.rawAt h⟩, rfl, hb, h1.symm⟩, q⟩
end
/-! ### calls with keywords and calls of methods, the cells shown -/
def tCalKC (X : Cx) (js : List Nat) (n m : Nat) (sp : Sp) (gV : List V → List V → List V) (t tk : TA) : TE := fun σ H Q => t σ H fun vs H1 => tk σ H1 fun zs H2 => vs.length = n ∧ zs.length = m ∧ ShowQ X js sp (gV vs zs) σ H2 Q
theorem s_calKC {X : Cx} {js : List Nat} {n m : Nat} {sp : Sp} {gV : List V → List V → List V} {t tk : TA} {σ : L2.St} {H : Hp} {Q : VK} (h : t σ H fun vs H1 => tk σ H1 fun zs H2 => vs.length = n ∧ zs.length = m ∧ ShowQ X js sp (gV vs zs) σ H2 Q) : tCalKC X js n m sp gV t tk σ H Q := h
def tMethC (X : Cx) (js : List Nat) (C : Addr) (m : Str) (sp : Sp) (dvs : List V) (to : TE) (t : TA) : TE := fun σ H Q => to σ H fun x H1 => MethQ C m x H1 (t σ H1 fun vs H2 => ShowQ X js sp (x :: (vs ++ dvs)) σ H2 Q)
theorem s_methC {X : Cx} {js : List Nat} {C : Addr} {m : Str} {sp : Sp} {dvs : List V} {to : TE} {t : TA} {σ : L2.St} {H : Hp} {Q : VK} (h : to σ H fun x H1 => MethQ C m x H1 (t σ H1 fun vs H2 => ShowQ X js sp (x :: (vs ++ dvs)) σ H2 Q)) : tMethC X js C m sp dvs to t σ H Q := h
section
variable {X : Cx} {x m : Str} {C : Addr} {p pos apos : Pos} {e o : Expr} {es : List Expr} {kws : List Keyword} {t tk : TA} {ta : TE} {k n : Nat} {ps ks : List Str} {dvs : List V} {gV : List V → List V → List V} {sp : Sp} {js : List Nat}
theorem pe_calKC (c : CalK X.prog X.w X.K X.mg X.base x k ps n ks gV sp) (hr : Room k X.A) (hg : Gl X x) (hc : Celled X js) (ha : PA X (e :: es) t) (hkw : PK X kws tk)
    (hall : (backToKw pos (keywordEach kws X.env)).all (·.1.isSome) = true := by rfl) (hks : (backToKw pos (keywordEach kws X.env)).filterMap (·.1) = ks := by rfl) (hdb : (x == ("__debug__" : Str)) = false := by decide)
    (he : starEach (e :: es) X.env = (false, eval e X.env) :: starEach es X.env := by rfl) (hpl : ((backTo pos (starEach (e :: es) X.env)).any (·.1) || (backToKw pos (keywordEach kws X.env)).any (·.1.isNone)) = false := by rfl) :
    PE X (.Call (.Name x p) (e :: es) kws pos) (tCalKC X js n ks.length sp gV t tk) := by
  obtain ⟨f, fd, g, F, hm, hk, hb⟩ := c.ex
  refine ⟨fun pins s σ H Q J h => ?_⟩
  refine wpAny_Call_Name_kw (ld_glob J hg hm ?_ hdb)
  refine PySem.W.callWith_KW (h₀ := X.base) J.ok.mod.kin hk hall (thn (ha.run pos pins s σ H _ J h) fun us s1 ⟨vs, H1, J1, r, q⟩ => ?_) hpl he
  refine thn (hkw.run pos pins s1 σ H1 _ J1 q) fun ws s2 ⟨zs, H2, J2, rz, l1, l2, q2⟩ => ⟨J2.kIn, ?_⟩
  rw [hks]
  obtain ⟨cs, c1, c2, c3⟩ := cells_are J2 hc q2.1
  have q := q2.2 cs c1 c2.nd c3
  have r2 := hb.rel r rz
  refine wpAny_call (codeAny_mono (F.run X.A X.stack s2 (addC cs H2) ⟨us, ks.zip ws⟩ (g us ws) (gV vs zs) _ E0 hr (env0_add J2.env0 c2 c3) (hb.to s2 us ws J2.kIn (r.length.symm.trans l1) (rz.length.symm.trans l2)) r2 q) fun z s' hz => ?_)
  match z, hz with
  | .ok (.ret u), hz => exact J2.after (ce_cut c2 c3 hz)
  | .ok .next, hz => exact False.elim hz
  | .ok .brk, hz => exact False.elim hz
  | .ok .cont, hz => exact False.elim hz
  | .error er, hz => exact False.elim hz
theorem pe_metC {pl : Sem Bool} (he : PE X o ta) (c : Met X.prog X.w X.K X.mg X.base m C k ps dvs sp) (hr : Room k X.A) (hc : Celled X js) (ha : PA X (e :: es) t)
    (hst : starEach (e :: es) X.env = (false, eval e X.env) :: starEach es X.env := by rfl) (hpl : (backTo pos (starEach es X.env)).any (·.1) = false := by rfl)
    (ht : eval (.Call (.Attribute o m apos) (e :: es) [] pos) X.env = (do
      let ov ← eval o X.env
      standAt apos.atName
      let (f, first) ← holding [ov] (getMethod ov m pl)
      callWith pos f first (backTo pos (starEach (e :: es) X.env)) (backToKw pos (keywordEach [] X.env))) := by rfl) :
    PE X (.Call (.Attribute o m apos) (e :: es) [] pos) (tMethC X js C m sp dvs ta t) := by
  obtain ⟨f, fd, ds, c, hm, F, hb, hd⟩ := c.ex
  refine ⟨fun pins s σ H Q I h => ?_⟩
  refine PySem.W.methodCall_KW (pl := pl) (thn (he.run pins s σ H _ I h) fun u s1 ⟨x, H1, I1, rx, a, dx, fs, ex, ea, l, q⟩ => ?_) ht
  subst ex
  obtain rfl : u = Value.ref a := rx
  refine getmeth_ok I1 ea c hm l ?_
  refine PySem.W.callWith_K (first := [.ref a]) (h₀ := X.base) I.ok.mod.kin hm.kp (thn (ha.run pos pins s1 σ H1 _ I1 q) fun us s2 ⟨vs, H2, I2, r, q2⟩ => ⟨I2.kIn, ?_⟩) hst hpl
  exact run_fnC (us := .ref a :: us) (vs := .ref a :: vs) F hr hb hd hc I2 (.cons rfl r) q2
theorem pe_met0C {pl : Sem Bool} (he : PE X o ta) (c : Met X.prog X.w X.K X.mg X.base m C k ps dvs sp) (hr : Room k X.A) (hc : Celled X js)
    (ht : eval (.Call (.Attribute o m apos) [] [] pos) X.env = (do
      let ov ← eval o X.env
      standAt apos.atName
      let (f, first) ← holding [ov] (getMethod ov m pl)
      callWith pos f first (backTo pos (starEach [] X.env)) (backToKw pos (keywordEach [] X.env))) := by rfl) :
    PE X (.Call (.Attribute o m apos) [] [] pos) (tMethC X js C m sp dvs ta tNil) := by
  obtain ⟨f, fd, ds, c, hm, F, hb, hd⟩ := c.ex
  refine ⟨fun pins s σ H Q I h => ?_⟩
  refine PySem.W.methodCall_KW (pl := pl) (thn (he.run pins s σ H _ I h) fun u s1 ⟨x, H1, I1, rx, a, dx, fs, ex, ea, l, q⟩ => ?_) ht
  subst ex
  obtain rfl : u = Value.ref a := rx
  refine getmeth_ok I1 ea c hm l ?_
  exact PySem.W.callWith_K0 (first := [.ref a]) I1.kIn hm.kp (run_fnC (us := [.ref a]) (vs := [.ref a]) F hr hb hd hc I1 (.cons rfl .nil) q)
end
end Fs

namespace Fs
open PySem PySem.Spec PyProof.Rows L2
theorem hu65 {k : Nat} {A : Around} (r : Room k A) : A.units + 65 < cLine := by have := r.un; omega
/-! ### setdefault, get and pop of dicts with tuples as keys -/
section
variable {X : Cx} {pins : List (Addr × Obj)} {σ : L2.St} {H : Hp} {s : Shared} {a b : Addr} {d : V} {r : Value} {A : Around} {E : Value → Shared → Prop} {kvs : List (List Key × V)} {k : List Key}
theorem d_setdT {Q : Value → Shared → Prop} (hu : A.units + 1 < cLine) (I : Inv X pins σ H s) (e : H a = some (.dT kvs)) (eb : H b = some (.tup (k.map kV))) (rd : RelV d r) (hl : kvs.length < sizeLine)
    (h1 : ∀ v, valV kvs k = some v → ∀ (w' : Value) (s' : Shared), Inv X pins σ H s' → RelV v w' → Q w' s') (h2 : valV kvs k = none → ∀ (w' : Value) (s' : Shared), Inv X pins σ (upd H a (.dT (putK kvs k d))) s' → RelV d w' → Q w' s') :
    wpAny (model X.prog X.w) A (call (.builtin "dict.setdefault") [.ref a, .ref b, r]) Q E s := by
  obtain ⟨z, hd, xs, rel, dd⟩ := dt_of I.hok e
  have hz : xs.length ≤ sizeLine := by rw [← Paired.length rel]; exact z
  refine call_setdefault_heap (hsz := hz) (tupleKind_room_in1 hu) (key_of I.hok eb) hd dd (fun p hp => ?_) fun hn h' dd' hs => ?_
  · have q := rel.val k
    rw [hp] at q
    cases q0 : valV kvs k with
    | none =>
      rw [q0] at q
      exact (show False from q).elim
    | some v0 =>
      rw [q0] at q
      exact h1 v0 q0 _ _ (I.tok _) q
  · have q := rel.val k
    rw [hn] at q
    cases q0 : valV kvs k with
    | some v0 =>
      rw [q0] at q
      exact (show False from q).elim
    | none =>
      have hl2 : (putK kvs k d).length ≤ sizeLine := by have := length_putK kvs k d; omega
      obtain ⟨o, es, ep, ho, g2, g3, g4, _, g5⟩ := dd'
      refine h2 q0 _ _ (d_write I (by rw [e]; exact True.intro) hs ⟨o, ho⟩ ⟨hl2, hd, _, (rel.put k eb rd).keeps fun c ys ec => ?_, o, es, ep, ho, g2, g3, g4, g5⟩) rd
      rw [upd_ne (ne_of ec e (fun z => nomatch z))]
      exact ec
theorem KT.drop {H : Hp} {kvs : List (List Key × V)} {xs : List (List Key × Addr × Value)} (r : KT H kvs xs) (k : List Key) : KT H (dropK kvs k) (withoutH xs k) := by
  unfold dropK withoutH
  induction r with
  | nil => exact .nil
  | @cons p q ps qs h t ih =>
    obtain ⟨h1, h2⟩ := h
    rw [List.filter_cons, List.filter_cons]
    by_cases e : p.1 = k
    · have a : ¬ decide (p.1 ≠ k) = true := by simp [e]
      have b : ¬ decide (q.1 ≠ k) = true := by simp [h1.symm.trans e]
      rw [if_neg a, if_neg b]; exact ih
    · have e' : ¬ q.1 = k := fun z => e (h1.trans z)
      have a : decide (p.1 ≠ k) = true := by simp [e]
      have b : decide (q.1 ≠ k) = true := by simp [e']
      rw [if_pos a, if_pos b]; exact .cons ⟨h1, h2⟩ ih
theorem d_popT {v : V} {Q : Value → Shared → Prop} (hu : A.units + 1 < cLine) (I : Inv X pins σ H s) (e : H a = some (.dT kvs)) (eb : H b = some (.tup (k.map kV))) (l : valV kvs k = some v)
    (h : ∀ w' s', Inv X pins σ (upd H a (.dT (dropK kvs k))) s' → RelV v w' → Q w' s') : wpAny (model X.prog X.w) A (call (.builtin "dict.pop") [.ref a, .ref b]) Q E s := by
  obtain ⟨z, hd, xs, rel, dd⟩ := dt_of I.hok e
  have hz : xs.length ≤ sizeLine := by rw [← Paired.length rel]; exact z
  obtain ⟨w', hw, rw'⟩ := RelO.some_of (v := v) (o := (atKey xs k).map (·.2)) (by rw [← l]; exact rel.val k)
  obtain ⟨p, hp, hp2⟩ := Option.map_eq_some_iff.mp hw
  refine call_pop_heap (hsz := hz) (.inl rfl) (PySem.F.args_dict_pop_2 _ _) (tupleKind_room_in1 hu) (key_of I.hok eb) hd dd hp fun h' dd' hs => ?_
  have hl2 : (dropK kvs k).length ≤ sizeLine := Nat.le_trans (dropK_le kvs k) z
  obtain ⟨o, es, ep, ho, g2, g3, g4, _, g5⟩ := dd'
  rw [hp2]
  refine h _ _ (d_write I (by rw [e]; exact True.intro) hs ⟨o, ho⟩ ⟨hl2, hd, _, (KT.drop rel k).keeps fun c ys ec => ?_, o, es, ep, ho, g2, g3, g4, g5⟩) rw'
  rw [upd_ne (ne_of ec e (fun z => nomatch z))]
  exact ec
end
/-- a[y], set to z where it is not there -/
def DSetQ (Q : VK) (a : Addr) (y z : V) (H : Hp) : Prop := ∃ (kvs : List (List Key × V)) (k : List Key) (b : Addr), H a = some (.dT kvs) ∧ y = .ref b ∧ H b = some (.tup (k.map kV)) ∧ kvs.length < sizeLine ∧
  (∀ v, valV kvs k = some v → Q v H) ∧ (valV kvs k = none → Q z (upd H a (.dT (putK kvs k z))))
def DPopQ (Q : VK) (a : Addr) (y : V) (H : Hp) : Prop := ∃ (kvs : List (List Key × V)) (k : List Key) (b : Addr) (v : V), H a = some (.dT kvs) ∧ y = .ref b ∧ H b = some (.tup (k.map kV)) ∧ valV kvs k = some v ∧ Q v (upd H a (.dT (dropK kvs k)))
def DGet2Q (Q : VK) (a : Addr) (y z : V) (H : Hp) : Prop := ∃ o, DGet H a y o ∧ Q (o.getD z) H
def DOnQ (x : V) (H : Hp) (R : Addr → Prop) : Prop := ∃ a, x = .ref a ∧ IsD H a ∧ R a
def tDSetT (td ty tx : TE) : TE := fun σ H Q => td σ H fun x H1 => DOnQ x H1 fun a => ty σ H1 fun y H2 => tx σ H2 fun z H3 => DSetQ Q a y z H3
def tDPopT (td ty : TE) : TE := fun σ H Q => td σ H fun x H1 => DOnQ x H1 fun a => ty σ H1 fun y H2 => DPopQ Q a y H2
def tDGetT (td ty tx : TE) : TE := fun σ H Q => td σ H fun x H1 => DOnQ x H1 fun a => ty σ H1 fun y H2 => tx σ H2 fun z H3 => DGet2Q Q a y z H3
section
variable {X : Cx} {o e f : Expr} {td ty tx : TE} {apos cpos : Pos} {σ : L2.St} {H : Hp} {Q : VK}
theorem pe_dsetT (hu : X.A.units + 1 < cLine) (ho : PE X o td) (he : PE X e ty) (hf : PE X f tx) (m : M2 X o "setdefault" apos e f cpos) : PE X (.Call (.Attribute o "setdefault" apos) [e, f] [] cpos) (tDSetT td ty tx) := by
  refine ⟨fun pins s σ H Q I h => ?_⟩
  refine wpAny_Call_method m.base m.few m.line PySem.F.plainAttrs_dict PySem.F.slot_dict_setdefault PySem.F.type_dict_setdefault (thn (ho.run pins s σ H _ I h) fun u s1 ⟨x, H1, I1, rx, a, ex, d, q1⟩ => ?_)
  subst ex
  obtain rfl : u = Value.ref a := rx
  obtain ⟨t1, t2, _⟩ := isD_at I1 d
  refine ⟨t1, t2, ?_⟩
  rw [m.trees]
  refine Calls.callWith_builtin rfl (Calls.evalArgs_plain (Calls.spliced_cons (thn (he.run pins s1 σ H1 _ I1 q1) fun iv s2 ⟨y, H2, I2, ry, q2⟩ =>
    Calls.spliced_cons (thn (hf.run pins s2 σ H2 _ I2 q2) fun fv s3 ⟨z, H3, I3, rz, kvs, k, b, ea, ey, eb, hl, q3, q4⟩ => Calls.spliced_nil ?_))))
  subst ey
  obtain rfl : iv = Value.ref b := ry
  exact d_setdT hu I3 ea eb rz hl (fun v hv w' s4 I4 rw' => ⟨v, _, I4, rw', q3 v hv⟩) fun hn w' s4 I4 rw' => ⟨z, _, I4, rw', q4 hn⟩
theorem pe_dpopT (hu : X.A.units + 1 < cLine) (ho : PE X o td) (he : PE X e ty) (m : M1 X o "pop" apos e cpos) : PE X (.Call (.Attribute o "pop" apos) [e] [] cpos) (tDPopT td ty) := by
  refine ⟨fun pins s σ H Q I h => ?_⟩
  refine wpAny_Call_method m.base m.few m.line PySem.F.plainAttrs_dict PySem.F.slot_dict_pop PySem.F.type_dict_pop (thn (ho.run pins s σ H _ I h) fun u s1 ⟨x, H1, I1, rx, a, ex, d, q1⟩ => ?_)
  subst ex
  obtain rfl : u = Value.ref a := rx
  obtain ⟨t1, t2, _⟩ := isD_at I1 d
  refine ⟨t1, t2, ?_⟩
  rw [m.trees]
  refine Calls.callWith_builtin rfl (Calls.evalArgs_plain (Calls.spliced_cons (thn (he.run pins s1 σ H1 _ I1 q1) fun iv s2 ⟨y, H2, I2, ry, kvs, k, b, v, ea, ey, eb, l, q2⟩ => Calls.spliced_nil ?_)))
  subst ey
  obtain rfl : iv = Value.ref b := ry
  exact d_popT hu I2 ea eb l fun w' s3 I3 rw' => ⟨v, _, I3, rw', q2⟩
theorem pe_dgetT2 (hu : X.A.units + 1 < cLine) (ho : PE X o td) (he : PE X e ty) (hf : PE X f tx) (m : M2 X o "get" apos e f cpos) : PE X (.Call (.Attribute o "get" apos) [e, f] [] cpos) (tDGetT td ty tx) := pe_dget2 hu ho he hf m
theorem s_dset (h : td σ H fun x H1 => DOnQ x H1 fun a => ty σ H1 fun y H2 => tx σ H2 fun z H3 => DSetQ Q a y z H3) : tDSetT td ty tx σ H Q := h
theorem s_dpopT (h : td σ H fun x H1 => DOnQ x H1 fun a => ty σ H1 fun y H2 => DPopQ Q a y H2) : tDPopT td ty σ H Q := h
theorem s_dgetT2 (h : td σ H fun x H1 => DOnQ x H1 fun a => ty σ H1 fun y H2 => tx σ H2 fun z H3 => DGet2Q Q a y z H3) : tDGetT td ty tx σ H Q := h
end
/-- a dict that stays as it is, as a fact -/
def DtF (kvs : List (List Key × D)) : V → Hp → Prop := fun v J => ∃ a vs, v = .ref a ∧ J a = some (.dT vs) ∧ IsP J vs kvs
section
variable {K : PySem.W.Frag} {F : List (V × D)} {M M' M0 : List ME} {H : Hp} {Q : VK} {p : Addr} {kvs : List (List Key × D)} {k : List Key} {v y z x : V} {d e : D} {ds : List D} {R : Addr → Prop}
theorem n_dOn (w : Wf F H M) (h : .dt p kvs ∈ M) (q : R p) : DOnQ (.ref p) H R := by
  obtain ⟨I, Mc, vs, w, a, hF, hp, ha⟩ := w.dtAt h
  exact ⟨p, rfl, .inr ⟨vs, .inl hp⟩, q⟩
theorem Wf.dtF (w : Wf F H M) (h : Kn F x (.fact (DtF kvs))) : ∃ I Mc p vs, x = .ref p ∧ W I H Mc ∧ CnA I M Mc ∧ (∀ f ∈ F, Is I f.1 f.2) ∧ H p = some (.dT vs) ∧ IsP I vs kvs := by
  obtain ⟨I, Mc, w, a, hF⟩ := w.ex
  have h2 := h.is hF
  cases h2 with
  | fact s q =>
    obtain ⟨p, vs, rfl, h3, h4⟩ := q
    exact ⟨I, Mc, p, vs, rfl, w, a, hF, w.imm _ _ (s _ _ h3), h4.mono s⟩
theorem n_dOnF (w : Wf F H M) (h : Kn F x (.fact (DtF kvs))) (q : ∀ p, x = .ref p → R p) : DOnQ x H R := by
  obtain ⟨I, Mc, p, vs, rfl, w, a, hF, hp, ha⟩ := w.dtF h
  exact ⟨p, rfl, .inr ⟨vs, .inl hp⟩, q p rfl⟩
theorem n_dsetT (w : Wf F H M) (f : Foc M (.dt p kvs) M' (.dt p (putP kvs k d))) (hy : Rk F M y (.tup (k.map keyD))) (hv : Kn F z d) (hl : kvs.length ≤ 100000)
    (q1 : ∀ e u, getP kvs k = some e → Wf ((u, e) :: F) H M → Q u H) (q2 : getP kvs k = none → ∀ H', Wf F H' M' → Q z H') : DSetQ Q p y z H := by
  obtain ⟨b, rfl, hb⟩ := w.keyT hy
  have w0 := w
  obtain ⟨I, Mc, w, a, hF⟩ := w.ex
  obtain ⟨M1, m, M2, rfl, h3, h4⟩ := a.foc f
  cases h3 with
  | @dt _ vs _ ha =>
    refine ⟨vs, k, b, w.at, rfl, hb, by rw [ha.length]; exact Nat.lt_of_le_of_lt hl (by decide), fun v hv' => ?_, fun hn => ?_⟩
    · rcases ha.get (k := k) with ⟨h1, h2⟩ | ⟨v', d', h1, h2, h5⟩
      · rw [h2] at hv'; cases hv'
      · rw [h1] at hv'
        cases hv'
        exact q1 _ _ h2 (.cons w a hF h5)
    · rcases ha.get (k := k) with ⟨h1, h2⟩ | ⟨v', d', h1, h2, h5⟩
      · exact q2 h1 _ ⟨I, _, w.put, h4 I _ (Same.refl _) (.dt (ha.put (hv.is hF))), hF⟩
      · rw [h1] at hn; cases hn
def dropP {κ : Type} [DecidableEq κ] (kvs : List (κ × D)) (k : κ) : List (κ × D) := kvs.filter fun kv => decide (kv.1 ≠ k)
theorem IsP.drop {I : Hp} {κ : Type} [DecidableEq κ] {k : κ} : ∀ {vs : List (κ × V)} {ds : List (κ × D)}, IsP I vs ds → IsP I (dropK vs k) (dropP ds k)
  | _, _, .nil => .nil
  | _, _, .cons (f := j) h a => by
    unfold dropK dropP
    rw [List.filter_cons, List.filter_cons]
    by_cases e : j = k
    · have c : ¬ decide (j ≠ k) = true := by simp [e]
      rw [if_neg c, if_neg c]; exact IsP.drop a
    · have c : decide (j ≠ k) = true := by simp [e]
      rw [if_pos c, if_pos c]; exact .cons h (IsP.drop a)
theorem n_dpopT (w : Wf F H M) (f : Foc M (.dt p kvs) M' (.dt p (dropP kvs k))) (hy : Rk F M y (.tup (k.map keyD))) (hd : getP kvs k = some d) (q : ∀ u H', Wf ((u, d) :: F) H' M' → Q u H') : DPopQ Q p y H := by
  obtain ⟨b, rfl, hb⟩ := w.keyT hy
  obtain ⟨I, Mc, w, a, hF⟩ := w.ex
  obtain ⟨M1, m, M2, rfl, h3, h4⟩ := a.foc f
  cases h3 with
  | @dt _ vs _ ha =>
    rcases ha.get (k := k) with ⟨h1, h2⟩ | ⟨v', d', h1, h2, h5⟩
    · rw [h1] at hd; cases hd
    · rw [h2] at hd
      cases hd
      exact ⟨vs, k, b, v', w.at, rfl, hb, h1, q _ _ (Wf.cons w.put (h4 I _ (Same.refl _) (.dt ha.drop)) hF h5)⟩
theorem n_dget2F (w : Wf F H M) (h : Kn F (.ref p) (.fact (DtF kvs))) (hy : Rk F M y (.tup (k.map keyD))) (q1 : ∀ e u, getP kvs k = some e → Wf ((u, e) :: F) H M → Q u H) (q2 : getP kvs k = none → Q z H) : DGet2Q Q p y z H := by
  obtain ⟨b, rfl, hb⟩ := w.keyT hy
  obtain ⟨I, Mc, p', vs, ep, w, a, hF, hp, ha⟩ := w.dtF h
  cases ep
  refine ⟨_, DGet.t hp hb, ?_⟩
  rcases ha.get (k := k) with ⟨h1, h2⟩ | ⟨v, d', h1, h2, h3⟩
  · rw [h2]
    exact q2 h1
  · rw [h1]
    exact q1 _ v h2 (.cons w a hF h3)
/-- dict of the heap: it is shut -/
theorem Wf.frzT (w : Wf F H M) (r : Rem M (.dt p kvs) M') : Wf ((.ref p, .fact (DtF kvs)) :: F) H M' := by
  obtain ⟨I, Mc, w, a, hF⟩ := w.ex
  obtain ⟨M1, m, M2, rfl, h1, h2⟩ := a.rem r
  cases h1 with
  | dt b =>
    refine ⟨_, _, w.frz, h2.mono w.frzS, fun f hf => ?_⟩
    rcases List.mem_cons.mp hf with rfl | hf
    · exact .fact (Same.refl _) ⟨p, _, rfl, upd_same, b.mono w.frzS⟩
    · exact (hF f hf).mono w.frzS
/-- what the values of a dict are known to be besides -/
inductive KvUp (F : List (V × D)) : List (List Key × D) → List (List Key × D) → Prop
  | nil : KvUp F [] []
  | cons {k : List Key} {a : Addr} {d : D} {r r' : List (List Key × D)} : Kn F (.ref a) d → KvUp F r r' → KvUp F ((k, .ref a) :: r) ((k, d) :: r')
theorem KvUp.isP {I : Hp} (hF : ∀ f ∈ F, Is I f.1 f.2) : ∀ {kvs kvs' : List (List Key × D)} {vs : List (List Key × V)}, KvUp F kvs kvs' → IsP I vs kvs → IsP I vs kvs'
  | _, _, _, .nil, .nil => .nil
  | _, _, _, .cons h u, .cons g a => .cons (by rw [g.ref_eq]; exact h.is hF) (u.isP hF a)
theorem Wf.dtUp {kvs' : List (List Key × D)} (w : Wf F H (.dt p kvs :: M)) (u : KvUp F kvs kvs') : Wf F H (.dt p kvs' :: M) := by
  obtain ⟨I, Mc, w, a, hF⟩ := w.ex
  cases a with
  | cons h a =>
    cases h with
    | dt b => exact ⟨I, _, w, .cons (.dt (u.isP hF b)) a, hF⟩
/-- many lists are shut -/
theorem Wf.frzLs : ∀ (L : List (Addr × List D)) {F : List (V × D)} {M : List ME}, Wf F H (L.map (fun x => ME.ml x.1 x.2) ++ M) → Wf (L.map (fun x => (V.ref x.1, D.lst x.2)) ++ F) H M
  | [], _, _, w => w
  | x :: L, F, M, w => by
    have w1 := (w.frzL (p := x.1) (ds := x.2) .here)
    have w2 := Wf.frzLs L w1
    refine w2.sub (fun f hf => .mem ?_) (.refl _)
    simp only [List.map_cons, List.cons_append, List.mem_cons, List.mem_append] at hf ⊢
    rcases hf with hf | hf | hf
    · exact .inr (.inl hf)
    · exact .inl hf
    · exact .inr (.inr hf)
theorem Foc.app {e e' : ME} (A : List ME) (f : Foc M e M' e') : Foc (A ++ M) e (A ++ M') e' := by
  induction A with
  | nil => exact f
  | cons x A ih => exact .there ih
theorem Foc.left {e e' : ME} (f : Foc M e M' e') (B : List ME) : Foc (M ++ B) e (M' ++ B) e' := by
  induction f with
  | here => exact .here
  | there _ ih => exact .there ih
/-! ### x in l, items data of any depth -/
theorem k_inD {X : Cx} (h : X.K = K) (hu : X.A.units + 65 < cLine) : OpR X (compareOp .In) (rInD K) := h ▸ op_inD hu
theorem k_notinD {X : Cx} (h : X.K = K) (hu : X.A.units + 65 < cLine) : OpR X (compareOp .NotIn) (rNotInD K) := h ▸ op_notInD hu
theorem any_pds {k : Nat} (n : NB k d) : ∀ {ds : List D}, (∀ e ∈ ds, NB k e) → ((D.pds ds).any (fun z => PyData.eqv z d.pd) = true ↔ d ∈ ds)
  | [], _ => by simp [D.pds]
  | e :: ds, h => by
    have h1 := (h e List.mem_cons_self).eqv n
    rw [D.pds, List.any_cons, Bool.or_eq_true, any_pds n fun x hx => h x (List.mem_cons_of_mem _ hx), h1, List.mem_cons]
    exact ⟨fun o => o.imp Eq.symm id, fun o => o.imp Eq.symm id⟩
theorem n_inD {k : Nat} {b : Bool} (w : Wf F H M) (hx : Rk F M x d) (hy : Rk F M y (.lst ds)) (n : NB k d) (m : ∀ e ∈ ds, NB k e) (hk : k < 64) (hb : b = true ↔ d ∈ ds) (q : Q (.bl b) H) : rInD K x y H Q :=
  ⟨d.pd, D.pds ds, n.dpH (w.rd hx), (NB.lst m).dpH (w.rd hy), n.shaped (by omega), (NB.lst m).shaped (by omega), by rw [show (D.pds ds).any (fun z => PyData.eqv z d.pd) = b from by rw [Bool.eq_iff_iff, any_pds n m, hb]]; exact q⟩
theorem n_notinD {k : Nat} {b : Bool} (w : Wf F H M) (hx : Rk F M x d) (hy : Rk F M y (.lst ds)) (n : NB k d) (m : ∀ e ∈ ds, NB k e) (hk : k < 64) (hb : b = true ↔ d ∈ ds) (q : Q (.bl (!b)) H) : rNotInD K x y H Q :=
  ⟨d.pd, D.pds ds, n.dpH (w.rd hx), (NB.lst m).dpH (w.rd hy), n.shaped (by omega), (NB.lst m).shaped (by omega), by rw [show (D.pds ds).any (fun z => PyData.eqv z d.pd) = b from by rw [Bool.eq_iff_iff, any_pds n m, hb]]; exact q⟩
end
end Fs

namespace Fs
open PySem PySem.Spec PyProof.Rows L2
/-! ### a def within a def, as a value that may be called -/
/-- its words -/
structure DW where
  name : Str
  qual : Str
  params : Arguments
  body : List Stmt
  scope : Scope
  cl : List (Str × Addr)
abbrev DW.nf (L : DW) (c : Addr) : NdefX.NF := ⟨L.name, L.qual, L.params, L.body, L.scope, L.cl, c⟩
def tDefV (Pt : Addr) (pos : Pos) (i : Nat) (L : DW) : TS := fun D σ H => ∃ ps : Array Value, H Pt = some (.tbl ps) ∧ TabK H L.qual ps ∧
  (∀ f c, H c = none → H f = none → f ≠ c → D.nx (σ.set i (some (.ref f))) (upd (upd (upd H Pt (.tbl (ps ++ #[rawInt pos.line, rawInt pos.col, .ref c]))) c (LamX.CodeO c L.qual)) f (NdefX.FnO f (L.nf c)))) ∧
  ∀ f c, codeAmong pos ps.toList = some (.ref c) → H f = none → D.nx (σ.set i (some (.ref f))) (upd H f (NdefX.FnO f (L.nf c)))
section
variable {X : Cx} {c P : Addr} {name : Str} {params : Arguments} {body : List Stmt} {scope : Scope} {pos : Pos} {i : Nat}
theorem ps_defV (B : LamX.TabB X.base X.mg c P) (hcode : X.env.code = .ref c) (hfree : ∀ y ∈ scope.names, y.2 = .free → X.env.scope.names.lookup y.1 = some .cell ∨ X.env.scope.names.lookup y.1 = some .free) (hd0 : params.defaults = []) (hk0 : params.kw_defaults = []) (ha : annTrees params none X.env = [])
    (hN : X.N.Nodup) (hi : X.N[i]? = some name) (hx : Loc X.env.scope name) (hf : X.fn name = true ∨ X.env.scope.names.lookup name = some .local) :
    PS X (.FunctionDef name params body [] none [] scope none name pos) (tDefV P pos i ⟨name, X.env.qual ++ name, params, body, scope, cloFrom X.env.cells scope.names []⟩) := by
  refine ⟨fun pins s σ H D J h => ?_⟩
  obtain ⟨ps, hP, ⟨tok, tell⟩, miss, hit⟩ := h
  have hq : qualnameIn X.env name name = X.env.qual ++ name := by
    have hk : X.env.kindOf name = some .local ∨ X.env.kindOf name = some .cell := hx
    unfold qualnameIn
    rcases hk with k | k <;> rw [k] <;> first | rfl | exact if_neg (by decide)
  refine PySem.W.nestDef_K hd0 hk0 ha ?_
  rw [hq]
  have clo := closure_ok (scope := scope) (env := X.env) fun y hy e => (hfree y hy e).elim (fun z => J.ok.has _ (.inl z)) fun z => J.ok.has _ (.inr z)
  have oP : s.heap.get? P = some { cls := .none, data := .fields ps } := J.hok P _ hP
  have bP := B.bm.keeps J.bk
  cases among : codeAmong pos ps.toList with
  | some cv =>
    obtain ⟨k, ek, hk⟩ := tell pos cv among
    subst ek
    refine PySem.W.makeFunction_hit (c := c) (P := P) (mg := X.mg) clo J.ok.glob (J.mod.glob.keeps J.bk) hcode (B.code.keeps J.bk) oP tok among bP fun ctv doc h2 tk ext big => ?_
    have J2 : Inv X pins σ H { s with heap := h2, toks := tk } := J.kept ext
    have nF : H h2.objs.size = none := J2.hok.fresh (Nat.le_refl _)
    have J3 := NdefX.inv_fn (F := ⟨name, X.env.qual ++ name, params, body, scope, cloFrom X.env.cells scope.names [], k⟩) (t' := tk) (doc := doc) (pm := (X.mg "__name__").getD .none) (ctv := ctv) J2 rfl
    exact store_ok J3 hN hi hx (v := .ref h2.objs.size) rfl (fun s'' J => ⟨_, _, J, hit _ _ among nF⟩) hf
  | none =>
    refine PySem.W.makeFunction_K (c := c) (P := P) (mg := X.mg) clo J.ok.glob (J.mod.glob.keeps J.bk) hcode (B.code.keeps J.bk) oP tok among B.gP bP fun k ctv doc h2 tk ext low high rec tab => ?_
    obtain ⟨k2, ob, vs, t, e2, ho, hd, hv⟩ := rec
    cases e2
    have J2 := LamX.inv_table (t' := tk) (more := #[rawInt pos.line, rawInt pos.col, .ref k]) (h' := h2) J hP (fun b o nb e => ext b o nb e) tab low ⟨ob, vs, t, ho, hd, hv⟩
    have J3 := NdefX.inv_fn (F := ⟨name, X.env.qual ++ name, params, body, scope, cloFrom X.env.cells scope.names [], k⟩) (t' := tk) (doc := doc) (pm := (X.mg "__name__").getD .none) (ctv := ctv) J2 rfl
    exact store_ok J3 hN hi hx (v := .ref h2.objs.size) rfl (fun s'' J4 => ⟨_, _, J4, miss _ _ (J.hok.fresh low) (J.hok.fresh (Nat.le_trans low (Nat.le_of_lt high))) (Nat.ne_of_gt high)⟩) hf
end
section
variable {F : List (V × D)} {σ : L2.St} {H : Hp} {M : List ME} {D : Ends} {Pt : Addr} {pos : Pos} {L : DW} {i : Nat} {φ : V → Hp → Prop}
theorem n_def (w : Wf F H M) (hm : .tb Pt L.qual ∈ M) (hφ : ∀ f c I, I f = some (NdefX.FnO f (L.nf c)) → I c = some (LamX.CodeO c L.qual) → φ (.ref f) I) (q : ∀ f H', Wf ((.ref f, .fact φ) :: F) H' M → D.nx (σ.set i (some (.ref f))) H') : tDefV Pt pos i L D σ H := by
  obtain ⟨I, Mc, w, a, hF⟩ := w.ex
  obtain ⟨M1, m, M2, rfl, c1, c2⟩ := a.foc (Foc.self hm)
  cases c1 with
  | @tb _ _ ps tok tell =>
    have hP : H Pt = some (.tbl ps) := w.at
    refine ⟨ps, hP, ⟨tok, fun p cv e => let ⟨k, h1, h2⟩ := tell p cv e; ⟨k, h1, w.imm _ _ h2⟩⟩, fun f k nk nf ne => q f _ ?_, fun f k hk nf => q f _ ?_⟩
    · have kP : k ≠ Pt := fun e => by rw [e, hP] at nk; cases nk
      have fP : f ≠ Pt := fun e => by rw [e, hP] at nf; cases nf
      have w1 : W I (upd H Pt (.tbl (ps ++ #[rawInt pos.line, rawInt pos.col, .ref k]))) _ := w.put
      have n1 : upd H Pt (.tbl (ps ++ #[rawInt pos.line, rawInt pos.col, .ref k])) k = none := by rw [upd_ne kP]; exact nk
      have w2 := w1.newI (o := LamX.CodeO k L.qual) n1
      have n2 : upd (upd H Pt (.tbl (ps ++ #[rawInt pos.line, rawInt pos.col, .ref k]))) k (LamX.CodeO k L.qual) f = none := by rw [upd_ne ne, upd_ne fP]; exact nf
      have w3 := w2.newI (o := NdefX.FnO f (L.nf k)) n2
      have s1 : Same I (upd I k (LamX.CodeO k L.qual)) := w1.same n1
      have s2 : Same (upd I k (LamX.CodeO k L.qual)) (upd (upd I k (LamX.CodeO k L.qual)) f (NdefX.FnO f (L.nf k))) := w2.same n2
      refine ⟨_, _, w3, c2 _ _ (s1.trans s2) (.tb ?_ fun p cv e => ?_), fun g hg => ?_⟩
      · rw [show (ps ++ #[rawInt pos.line, rawInt pos.col, .ref k]).toList = ps.toList ++ [rawInt pos.line, rawInt pos.col, .ref k] by simp]
        exact PySem.TriplesOk_snoc _ _ _ _ tok
      · rw [show (ps ++ #[rawInt pos.line, rawInt pos.col, .ref k]).toList = ps.toList ++ [rawInt pos.line, rawInt pos.col, .ref k] by simp] at e
        rcases LamX.among_app _ tok e with z | z
        · obtain ⟨j, h1, h2⟩ := tell p cv z
          exact ⟨j, h1, s2 _ _ (s1 _ _ h2)⟩
        · exact ⟨k, z, s2 _ _ upd_same⟩
      · rcases List.mem_cons.mp hg with rfl | hg
        · exact .fact (Same.refl _) (hφ f k _ upd_same (by rw [upd_ne ne.symm]; exact upd_same))
        · exact (hF g hg).mono (s1.trans s2)
    · have w3 := w.newI (o := NdefX.FnO f (L.nf k)) nf
      have s2 : Same I (upd I f (NdefX.FnO f (L.nf k))) := w.same nf
      obtain ⟨j, e1, ho⟩ := tell pos _ hk
      cases e1
      refine ⟨_, _, w3, c2 _ _ s2 (.tb tok fun p cv e => let ⟨j, h1, h2⟩ := tell p cv e; ⟨j, h1, s2 _ _ h2⟩), fun g hg => ?_⟩
      rcases List.mem_cons.mp hg with rfl | hg
      · exact .fact (Same.refl _) (hφ f k _ upd_same (s2 _ _ ho))
      · exact (hF g hg).mono s2
end
section
variable {P : Program} {w : World} {K : PySem.W.Frag} {mg : Str → Option Value} {base : Heap} {N ps fr : List Str} {f c : Addr} {k : Nat} {sp : Sp} {L : DW} {I : Hp}
theorem fnV_def (S : NdefX.NScope N ps fr L.scope) (hb : ∀ (doc pm ctv : Value) (us : List Value), us.length = ps.length → bindArgs ((L.nf c).fd doc pm ctv) ⟨us, []⟩ = pure (ps.zip us))
    (hinj : ∀ x y c, L.cl.lookup x = some c → L.cl.lookup y = some c → x = y) (hfr : ∀ y c, L.cl.lookup y = some c → y ∈ fr)
    (hsp : ∀ vs H Q, sp vs H Q E0 → vs.length = ps.length ∧ ∃ (cs : List (Addr × Obj)) (ws : List V), Paired (fun y (c : Addr × Obj) => L.cl.lookup y = some c.1) fr cs ∧ Paired (fun (c : Addr × Obj) w => CelO c.2 w) cs ws ∧ (∀ c ∈ cs, H c.1 = some (.frz c.2 topO)) ∧
      ∀ (A : Around) (outer : List Env) (s : Shared) (f c : Addr), Room k (A.deeper (NdefX.envF (L.nf c) f s.heap.objs.size)) → ∃ t, PSs (NdefX.ncx CX0 P w K mg base N (L.nf c) f A outer s (cutC cs H) E0) L.body t ∧ t { nx := fun _ H2 => (∀ d ∈ cs, H2 d.1 = none) → Q .non (addC cs H2), rt := fun v H2 => (∀ d ∈ cs, H2 d.1 = none) → Q v (addC cs H2) } (NdefX.startF N vs (ws.map some)) (cutC cs H))
    (hf : I f = some (NdefX.FnO f (L.nf c))) (hc : I c = some (LamX.CodeO c L.qual)) : FnV P w K mg base (k + 1) sp (.ref f) I := by
  refine ⟨f, rfl, fun H h x sm => ?_, fun A outer s H us vs Q hr e0 rv sm q => ?_⟩
  · obtain ⟨od, sl, doc, pm, ctv, e⟩ := NdefX.fnO_at x (sm _ _ hf)
    exact ⟨_, _, _, _, e⟩
  obtain ⟨hl, cs, ws, p1, p2, hcs, body⟩ := hsp vs H Q q
  obtain ⟨od, sl, doc, pm, ctv, ho⟩ := NdefX.fnO_at e0.hok (sm _ _ hf)
  have ndf : fr.Nodup := by
    have z := S.nd.sublist (List.take_sublist (ps.length + fr.length) N)
    rw [S.pre] at z
    exact (List.nodup_append.mp z).2.1
  have nd := paired_nodup hinj p1 ndf
  have e1 := env0_cut e0 hcs
  have C : NdefX.CellsAt L.cl fr (ws.map some) s.heap (cutC cs H) := by
    have one : ∀ (i : Nat) (y : Str), fr[i]? = some y → ∃ d ∈ cs, L.cl.lookup y = some d.1 ∧ ∃ v u, ws[i]? = some v ∧ RelV v u ∧ s.heap.IsCell d.1 (some u) := fun i y hy => by
      obtain ⟨d, q1, q2⟩ := paired_at p1 hy
      obtain ⟨v, q3, u, q4, q5⟩ := paired_at p2 q1
      exact ⟨d, List.mem_of_getElem? q1, q2, v, u, q3, q5, d.2, (e0.hok _ _ (hcs d (List.mem_of_getElem? q1))).1, q4⟩
    refine ⟨?_, fun y a ha => ?_, hinj, fun i y hy => ?_⟩
    · rw [List.length_map, ← p2.length, ← p1.length]
    · obtain ⟨i, hi⟩ := List.mem_iff_getElem?.mp (hfr y a ha)
      obtain ⟨d, q1, q2, v, u, _, _, q3⟩ := one i y hi
      rw [ha] at q2
      cases q2
      exact ⟨cutC_in (List.mem_map_of_mem q1), _, q3⟩
    · obtain ⟨d, q1, q2, v, u, q3, q4, q5⟩ := one i y hy
      refine ⟨d.1, q2, fun v2 h2 => ⟨u, ?_, q5⟩⟩
      rw [List.getElem?_map, q3] at h2
      cases h2
      exact q4
  have fin : codeAny (model P w) A (.call (.ref f) ⟨us, []⟩) (CR CX0 outer P w (cutC cs H) s (fun v H2 => (∀ d ∈ cs, H2 d.1 = none) → Q v (addC cs H2)) E0) s := by
    have lim : s.heap.NoLimit := e0.mod.nolimit.keeps fun b o e => (e0.bs b o e).1
    refine codeAny_call_function hr.depth ho rfl S.co S.gen rfl (NdefX.codeO_at e0.hok (sm _ _ hc)) ?_
    rw [hb _ _ _ us (by rw [← rv.length]; exact hl)]
    refine wpAny_pure (wpAny_newFunctionEnv S.nocell (fun ⟨n, _⟩ hy => S.par n (List.of_mem_zip hy).1) (fun h1 hns hsb => ⟨lim.fresh _ hsb, ?_⟩) S.kind)
    have keep : ∀ b o, s.heap.get? b = some o → h1.get? b = some o := fun b o e => hsb.extBut b o (Nat.ne_of_lt (Heap.lt_size e)) (Heap.get?_push_of_some _ e)
    show codeAny _ _ (.func L.body (NdefX.envF (L.nf c) f s.heap.objs.size)) _ _
    refine codeAny_func ?_
    obtain ⟨t2, ht, hq⟩ := body A outer s f c (hr.deeper _)
    have J : Inv (NdefX.ncx CX0 P w K mg base N (L.nf c) f A outer s (cutC cs H) E0) [] (NdefX.startF N vs (ws.map some)) (cutC cs H) { s with heap := h1, toks := s.toks + (ps.zip us).length } :=
      NdefX.inv_startN S hr.hd e1 hl rv C hns keep
    refine wpAny_mono (ht.run [] _ (NdefX.startF N vs (ws.map some)) (cutC cs H) _ J hq) (fun fl s' hs => ?_) fun e s' hs => hs
    cases fl with
    | ret u =>
      obtain ⟨v, σ', H', J, rv, q⟩ := hs
      exact ⟨v, H', J.os, J.bare, J.base, J.hok, rv, q⟩
    | next =>
      obtain ⟨σ', H', J, q⟩ := hs
      exact ⟨V.non, H', J.os, J.bare, J.base, J.hok, (rfl : L2.RelV V.non Value.none), q⟩
    | brk =>
      obtain ⟨_, _, _, q⟩ := hs
      exact False.elim q
    | cont =>
      obtain ⟨_, _, _, q⟩ := hs
      exact False.elim q
  refine codeAny_mono fin fun r s' z => ?_
  match r, z with
  | .ok (.ret u), z => exact ce_add nd e0 hcs z
  | .ok .next, z => exact False.elim z
  | .ok .brk, z => exact False.elim z
  | .ok .cont, z => exact False.elim z
  | .error er, z => exact False.elim z
/-- a def within a def that captures one name -/
theorem fnV_def1 {y : Str} {ca : Addr} (hcl : L.cl = [(y, ca)]) (S : NdefX.NScope N ps [y] L.scope) (hb : ∀ (doc pm ctv : Value) (us : List Value), us.length = ps.length → bindArgs ((L.nf c).fd doc pm ctv) ⟨us, []⟩ = pure (ps.zip us))
    (hsp : ∀ vs H Q, sp vs H Q E0 → vs.length = ps.length ∧ ∃ (F : List (V × D)) (M : List ME) (v : V), Wf F H M ∧ .cel ca v ∈ M ∧ ∀ (H1 : Hp) (M1 : List ME) (Q1 : VK), Wf F H1 M1 → (∀ e ∈ M, (∀ c u, e ≠ .cel c u) → e ∈ M1) → (∀ u H2, Wf F H2 M1 → (∀ H3, Wf F H3 M → Q u H3) → Q1 u H2) →
      ∀ (A : Around) (outer : List Env) (s : Shared) (f c : Addr), Room k (A.deeper (NdefX.envF (L.nf c) f s.heap.objs.size)) → ∃ t, PSs (NdefX.ncx CX0 P w K mg base N (L.nf c) f A outer s H1 E0) L.body t ∧ t { nx := fun _ H2 => Q1 .non H2, rt := Q1 } (NdefX.startF N vs [some v]) H1)
    (hf : I f = some (NdefX.FnO f (L.nf c))) (hc : I c = some (LamX.CodeO c L.qual)) : FnV P w K mg base (k + 1) sp (.ref f) I := by
  refine fnV_def (fr := [y]) S hb (fun x z c h1 h2 => ?_) (fun x c h => ?_) (fun vs H Q q => ?_) hf hc
  · rw [hcl] at h1 h2
    exact (lk1 h1).trans (lk1 h2).symm
  · rw [hcl] at h
    exact List.mem_singleton.mpr (lk1 h)
  · obtain ⟨hl, F, M, v, w', hm, body⟩ := hsp vs H Q q
    obtain ⟨M1, pm, hM1⟩ := cels_ahead (G := []) (as := [ca]) (ws := [v]) (M := M) (by simp) (fun e he => by rw [List.mem_singleton.mp he]; exact hm)
    obtain ⟨cs, e1, p2, hcs, nd, w2, back⟩ := n_cels (M := []) (as := [ca]) (ws := [v]) (G := M1) (w'.perm pm) rfl
    have w2 : Wf F (cutC cs H) M1 := w2
    have bk : ∀ H2, Wf F H2 M1 → (∀ d ∈ cs, H2 d.1 = none) → Wf F (addC cs H2) M := fun H2 w3 hn => Wf.perm (back F H2 [] M1 w3 hn) pm.symm
    have b2 := body (cutC cs H) M1 (fun v H2 => (∀ d ∈ cs, H2 d.1 = none) → Q v (addC cs H2)) w2 hM1 (fun u H2 w3 q3 hn => q3 _ (bk H2 w3 hn))
    refine ⟨hl, cs, [v], ?_, p2, hcs, fun A outer s f c hr => ?_⟩
    rotate_left
    · exact b2 A outer s f c hr
    have one : ∃ c0, cs = [c0] ∧ c0.1 = ca := by
      clear p2 hcs back bk b2 w2 nd
      cases cs with
      | nil => cases e1
      | cons c0 r =>
        cases r with
        | nil => exact ⟨c0, rfl, (List.cons.inj e1).1⟩
        | cons d r => cases (List.cons.inj e1).2
    obtain ⟨c0, e3, e2⟩ := one
    rw [e3]
    exact .cons (by rw [hcl, e2, List.lookup_cons, beq_self_eq_true]) .nil
end
end Fs

namespace Fs
open PySem PySem.Spec PyProof.Rows L2
/-! ### + of tuples of any length; dicts with tuple keys as facts; loops over reversed lists -/
def rAddA (K : PySem.W.Frag) : R2 := fun x y H Q => rAddU K x y H Q ∨ rCatA K x y H Q
theorem k_addA {X : Cx} {K : PySem.W.Frag} (h : X.K = K) : OpR X (binaryOp .Add) (rAddA K) := h ▸ opOr uo_add op_catA
section
variable {K : PySem.W.Frag} {σ : L2.St} {H : Hp} {F : List (V × D)} {M M' : List ME} {Q : VK} {G : Ends} {v u x y : V} {ds es : List D} {g : TG} {tb : TS} {te : TE} {tt : TT} {a p : Addr} {kvs : List (List Key × D)} {k : List Key} {d : D}
theorem s_addA {i j : Int} (q : Q (.int (i + j)) H) : rAddA K (.int i) (.int j) H Q := .inl (s_add q)
theorem n_catP (w : Wf F H M) (hx : Rk F M x (.tup ds)) (hy : Rk F M y (.tup es)) (hz : ds.length + es.length ≤ 100000) (q : ∀ u H', Wf ((u, .tup (ds ++ es)) :: F) H' M → Q u H') : rAddA K x y H Q := by
  have w0 := w
  obtain ⟨I, Mc, w, ac, hF⟩ := w.ex
  obtain ⟨p1, vs, rfl, h1, b1⟩ := hx.tup w ac hF
  obtain ⟨p2, us, rfl, h2, b2⟩ := hy.tup w ac hF
  refine .inr ⟨p1, p2, vs, us, rfl, rfl, .inl (.inl h1), .inl (.inl h2), by rw [b1.length, b2.length]; exact Nat.le_trans hz (by decide), fun e => ?_, fun _ e => ?_, fun _ _ p hp => ?_⟩
  · subst e
    cases b1
    refine q _ _ ⟨I, Mc, w, ac, fun f hf => ?_⟩
    rcases List.mem_cons.mp hf with rfl | hf
    · cases hy with
      | mem h => exact hF _ h
    · exact hF f hf
  · subst e
    cases b2
    refine q _ _ ⟨I, Mc, w, ac, fun f hf => ?_⟩
    rcases List.mem_cons.mp hf with rfl | hf
    · rw [List.append_nil]
      cases hx with
      | mem h => exact hF _ h
    · exact hF f hf
  · refine q _ _ ⟨_, Mc, w.newI hp, ac.mono (w.same hp), fun f hf => ?_⟩
    rcases List.mem_cons.mp hf with rfl | hf
    · exact .tup upd_same ((b1.app b2).mono (w.same hp))
    · exact (hF f hf).mono (w.same hp)
/-- d[k] of a dict that stays as it is -/
theorem n_dgetD (w : Wf F H M) (h : Kn F x (.fact (DtF kvs))) (hy : Rk F M y (.tup (k.map keyD))) (hd : getP kvs k = some d) (q : ∀ u, Wf ((u, d) :: F) H M → Q u H) : DGetQ Q x y H := by
  obtain ⟨b, rfl, hb⟩ := w.keyT hy
  obtain ⟨I, Mc, p, vs, rfl, w, a, hF, hp, ha⟩ := w.dtF h
  rcases ha.get (k := k) with ⟨h1, h2⟩ | ⟨v, d', h1, h2, h3⟩
  · rw [h1] at hd; cases hd
  · rw [h2] at hd
    cases hd
    exact ⟨p, v, rfl, h1 ▸ DGet.t hp hb, q v (.cons w a hF h3)⟩
theorem n_dinD {P : Bool → Prop} (w : Wf F H M) (h : Kn F x (.fact (DtF kvs))) (hy : Rk F M y (.tup (k.map keyD))) (q : P (getP kvs k).isSome) : DInQ P x y H := by
  obtain ⟨b, rfl, hb⟩ := w.keyT hy
  obtain ⟨I, Mc, p, vs, rfl, w, a, hF, hp, ha⟩ := w.dtF h
  refine ⟨p, _, rfl, DGet.t hp hb, ?_⟩
  rcases ha.get (k := k) with ⟨h1, h2⟩ | ⟨v, d', h1, h2, h3⟩
  · rw [h2]; rw [h1] at q; exact q
  · rw [h1]; rw [h2] at q; exact q
theorem src_rev : Src (Itv K a ds.length) ds.length (fun i => ds.getD (ds.length - 1 - i) .non) (fun F M => Rk F M (.ref a) (.lst ds)) where
  go := fun i H F M hi ok w => by
    obtain ⟨I, Mc, p, vs, e, w, ac, hF, hp, b⟩ := w.lstE ok
    cases e
    have hl : ds.length - 1 - i < vs.length := by rw [b.length]; omega
    exact ⟨hi, vs, vs[ds.length - 1 - i], .inl (.inl hp), List.getElem?_eq_getElem hl⟩
  stop := fun H F M ok w => Nat.le_refl _
  yld := fun i H F M x H' hi ok w y => by
    obtain ⟨I, Mc, p, vs, e, w, ac, hF, hp, b⟩ := w.lstE ok
    cases e
    obtain ⟨rfl, y⟩ := y
    obtain ⟨d, e1, e2⟩ := b.of (y vs (.inl (.inl hp)))
    rw [getD_of e1]
    exact .cons w ac hF e2
/-- for x in reversed(v) -/
theorem n_forV (w : Wf F H M) (R : Nat → L2.St → List (V × D) → List ME → Prop) (hv : ∀ i σ F M, R i σ F M → Rk F M v (.lst ds)) (h0 : R 0 σ F M)
    (step : ∀ i d x σ H F M, i < ds.length → ds[ds.length - 1 - i]? = some d → R i σ F M → Wf ((x, d) :: F) H M → g x σ H fun σ2 H2 => tb { G with nx := LI (R (i + 1)), ct := LI (R (i + 1)), bk := G.nx } σ2 H2)
    (fin : ∀ σ H F M, R ds.length σ F M → Wf F H M → G.nx σ H) :
    ∃ (a : Addr) (xs : List V), [v] = [.ref a] ∧ SqL K H a xs ∧ ∃ W : Nat → Nat → L2.St → Hp → Prop, (∃ m, W 0 m σ H) ∧ ∀ i m σ H, W i m σ H →
      ((Itv K a xs.length).stop i H ∧ G.nx σ H) ∨ ((Itv K a xs.length).go i H ∧ ∃ N : L2.St → Hp → Prop, (∀ σ' H', N σ' H' → ∃ m', m' < m ∧ W (i + 1) m' σ' H') ∧ ∀ x H', (Itv K a xs.length).yld i H x H' → g x σ H' fun σ2 H2 => tb { G with nx := N, ct := N, bk := G.nx } σ2 H2) := by
  obtain ⟨I, Mc, p, vs, rfl, w1, ac, hF, hp, b⟩ := w.lstE (hv _ _ _ _ h0)
  refine ⟨p, vs, rfl, .inl (.inl hp), ?_⟩
  rw [b.length]
  refine n_forJ src_rev w R hv h0 (fun i x σ H F M hi hR w => ?_) fin
  have hl : ds.length - 1 - i < ds.length := by omega
  have e1 : ds[ds.length - 1 - i]? = some ds[ds.length - 1 - i] := List.getElem?_eq_getElem hl
  rw [getD_of e1] at w
  exact step i _ x σ H F M hi e1 hR w
theorem src_tup : Src (Itt K a) ds.length (fun i => ds.getD i .non) (fun F M => Rk F M (.ref a) (.tup ds)) where
  go := fun i H F M hi ok w => by
    obtain ⟨I, Mc, w, ac, hF⟩ := w.ex
    obtain ⟨p, vs, e, hp, b⟩ := ok.tup w ac hF
    cases e
    have hl : i < vs.length := by rw [b.length]; exact hi
    exact ⟨vs, vs[i], .inl (.inl hp), List.getElem?_eq_getElem hl⟩
  stop := fun H F M ok w => by
    obtain ⟨I, Mc, w, ac, hF⟩ := w.ex
    obtain ⟨p, vs, e, hp, b⟩ := ok.tup w ac hF
    cases e
    exact ⟨vs, .inl (.inl hp), by rw [b.length]; exact Nat.le_refl _⟩
  yld := fun i H F M x H' hi ok w y => by
    obtain ⟨I, Mc, w, ac, hF⟩ := w.ex
    obtain ⟨p, vs, e, hp, b⟩ := ok.tup w ac hF
    cases e
    obtain ⟨rfl, y⟩ := y
    obtain ⟨d, e1, e2⟩ := b.of (y vs (.inl (.inl hp)))
    rw [getD_of e1]
    exact .cons w ac hF e2
/-- [.. for x in v], v a tuple -/
theorem n_lcKT {xs : List Nat} (w : Wf F H M) (R : Nat → List D → List (V × D) → List ME → Prop) (hv : ∀ i acc F M, R i acc F M → Rk F M v (.tup ds)) (h0 : R 0 [] F M) (hn : ds.length ≤ 100000)
    (step : ∀ i d x D acc H0 F M (Ap : VK) (Sk : Hp → Prop), ds[i]? = some d → R i acc F M → Wf ((x, d) :: F) H0 (.ml D acc :: M) → (∀ y d H4 F' M', Wf ((y, d) :: F') H4 (.ml D acc :: M') → R (i + 1) (acc ++ [d]) F' M' → Ap y H4) → (∀ H3 F' M', Wf F' H3 (.ml D acc :: M') → R (i + 1) acc F' M' → Sk H3) →
      g x (wipe σ xs) H0 fun σ2 H2 => wipe σ2 xs = wipe σ xs ∧ tt σ2 H2 fun b H3 => if b = true then te σ2 H3 Ap else Sk H3)
    (q : ∀ p es H' F' M', R ds.length es F' M' → Wf F' H' (.ml p es :: M') → Q (.ref p) H') : ∃ a, v = .ref a ∧ (∃ xs, SqT K H a xs) ∧ LcGo (Itt K a) g tt te xs σ Q H := by
  obtain ⟨I, Mc, w1, ac, hF⟩ := w.ex
  obtain ⟨p, vs, rfl, hp, b⟩ := (hv _ _ _ _ h0).tup w1 ac hF
  refine ⟨p, rfl, ⟨vs, .inl (.inl hp)⟩, n_lcK src_tup w R (fun i D acc F M h => (hv _ _ _ _ h).more) h0 hn (fun i x D acc H0 F M Ap Sk hi hR w k1 k2 => ?_) q⟩
  have e1 : ds[i]? = some ds[i] := List.getElem?_eq_getElem hi
  rw [getD_of e1] at w
  exact step i _ x D acc H0 F M Ap Sk e1 hR w k1 k2
end
/-- dicts with unlike keys -/
theorem getP_mem {κ : Type} [DecidableEq κ] {kvs : List (κ × D)} {k : κ} {d : D} (nd : (kvs.map (·.1)).Nodup) (h : (k, d) ∈ kvs) : getP kvs k = some d := by
  unfold getP
  induction kvs with
  | nil => cases h
  | cons q kvs ih =>
    rw [List.map_cons, List.nodup_cons] at nd
    rw [List.find?_cons]
    rcases List.mem_cons.mp h with rfl | h
    · rw [decide_eq_true rfl]; rfl
    · have e : decide (q.1 = k) = false := decide_eq_false fun e => nd.1 (by rw [e]; exact List.mem_map_of_mem (f := (·.1)) h)
      rw [e]
      exact ih nd.2 h
theorem putP_new {κ : Type} [DecidableEq κ] {kvs : List (κ × D)} {k : κ} {d : D} (h : k ∉ kvs.map (·.1)) : putP kvs k d = kvs ++ [(k, d)] := by
  unfold putP
  rw [if_neg]
  intro z
  obtain ⟨q, h1, h2⟩ := List.any_eq_true.mp z
  exact h (by rw [← of_decide_eq_true h2]; exact List.mem_map_of_mem (f := (·.1)) h1)
end Fs

namespace Fs
open PySem PySem.Spec PyProof.Rows L2
/-! ### functions whose captured values are known for good -/
section
variable {F : List (V × D)} {σ : L2.St} {H : Hp} {M : List ME} {Q : VK} {Pt : Addr} {pos : Pos} {L : LW} {φ : V → Hp → Prop}
theorem n_lamI (w : Wf F H M) (hm : .tb Pt L.qual ∈ M) (hφ : ∀ f c I, (∀ g ∈ F, Is I g.1 g.2) → I f = some (LamO f L c) → I c = some (LamX.CodeO c L.qual) → φ (.ref f) I) (q : ∀ f H', Wf ((.ref f, .fact φ) :: F) H' M → Q (.ref f) H') : tLamV Pt pos L σ H Q := by
  obtain ⟨I, Mc, w, a, hF⟩ := w.ex
  obtain ⟨M1, m, M2, rfl, c1, c2⟩ := a.foc (Foc.self hm)
  cases c1 with
  | @tb _ _ ps tok tell =>
    have hP : H Pt = some (.tbl ps) := w.at
    refine ⟨ps, hP, ⟨tok, fun p cv e => let ⟨k, h1, h2⟩ := tell p cv e; ⟨k, h1, w.imm _ _ h2⟩⟩, fun f k nk nf ne => q f _ ?_, fun f k hk nf => q f _ ?_⟩
    · have kP : k ≠ Pt := fun e => by rw [e, hP] at nk; cases nk
      have fP : f ≠ Pt := fun e => by rw [e, hP] at nf; cases nf
      have w1 : W I (upd H Pt (.tbl (ps ++ #[rawInt pos.line, rawInt pos.col, .ref k]))) _ := w.put
      have n1 : upd H Pt (.tbl (ps ++ #[rawInt pos.line, rawInt pos.col, .ref k])) k = none := by rw [upd_ne kP]; exact nk
      have w2 := w1.newI (o := LamX.CodeO k L.qual) n1
      have n2 : upd (upd H Pt (.tbl (ps ++ #[rawInt pos.line, rawInt pos.col, .ref k]))) k (LamX.CodeO k L.qual) f = none := by rw [upd_ne ne, upd_ne fP]; exact nf
      have w3 := w2.newI (o := LamO f L k) n2
      have s1 : Same I (upd I k (LamX.CodeO k L.qual)) := w1.same n1
      have s2 : Same (upd I k (LamX.CodeO k L.qual)) (upd (upd I k (LamX.CodeO k L.qual)) f (LamO f L k)) := w2.same n2
      refine ⟨_, _, w3, c2 _ _ (s1.trans s2) (.tb ?_ fun p cv e => ?_), fun g hg => ?_⟩
      · rw [show (ps ++ #[rawInt pos.line, rawInt pos.col, .ref k]).toList = ps.toList ++ [rawInt pos.line, rawInt pos.col, .ref k] by simp]
        exact PySem.TriplesOk_snoc _ _ _ _ tok
      · rw [show (ps ++ #[rawInt pos.line, rawInt pos.col, .ref k]).toList = ps.toList ++ [rawInt pos.line, rawInt pos.col, .ref k] by simp] at e
        rcases LamX.among_app _ tok e with z | z
        · obtain ⟨j, h1, h2⟩ := tell p cv z
          exact ⟨j, h1, s2 _ _ (s1 _ _ h2)⟩
        · exact ⟨k, z, s2 _ _ upd_same⟩
      · rcases List.mem_cons.mp hg with rfl | hg
        · exact .fact (Same.refl _) (hφ f k _ (fun g hg => (hF g hg).mono (s1.trans s2)) upd_same (by rw [upd_ne ne.symm]; exact upd_same))
        · exact (hF g hg).mono (s1.trans s2)
    · have w3 := w.newI (o := LamO f L k) nf
      have s2 : Same I (upd I f (LamO f L k)) := w.same nf
      obtain ⟨j, e1, ho⟩ := tell pos _ hk
      cases e1
      refine ⟨_, _, w3, c2 _ _ s2 (.tb tok fun p cv e => let ⟨j, h1, h2⟩ := tell p cv e; ⟨j, h1, s2 _ _ h2⟩), fun g hg => ?_⟩
      rcases List.mem_cons.mp hg with rfl | hg
      · exact .fact (Same.refl _) (hφ f k _ (fun g hg => (hF g hg).mono s2) upd_same (s2 _ _ ho))
      · exact (hF g hg).mono s2
end
section
variable {P : Program} {w : World} {K : PySem.W.Frag} {mg : Str → Option Value} {base : Heap} {N ps fr : List Str} {f c : Addr} {k : Nat} {sp : Sp} {L : LW} {I : Hp}
theorem fnV_lamI (S : NdefX.NScope N ps fr L.scope) (hb : ∀ (pm cv ctv : Value) (us : List Value), us.length = ps.length → bindArgs (PySem.W.kla_fn "<lambda>" L.qual L.params L.body L.scope L.cl pm cv ctv) ⟨us, []⟩ = pure (ps.zip us))
    (hinj : ∀ x y c, L.cl.lookup x = some c → L.cl.lookup y = some c → x = y) (hfr : ∀ y c, L.cl.lookup y = some c → y ∈ fr)
    (hsp : ∀ vs H Q, Same I H → sp vs H Q E0 → vs.length = ps.length ∧ ∃ (cs : List (Addr × Obj)) (ws : List V), Paired (fun y (c : Addr × Obj) => L.cl.lookup y = some c.1) fr cs ∧ Paired (fun (c : Addr × Obj) w => CelO c.2 w) cs ws ∧ (∀ c ∈ cs, H c.1 = some (.frz c.2 topO)) ∧
      ∀ (A : Around) (outer : List Env) (s : Shared) (f c : Addr), Room k (A.deeper (NdefX.envF (L.nf c) f s.heap.objs.size)) → ∃ t, PE (NdefX.ncx CX0 P w K mg base N (L.nf c) f A outer s (cutC cs H) E0) L.body t ∧ t (NdefX.startF N vs (ws.map some)) (cutC cs H) (fun v H2 => (∀ d ∈ cs, H2 d.1 = none) → Q v (addC cs H2)))
    (hf : I f = some (LamO f L c)) (hc : I c = some (LamX.CodeO c L.qual)) : FnV P w K mg base (k + 1) sp (.ref f) I := by
  refine ⟨f, rfl, fun H h x sm => ?_, fun A outer s H us vs Q hr e0 rv sm q => ?_⟩
  · obtain ⟨pm, ctv, e⟩ := lamO_at x (sm _ _ hf)
    exact ⟨_, _, _, _, e⟩
  obtain ⟨hl, cs, ws, p1, p2, hcs, body⟩ := hsp vs H Q sm q
  obtain ⟨pm, ctv, ho⟩ := lamO_at e0.hok (sm _ _ hf)
  obtain ⟨⟨oc, cvs, t, hoc, hdc, hvc⟩, _, _⟩ := e0.hok c _ (sm _ _ hc)
  have ndf : fr.Nodup := by
    have z := S.nd.sublist (List.take_sublist (ps.length + fr.length) N)
    rw [S.pre] at z
    exact (List.nodup_append.mp z).2.1
  have nd := paired_nodup hinj p1 ndf
  have e1 := env0_cut e0 hcs
  have C : NdefX.CellsAt L.cl fr (ws.map some) s.heap (cutC cs H) := by
    have one : ∀ (i : Nat) (y : Str), fr[i]? = some y → ∃ d ∈ cs, L.cl.lookup y = some d.1 ∧ ∃ v u, ws[i]? = some v ∧ RelV v u ∧ s.heap.IsCell d.1 (some u) := fun i y hy => by
      obtain ⟨d, q1, q2⟩ := paired_at p1 hy
      obtain ⟨v, q3, u, q4, q5⟩ := paired_at p2 q1
      exact ⟨d, List.mem_of_getElem? q1, q2, v, u, q3, q5, d.2, (e0.hok _ _ (hcs d (List.mem_of_getElem? q1))).1, q4⟩
    refine ⟨?_, fun y a ha => ?_, hinj, fun i y hy => ?_⟩
    · rw [List.length_map, ← p2.length, ← p1.length]
    · obtain ⟨i, hi⟩ := List.mem_iff_getElem?.mp (hfr y a ha)
      obtain ⟨d, q1, q2, v, u, _, _, q3⟩ := one i y hi
      rw [ha] at q2
      cases q2
      exact ⟨cutC_in (List.mem_map_of_mem q1), _, q3⟩
    · obtain ⟨d, q1, q2, v, u, q3, q4, q5⟩ := one i y hy
      refine ⟨d.1, q2, fun v2 h2 => ⟨u, ?_, q5⟩⟩
      rw [List.getElem?_map, q3] at h2
      cases h2
      exact q4
  have fin : codeAny (model P w) A (.call (.ref f) ⟨us, []⟩) (CR CX0 outer P w (cutC cs H) s (fun v H2 => (∀ d ∈ cs, H2 d.1 = none) → Q v (addC cs H2)) E0) s := by
    have lim : s.heap.NoLimit := e0.mod.nolimit.keeps fun b o e => (e0.bs b o e).1
    refine PySem.W.kla_callFunE hr.depth ho rfl S.co S.gen rfl ⟨c, oc, cvs, t, rfl, hoc, hdc, hvc⟩ ?_
    rw [hb _ _ _ us (by rw [← rv.length]; exact hl)]
    refine wpAny_pure (wpAny_newFunctionEnv S.nocell (fun ⟨n, _⟩ hy => S.par n (List.of_mem_zip hy).1) (fun h1 hns hsb => ⟨lim.fresh _ hsb, ?_⟩) S.kind)
    have keep : ∀ b o, s.heap.get? b = some o → h1.get? b = some o := fun b o e => hsb.extBut b o (Nat.ne_of_lt (Heap.lt_size e)) (Heap.get?_push_of_some _ e)
    obtain ⟨t2, ht, hq⟩ := body A outer s f c (hr.deeper _)
    have J : Inv (NdefX.ncx CX0 P w K mg base N (L.nf c) f A outer s (cutC cs H) E0) [] (NdefX.startF N vs (ws.map some)) (cutC cs H) { s with heap := h1, toks := s.toks + (ps.zip us).length } :=
      NdefX.inv_startN S hr.hd e1 hl rv C hns keep
    refine PySem.W.kla_codeExpr (wpAny_mono (ht.run [] _ _ _ _ J hq) (fun u s' hz => ?_) fun e s' hz => hz)
    obtain ⟨v, H2, J2, r2, q2⟩ := hz
    exact ⟨v, H2, J2.os, J2.bare, J2.base, J2.hok, r2, q2⟩
  refine codeAny_mono fin fun r s' z => ?_
  match r, z with
  | .ok (.ret u), z => exact ce_add nd e0 hcs z
  | .ok .next, z => exact False.elim z
  | .ok .brk, z => exact False.elim z
  | .ok .cont, z => exact False.elim z
  | .error er, z => exact False.elim z
theorem fnV_lam1I {y : Str} {ca : Addr} (hcl : L.cl = [(y, ca)]) (S : NdefX.NScope N ps [y] L.scope) (hb : ∀ (pm cv ctv : Value) (us : List Value), us.length = ps.length → bindArgs (PySem.W.kla_fn "<lambda>" L.qual L.params L.body L.scope L.cl pm cv ctv) ⟨us, []⟩ = pure (ps.zip us))
    (hsp : ∀ vs H Q, Same I H → sp vs H Q E0 → vs.length = ps.length ∧ ∃ (F : List (V × D)) (M : List ME) (v : V), Wf F H M ∧ .cel ca v ∈ M ∧ ∀ (H1 : Hp) (M1 : List ME) (Q1 : VK), Wf F H1 M1 → (∀ e ∈ M, (∀ c u, e ≠ .cel c u) → e ∈ M1) → (∀ u H2, Wf F H2 M1 → (∀ H3, Wf F H3 M → Q u H3) → Q1 u H2) →
      ∀ (A : Around) (outer : List Env) (s : Shared) (f c : Addr), Room k (A.deeper (NdefX.envF (L.nf c) f s.heap.objs.size)) → ∃ t, PE (NdefX.ncx CX0 P w K mg base N (L.nf c) f A outer s H1 E0) L.body t ∧ t (NdefX.startF N vs [some v]) H1 Q1)
    (hf : I f = some (LamO f L c)) (hc : I c = some (LamX.CodeO c L.qual)) : FnV P w K mg base (k + 1) sp (.ref f) I := by
  refine fnV_lamI (fr := [y]) S hb (fun x z c h1 h2 => ?_) (fun x c h => ?_) (fun vs H Q sm q => ?_) hf hc
  · rw [hcl] at h1 h2
    exact (lk1 h1).trans (lk1 h2).symm
  · rw [hcl] at h
    exact List.mem_singleton.mpr (lk1 h)
  · obtain ⟨hl, F, M, v, w', hm, body⟩ := hsp vs H Q sm q
    obtain ⟨M1, pm, hM1⟩ := cels_ahead (G := []) (as := [ca]) (ws := [v]) (M := M) (by simp) (fun e he => by rw [List.mem_singleton.mp he]; exact hm)
    obtain ⟨cs, e1, p2, hcs, nd, w2, back⟩ := n_cels (M := []) (as := [ca]) (ws := [v]) (G := M1) (w'.perm pm) rfl
    have w2 : Wf F (cutC cs H) M1 := w2
    have bk : ∀ H2, Wf F H2 M1 → (∀ d ∈ cs, H2 d.1 = none) → Wf F (addC cs H2) M := fun H2 w3 hn => Wf.perm (back F H2 [] M1 w3 hn) pm.symm
    have b2 := body (cutC cs H) M1 (fun v H2 => (∀ d ∈ cs, H2 d.1 = none) → Q v (addC cs H2)) w2 hM1 (fun u H2 w3 q3 hn => q3 _ (bk H2 w3 hn))
    refine ⟨hl, cs, [v], ?_, p2, hcs, fun A outer s f c hr => ?_⟩
    rotate_left
    · exact b2 A outer s f c hr
    have one : ∃ c0, cs = [c0] ∧ c0.1 = ca := by
      clear p2 hcs back bk b2 w2 nd
      cases cs with
      | nil => cases e1
      | cons c0 r =>
        cases r with
        | nil => exact ⟨c0, rfl, (List.cons.inj e1).1⟩
        | cons d r => cases (List.cons.inj e1).2
    obtain ⟨c0, e3, e2⟩ := one
    rw [e3]
    exact .cons (by rw [hcl, e2, List.lookup_cons, beq_self_eq_true]) .nil
end
/-- nothing that may be changed is a tuple -/
theorem CnA.noTup {I : Hp} : ∀ {M : List ME} {Mc : List (Addr × HO)}, CnA I M Mc → ∀ m ∈ Mc, ∀ vs, m.2 ≠ .tup vs
  | _, _, .nil, _, h, _ => nomatch h
  | _, _, .cons h a, m, hm, vs => by
    rcases List.mem_cons.mp hm with rfl | hm
    · cases h with
      | raw hn => exact hn vs
      | ml _ => exact fun e => nomatch e
      | mi _ => exact fun e => nomatch e
      | bag b =>
        obtain ⟨_, x, y, z, b⟩ := b
        rw [b.ob]
        exact fun e => nomatch e
      | dk _ => exact fun e => nomatch e
      | dt _ => exact fun e => nomatch e
      | cel _ => exact fun e => nomatch e
      | tb _ _ => exact fun e => nomatch e
    · exact CnA.noTup a m hm vs
/-- a tuple of numbers that was known is known -/
theorem Wf.ofTup {F : List (V × D)} {I H : Hp} {M : List ME} {v : V} {ns : List Int} (w : Wf F H M) (s : Same I H) (h : Is I v (.tup (ns.map D.int))) : Wf ((v, .tup (ns.map D.int)) :: F) H M := by
  obtain ⟨J, Mc, w, a, hF⟩ := w.ex
  obtain ⟨p, vs, rfl, hp, b⟩ := h.tup_ex
  have hH := s _ _ hp
  have sj : Same J (upd J p (.tup vs)) := fun b x e => by
    by_cases hb : b = p
    · subst hb
      rw [upd_same]
      have := w.imm _ _ e
      rw [hH] at this
      exact this
    · rw [upd_ne hb]; exact e
  refine ⟨upd J p (.tup vs), Mc, ⟨fun b x e => ?_, fun m hm => ?_, w.nd⟩, a.mono sj, fun f hf => ?_⟩
  · by_cases hb : b = p
    · subst hb
      rw [upd_same] at e
      rw [hH]
      exact e
    · rw [upd_ne hb] at e
      exact w.imm _ _ e
  · obtain ⟨h1, h2⟩ := w.mu m hm
    refine ⟨h1, ?_⟩
    rw [upd_ne]
    · exact h2
    · intro e
      rw [e, hH] at h1
      exact a.noTup m hm vs (Option.some.inj h1).symm
  · rcases List.mem_cons.mp hf with rfl | hf
    · refine .tup upd_same ?_
      have : ∀ {vs : List V} {ns : List Int}, IsA I vs (ns.map D.int) → IsA (upd J p (.tup vs)) vs (ns.map D.int) := fun {vs ns} => by
        intro h
        have e : ∀ {ns : List Int} {us : List V}, IsA I us (ns.map D.int) → ∀ J' : Hp, IsA J' us (ns.map D.int) := fun {ns} => by
          induction ns with
          | nil => intro us h J'; cases h; exact .nil
          | cons n ns ih =>
            intro us h J'
            rw [List.map_cons] at h ⊢
            cases h with
            | cons h1 h2 => exact .cons (by rw [h1.int_eq]; exact .int _) (ih h2 J')
        exact e h _
      exact this b
    · exact (hF f hf).mono sj
end Fs

namespace PySem.W
open PySem PySem.Spec PyProof.Rows
open PySem.SeqAt (EqIn EqAt)
section
variable {prog : Program} {w : World} {K : Type} [DecidableEq K] {knd : HeapKind prog w K} {A : Around} {E : Value → Shared → Prop} {s : Shared}
/-- two dicts of the same keys, their values equal -/
theorem fs_samePairsH {nm : String} {a b : Addr} {xs ys : List (K × Addr × Value)} {Q : Bool → Shared → Prop} (ha : (a == sysModules) = false) (hb : (b == sysModules) = false) (hu : knd.room A)
    (da : s.heap.DictOfH knd a xs) (db : s.heap.DictOfH knd b ys) (hlen : xs.length = ys.length) (hits : ∀ x ∈ xs, ∃ p, atKey ys x.1 = some p ∧ EqIn prog w A s x.2.2 p.2 true) (h : Q true s) :
    wpAny (model prog w) A (Builtin.Dict.samePairs nm a b) Q E s := by
  obtain ⟨oa, es, ep, hoa, _, hda, hea, hia, hna⟩ := da
  obtain ⟨ob, es', ep', hob, _, hdb, heb, hib, hnb⟩ := db
  have hla : es.size = xs.length := size_of_entries hea
  have hlb : es'.size = ys.length := size_of_entries heb
  have hsz : es.size = es'.size := by omega
  unfold Builtin.Dict.samePairs Builtin.Dict.showsAll
  rw [if_neg (show ¬ (a == sysModules) = true by rw [ha]; exact Bool.false_ne_true), if_neg (show ¬ (b == sysModules) = true by rw [hb]; exact Bool.false_ne_true)]
  refine wpAny_bind (wpAny_pure (wpAny_bind (wpAny_pure ?_)))
  refine wpAny_bind (wpAny_dictEntries hoa hda ?_)
  dsimp only
  refine wpAny_bind (wpAny_dictEntries hob hdb ?_)
  rw [if_neg (by rw [hsz]; simp)]
  refine wpAny_bind (wpAny_dictEpoch hoa hda ?_)
  refine wpAny_bind ?_
  rw [Std.Legacy.Range.forIn_eq_forIn_range']
  simp only [Std.Legacy.Range.size, Nat.sub_zero, Nat.add_sub_cancel, Nat.div_one]
  refine wpAny_forIn_list _
    (fun rest q s' => s' = s ∧ q = (none, ()) ∧ ∃ i, rest = List.range' i (es.size - i) ∧ i ≤ es.size)
    _ ?_ ?_ _ _ ⟨rfl, rfl, 0, by simp, Nat.zero_le _⟩
  · rintro x rest q s' ⟨rfl, rfl, i, hr, hi⟩
    have hlt : i < es.size := by
      rcases Nat.lt_or_ge i es.size with h | h
      · exact h
      · rw [Nat.sub_eq_zero_of_le h] at hr; simp at hr
    obtain ⟨rfl, hrest⟩ : x = i ∧ rest = List.range' (i + 1) (es.size - (i + 1)) := by
      have e : es.size - i = (es.size - (i + 1)) + 1 := by omega
      rw [e, List.range'_succ] at hr
      injection hr with h1 h2
      exact ⟨h1, h2⟩
    refine wpAny_bind (wpAny_dictEntries hoa hda ?_)
    rw [Array.getElem?_eq_getElem hlt]
    have hlt' : x < xs.length := by omega
    obtain ⟨⟨k, ak, v⟩, hkv⟩ : ∃ z, xs[x]? = some z := ⟨_, List.getElem?_eq_getElem hlt'⟩
    have hex : es[x] = entryOfKey knd (k, ak, v) := by
      have := entry_at hea x
      rw [Array.getElem?_eq_getElem hlt, hkv] at this
      exact Option.some.inj this
    have hmem := List.mem_of_getElem? hkv
    have hkey : knd.is s'.heap k ak := hia _ hmem
    obtain ⟨p, hp, heq⟩ := hits _ hmem
    rw [hex]
    show wpAny _ _ (holding [Value.ref ak, v] _ >>= _) _ _ _
    refine wpAny_bind (wpAny_holding (wpAny_bind (wpAny_dictFind_heap hu hkey hob hdb heb hib hnb (fun hno => ?_) fun j q hj => ?_)))
    · have hp' : atKey ys k = some p := hp
      rw [atKey_none_of_get hno] at hp'
      exact nomatch hp'
    · have e1 := atKey_of_get hnb hj
      have hp' : atKey ys k = some p := hp
      rw [e1] at hp'
      cases hp'
      have hjl : j < es'.size := by
        have := (List.getElem?_eq_some_iff.mp hj).1
        omega
      have hej : es'[j] = entryOfKey knd (k, p) := by
        have := entry_at heb j
        rw [Array.getElem?_eq_getElem hjl, hj] at this
        exact Option.some.inj this
      refine wpAny_bind (wpAny_dictEntries hob hdb ?_)
      rw [Array.getElem?_eq_getElem hjl, hej]
      refine wpAny_holding (heq _ _ ?_)
      show wpAny _ _ (if (!true) = true then _ else _) _ _ _
      rw [if_neg (by decide)]
      refine wpAny_bind (wpAny_dictEpoch hoa hda ?_)
      rw [if_neg (by simp)]
      exact wpAny_pure ⟨rfl, rfl, x + 1, hrest, hlt⟩
  · rintro q s' ⟨rfl, rfl, i, hr, hi⟩
    exact wpAny_pure h
theorem fs_eqH {a b : Addr} {xs ys : List (K × Addr × Value)} {Q : Value → Shared → Prop} (ha : (a == sysModules) = false) (hb : (b == sysModules) = false) (hu : knd.room A.in1) (hc : A.units < cLine)
    (da : s.heap.DictOfH knd a xs) (db : s.heap.DictOfH knd b ys) (hlen : xs.length = ys.length) (hits : ∀ x ∈ xs, ∃ p, atKey ys x.1 = some p ∧ EqIn prog w A.in1 s x.2.2 p.2 true) (h : Q (.bool true) s) :
    wpAny (model prog w) A (compareOp .Eq (.ref a) (.ref b)) Q E s := by
  refine wpAny_richCompare_same_room (op := .Eq) da.typeIs db.typeIs PySem.F.slot_dict_eq (wpAny_call_entry PySem.F.slot_dict_eq da.typeIs PySem.F.entry_dict_eq ?_ (PySem.F.args_dict_eq_2 _ _)) hc
  show wpAny _ _ (Builtin.Dict.dictSlotArgs "__eq__" ⟨[.ref a, .ref b], []⟩ >>= _) _ _ s
  refine wpAny_bind ?_
  unfold Builtin.Dict.dictSlotArgs
  refine wpAny_bind (wpAny_notOrdered_dict da.typeIs ?_)
  show wpAny _ _ (pure (Value.ref a, Value.ref b)) _ _ s
  refine wpAny_pure ?_
  refine wpAny_bind (wpAny_isInstance (T := "dict") db.typeIs PySem.F.sub_dict_dict ?_)
  simp only [Bool.not_true, Bool.false_eq_true, if_false]
  refine wpAny_bind (wpAny_pure (wpAny_bind (wpAny_pure ?_)))
  refine wpAny_bind (fs_samePairsH ha hb hu da db hlen hits ?_)
  refine wpAny_pure ⟨_, rfl, ?_, ?_⟩
  · exact fun x => nomatch x
  · simpa using h
end
end PySem.W
namespace Fs
open PySem PySem.Spec PyProof.Rows L2
/-- == of dicts with tuples as keys and data as values, the same in both -/
def rEqDT (K : PySem.W.Frag) : R2 := fun x y H Q => ∃ a b ks ls, x = .ref a ∧ y = .ref b ∧ Rd H a (.dT ks) ∧ Rd H b (.dT ls) ∧ ks.length = ls.length ∧ (∀ p ∈ ks, ∃ u d, valV ls p.1 = some u ∧ Dp K H p.2 d ∧ Dp K H u d ∧ SeqAt.shaped d = true ∧ PyData.eqv d d = true) ∧ Q (.bl true) H
section
variable {X : Cx}
theorem op_eqDT (hu : X.A.units + 66 < cLine) : OpR X (compareOp .Eq) (rEqDT X.K) := by
  intro pins s σ H x y v u Q I rx ry h
  obtain ⟨a, b, ks, ls, rfl, rfl, ea, eb, hlen, hp, q⟩ := h
  obtain rfl : v = Value.ref a := rx
  obtain rfl : u = Value.ref b := ry
  obtain ⟨_, ya, xs, ra, da⟩ := dt_rd I.hok ea
  obtain ⟨_, yb, zs, rb, db⟩ := dt_rd I.hok eb
  refine PySem.W.fs_eqH ya yb (tupleKind_room_in1 (by omega)) (by omega) da db (by rw [← Paired.length ra, ← Paired.length rb]; exact hlen) (fun x hx => ?_) ⟨.bl true, H, I, rfl, q⟩
  have one : ∀ {ks : List (List Key × V)} {xs : List (List Key × Addr × Value)}, KT H ks xs → ∀ x ∈ xs, ∃ p ∈ ks, p.1 = x.1 ∧ RelV p.2 x.2.2 := fun {ks xs} r => by
    induction r with
    | nil => exact fun x h => nomatch h
    | @cons p q ps qs h t ih =>
      intro x hx
      rcases List.mem_cons.mp hx with rfl | hx
      · exact ⟨p, List.mem_cons_self, h.1, h.2.2⟩
      · obtain ⟨p', h1, h2⟩ := ih x hx
        exact ⟨p', List.mem_cons_of_mem _ h1, h2⟩
  obtain ⟨p, hpk, e1, r1⟩ := one ra x hx
  obtain ⟨u, d, h1, h2, h3, h4, h5⟩ := hp p hpk
  have hv := rb.val p.1
  rw [h1, e1] at hv
  obtain ⟨w', hw, rw'⟩ := RelO.some_of hv
  obtain ⟨z, hz, hz2⟩ := Option.map_eq_some_iff.mp hw
  refine ⟨z, hz, ?_⟩
  obtain ⟨as, g1⟩ := Dp.reads I d _ _ h2 r1
  obtain ⟨bs, g2⟩ := Dp.reads I d _ _ h3 rw'
  rw [hz2]
  have := SeqAt.eqAt_reads d d X.A.in1 s _ _ as bs g1 g2 (SeqAt.canLay_of_shaped h4) (SeqAt.canLay_of_shaped h4) (by have := SeqAt.depth_of_shaped h4; show X.A.units + 1 + _ < cLine; omega)
  rw [h5] at this
  exact SeqAt.EqAt.inModel this _ _
end
def rEqUT (K : PySem.W.Frag) : R2 := fun x y H Q => rEqU K x y H Q ∨ rEqDT K x y H Q
theorem hu66 {k : Nat} {A : Around} (r : Room k A) : A.units + 66 < cLine := by have := r.un; omega
theorem k_eqT {X : Cx} {K : PySem.W.Frag} (h : X.K = K) (hu : X.A.units + 66 < cLine) : OpR X (compareOp .Eq) (rEqUT K) := h ▸ opOr (uo_eq (by omega)) (op_eqDT hu)
section
variable {K : PySem.W.Frag} {F : List (V × D)} {M : List ME} {H : Hp} {Q : VK} {x y : V} {kvs : List (List Key × D)}
theorem IsP.valP {I : Hp} {k : List Key} : ∀ {vs : List (List Key × V)} {ds : List (List Key × D)}, IsP I vs ds → ∀ p ∈ vs, ∃ d, (p.1, d) ∈ ds ∧ Is I p.2 d
  | _, _, .nil, _, h => nomatch h
  | _, _, .cons h a, p, hp => by
    rcases List.mem_cons.mp hp with rfl | hp
    · exact ⟨_, List.mem_cons_self, h⟩
    · obtain ⟨d, h1, h2⟩ := IsP.valP (k := k) a p hp
      exact ⟨d, List.mem_cons_of_mem _ h1, h2⟩
/-- two dicts known to hold the same -/
theorem n_eqDT (w : Wf F H M) (hx : Kn F x (.fact (DtF kvs))) (hy : Kn F y (.fact (DtF kvs))) (nd : (kvs.map (·.1)).Nodup) (nb : ∀ kv ∈ kvs, NB 60 kv.2) (q : Q (.bl true) H) : rEqUT K x y H Q := by
  obtain ⟨I, Mc, a, vs, rfl, w1, ac, hF, ha, h1⟩ := w.dtF hx
  obtain ⟨I2, Mc2, b, us, rfl, w2, ac2, hF2, hb, h2⟩ := w.dtF hy
  refine .inr ⟨a, b, vs, us, rfl, rfl, .inl ha, .inl hb, by rw [h1.length, h2.length], fun p hp => ?_, q⟩
  obtain ⟨d, e1, e2⟩ := IsP.valP (k := []) h1 p hp
  have n := nb _ e1
  have hg := getP_mem nd e1
  rcases h2.get (k := p.1) with ⟨g1, g2⟩ | ⟨u, d', g1, g2, g3⟩
  · rw [hg] at g1; cases g1
  · rw [hg] at g2
    cases g2
    exact ⟨u, d.pd, g1, n.dpH (e2.mono w1.imm), n.dpH (g3.mono w2.imm), n.shaped (by decide), (n.eqv n).mpr rfl⟩
end
end Fs

/-! several defs that make functions: their tables, all empty at the begin -/
namespace Fs
open PySem PySem.Spec PyProof.Rows L2
theorem cnA_tbs {I : Hp} : ∀ l : List (Addr × Str), CnA I (l.map fun p => ME.tb p.1 p.2) (l.map fun p => (p.1, HO.tbl #[]))
  | [] => .nil
  | p :: l => .cons (.tb trivial fun pos cv e => by
    have z : codeAmong pos [] = some cv := e
    simp [codeAmong] at z) (cnA_tbs l)
theorem Wf.tbs {H : Hp} (l : List (Addr × Str)) (nd : (l.map (·.1)).Nodup) (h : ∀ p ∈ l, H p.1 = some (.tbl #[])) : Wf [] H (l.map fun p => .tb p.1 p.2) :=
  ⟨fun _ => none, l.map fun p => (p.1, .tbl #[]), ⟨fun _ _ e => (nomatch e), fun p hp => by
    obtain ⟨q, hq, rfl⟩ := List.mem_map.mp hp
    exact ⟨h q hq, rfl⟩, by rw [List.map_map]; exact nd⟩, cnA_tbs l, fun _ h => nomatch h⟩
end Fs

/-! Lay33: != of dicts whose keys are tuples; sorted(l, key=lambda m: m[0][0]) -/
namespace PySem.W
open PySem PySem.Spec PyProof.Rows
open PySem.SeqAt (EqIn EqAt)
section
variable {prog : Program} {w : World} {K : Type} [DecidableEq K] {knd : HeapKind prog w K} {A : Around} {E : Value → Shared → Prop} {s : Shared}
theorem fs_neH {a b : Addr} {xs ys : List (K × Addr × Value)} {Q : Value → Shared → Prop} (ha : (a == sysModules) = false) (hb : (b == sysModules) = false) (hu : knd.room A.in1) (hc : A.units < cLine)
    (da : s.heap.DictOfH knd a xs) (db : s.heap.DictOfH knd b ys) (hlen : xs.length = ys.length) (hits : ∀ x ∈ xs, ∃ p, atKey ys x.1 = some p ∧ EqIn prog w A.in1 s x.2.2 p.2 true) (h : Q (.bool false) s) :
    wpAny (model prog w) A (compareOp .NotEq (.ref a) (.ref b)) Q E s := by
  refine wpAny_richCompare_same_room (op := .NotEq) da.typeIs db.typeIs PySem.F.slot_dict_ne (wpAny_call_entry PySem.F.slot_dict_ne da.typeIs PySem.F.entry_dict_ne ?_ (PySem.F.args_dict_ne_2 _ _)) hc
  show wpAny _ _ (Builtin.Dict.dictSlotArgs "__ne__" ⟨[.ref a, .ref b], []⟩ >>= _) _ _ s
  refine wpAny_bind ?_
  unfold Builtin.Dict.dictSlotArgs
  refine wpAny_bind (wpAny_notOrdered_dict da.typeIs ?_)
  show wpAny _ _ (pure (Value.ref a, Value.ref b)) _ _ s
  refine wpAny_pure ?_
  refine wpAny_bind (wpAny_isInstance (T := "dict") db.typeIs PySem.F.sub_dict_dict ?_)
  simp only [Bool.not_true, Bool.false_eq_true, if_false]
  refine wpAny_bind (wpAny_pure (wpAny_bind (wpAny_pure ?_)))
  refine wpAny_bind (fs_samePairsH ha hb hu da db hlen hits ?_)
  refine wpAny_pure ⟨_, rfl, ?_, ?_⟩
  · exact fun x => nomatch x
  · simpa using h
end
end PySem.W
namespace Fs
open PySem PySem.Spec PyProof.Rows L2
def rNeDT (K : PySem.W.Frag) : R2 := fun x y H Q => ∃ a b ks ls, x = .ref a ∧ y = .ref b ∧ Rd H a (.dT ks) ∧ Rd H b (.dT ls) ∧ ks.length = ls.length ∧ (∀ p ∈ ks, ∃ u d, valV ls p.1 = some u ∧ Dp K H p.2 d ∧ Dp K H u d ∧ SeqAt.shaped d = true ∧ PyData.eqv d d = true) ∧ Q (.bl false) H
section
variable {X : Cx}
theorem op_neDT (hu : X.A.units + 66 < cLine) : OpR X (compareOp .NotEq) (rNeDT X.K) := by
  intro pins s σ H x y v u Q I rx ry h
  obtain ⟨a, b, ks, ls, rfl, rfl, ea, eb, hlen, hp, q⟩ := h
  obtain rfl : v = Value.ref a := rx
  obtain rfl : u = Value.ref b := ry
  obtain ⟨_, ya, xs, ra, da⟩ := dt_rd I.hok ea
  obtain ⟨_, yb, zs, rb, db⟩ := dt_rd I.hok eb
  refine PySem.W.fs_neH ya yb (tupleKind_room_in1 (by omega)) (by omega) da db (by rw [← Paired.length ra, ← Paired.length rb]; exact hlen) (fun x hx => ?_) ⟨.bl false, H, I, rfl, q⟩
  have one : ∀ {ks : List (List Key × V)} {xs : List (List Key × Addr × Value)}, KT H ks xs → ∀ x ∈ xs, ∃ p ∈ ks, p.1 = x.1 ∧ RelV p.2 x.2.2 := fun {ks xs} r => by
    induction r with
    | nil => exact fun x h => nomatch h
    | @cons p q ps qs h t ih =>
      intro x hx
      rcases List.mem_cons.mp hx with rfl | hx
      · exact ⟨p, List.mem_cons_self, h.1, h.2.2⟩
      · obtain ⟨p', h1, h2⟩ := ih x hx
        exact ⟨p', List.mem_cons_of_mem _ h1, h2⟩
  obtain ⟨p, hpk, e1, r1⟩ := one ra x hx
  obtain ⟨u, d, h1, h2, h3, h4, h5⟩ := hp p hpk
  have hv := rb.val p.1
  rw [h1, e1] at hv
  obtain ⟨w', hw, rw'⟩ := RelO.some_of hv
  obtain ⟨z, hz, hz2⟩ := Option.map_eq_some_iff.mp hw
  refine ⟨z, hz, ?_⟩
  obtain ⟨as, g1⟩ := Dp.reads I d _ _ h2 r1
  obtain ⟨bs, g2⟩ := Dp.reads I d _ _ h3 rw'
  rw [hz2]
  have := SeqAt.eqAt_reads d d X.A.in1 s _ _ as bs g1 g2 (SeqAt.canLay_of_shaped h4) (SeqAt.canLay_of_shaped h4) (by have := SeqAt.depth_of_shaped h4; show X.A.units + 1 + _ < cLine; omega)
  rw [h5] at this
  exact SeqAt.EqAt.inModel this _ _
end
def rNeUT (K : PySem.W.Frag) : R2 := fun x y H Q => rNeU K x y H Q ∨ rNeDT K x y H Q
theorem k_neT {X : Cx} {K : PySem.W.Frag} (h : X.K = K) (hu : X.A.units + 66 < cLine) : OpR X (compareOp .NotEq) (rNeUT K) := h ▸ opOr (uo_ne (by omega)) (op_neDT hu)
section
variable {K : PySem.W.Frag} {F : List (V × D)} {M : List ME} {H : Hp} {Q : VK} {x y : V} {a b : Addr} {kvs lvs : List (List Key × D)}
/-- two dicts that may be changed, the same in any order -/
theorem n_neDT (w : Wf F H M) (hx : .dt a kvs ∈ M) (hy : .dt b lvs ∈ M) (hl : kvs.length = lvs.length) (hk : ∀ kv ∈ kvs, getP lvs kv.1 = some kv.2) (nb : ∀ kv ∈ kvs, NB 60 kv.2) (q : Q (.bl false) H) : rNeUT K (.ref a) (.ref b) H Q := by
  obtain ⟨I, Mc, vs, w1, ac, hF, ha, h1⟩ := w.dtAt hx
  obtain ⟨I2, Mc2, us, w2, ac2, hF2, hb, h2⟩ := w.dtAt hy
  refine .inr ⟨a, b, vs, us, rfl, rfl, .inl ha, .inl hb, by rw [h1.length, h2.length, hl], fun p hp => ?_, q⟩
  obtain ⟨d, e1, e2⟩ := IsP.valP (k := []) h1 p hp
  have n := nb _ e1
  have hg := hk _ e1
  rcases h2.get (k := p.1) with ⟨g1, g2⟩ | ⟨u, d', g1, g2, g3⟩
  · rw [hg] at g1; cases g1
  · rw [hg] at g2
    cases g2
    exact ⟨u, d.pd, g1, n.dpH (e2.mono w1.imm), n.dpH (g3.mono w2.imm), n.shaped (by decide), (n.eqv n).mpr rfl⟩
end
/-! ### a key that is asked of each thing: the first number of its first part -/
def KeyR (K : PySem.W.Frag) (H : Hp) (x : V) (n : Int) : Prop := ∃ t xs t2 ys, x = .ref t ∧ SqT K H t (.ref t2 :: xs) ∧ SqT K H t2 (.int n :: ys)
def KeyV (P : Program) (w : World) (K : PySem.W.Frag) (mg : Str → Option Value) (base : Heap) : V → Hp → Prop := fun v I => ∃ f : Addr, v = .ref f ∧
  ∀ (A : Around) (outer : List Env) (s : Shared) (H : Hp) (u : Value) (x : V) (n : Int), Room 1 A → Env0 P w K mg base A outer s H → Same I H → KeyR K H x n → RelV x u → wpAny (model P w) A (call (.ref f) [u]) (PySem.W.KeyPure (.int n) s) (fun _ _ => False) s
section
variable {P : Program} {w : World} {K : PySem.W.Frag} {mg : Str → Option Value} {base : Heap} {N : List Str} {x : Str} {f c : Addr} {L : LW} {I : Hp}
def lamK (x : Str) (p1 p2 p3 p4 p5 : Pos) (j1 j2 : Nat) : Expr := .Subscript (.Subscript (.Name x p1) (.Constant (.int 0) j1 p2) p3) (.Constant (.int 0) j2 p4) p5
theorem keyV_lam {p1 p2 p3 p4 p5 : Pos} {j1 j2 : Nat} (S : NdefX.NScope [x] [x] [] L.scope) (hbd : L.body = lamK x p1 p2 p3 p4 p5 j1 j2) (hdb : (x == ("__debug__" : Str)) = false)
    (hb : ∀ (pm cv ctv : Value) (us : List Value), us.length = 1 → bindArgs (PySem.W.kla_fn "<lambda>" L.qual L.params L.body L.scope L.cl pm cv ctv) ⟨us, []⟩ = pure ([x].zip us))
    (hcl : L.cl = []) (hf : I f = some (LamO f L c)) (hc : I c = some (LamX.CodeO c L.qual)) : KeyV P w K mg base (.ref f) I := by
  refine ⟨f, rfl, fun A outer s H u xv n hr e0 sm hk rv => ?_⟩
  obtain ⟨pm, ctv, ho⟩ := lamO_at e0.hok (sm _ _ hf)
  obtain ⟨⟨oc, cvs, t, hoc, hdc, hvc⟩, _, _⟩ := e0.hok c _ (sm _ _ hc)
  have lim : s.heap.NoLimit := e0.mod.nolimit.keeps fun b o e => (e0.bs b o e).1
  have rvs : Vals [xv] [u] := .cons rv .nil
  have C : NdefX.CellsAt L.cl [] [] s.heap H := by
    rw [hcl]
    exact ⟨rfl, fun y c e => (by cases e), fun x y c e => (by cases e), fun i y e => (by simp at e)⟩
  have fin : codeAny (model P w) A (.call (.ref f) ⟨[u], []⟩) (fun r s' => ∃ v, r = .ok (.ret v) ∧ PySem.W.KeyPure (.int n) s v s') s := by
    refine PySem.W.kla_callFunE hr.depth ho rfl S.co S.gen rfl ⟨c, oc, cvs, t, rfl, hoc, hdc, hvc⟩ ?_
    rw [hb _ _ _ [u] rfl]
    refine wpAny_pure (wpAny_newFunctionEnv S.nocell (fun ⟨n, _⟩ hy => S.par n (List.of_mem_zip hy).1) (fun h1 hns hsb => ⟨lim.fresh _ hsb, ?_⟩) S.kind)
    have keep : ∀ b o, s.heap.get? b = some o → h1.get? b = some o := fun b o e => hsb.extBut b o (Nat.ne_of_lt (Heap.lt_size e)) (Heap.get?_push_of_some _ e)
    have J : Inv (NdefX.ncx CX0 P w K mg base [x] (L.nf c) f A outer s H E0) [] (NdefX.startF [x] [xv] []) H { s with heap := h1, toks := s.toks + ([x].zip [u]).length } :=
      NdefX.inv_startN S hr.hd e0 rfl rvs C hns keep
    refine PySem.W.kla_codeExpr ?_
    rw [hbd]
    unfold lamK
    obtain ⟨t1, xs, t2, ys, rfl, hq1, hq2⟩ := hk
    obtain rfl : u = Value.ref t1 := rv
    refine Subscript_ (Subscript_ (wpAny_Name (wpAny_loadName_local S.kind (S.par x List.mem_cons_self) hns (by simp [List.lookup] <;> rfl) ?_) hdb))
    refine wpAny_Constant_int ?_
    obtain ⟨its, r1, pl1, hz1⟩ := (J.tok (s.toks + ([x].zip [Value.ref t1]).length + 1)).tuple hq1
    cases r1 with
    | @cons _ u1 _ us1 ru1 r1' =>
    obtain rfl : u1 = Value.ref t2 := ru1
    refine subscriptTail_builtinR (x := Value.ref t2) pl1.typeIs slot_tuple_getitem.lookup (getItem_tuple (j := 0) pl1 (by decide) (by decide) (by first | exact PySem.seqIndex_of (by decide) (by simp) | exact seqIndex_of (by decide) (by simp) | exact PyProof.Rows.seqIndex_of (by decide) (by simp)) (by simp) ⟨rfl, ?_⟩)
    refine wpAny_Constant_int ?_
    obtain ⟨its2, r2, pl2, hz2⟩ := (J.tok (s.toks + ([x].zip [Value.ref t1]).length + 1 + 1)).tuple hq2
    cases r2 with
    | @cons _ u2 _ us2 ru2 r2' =>
    obtain ⟨tk, rfl⟩ : ∃ tk, u2 = Value.int n tk := ru2
    refine subscriptTail_builtinR (x := Value.int n tk) pl2.typeIs slot_tuple_getitem.lookup (getItem_tuple (j := 0) pl2 (by decide) (by decide) (by first | exact PySem.seqIndex_of (by decide) (by simp) | exact seqIndex_of (by decide) (by simp) | exact PyProof.Rows.seqIndex_of (by decide) (by simp)) (by simp) ⟨rfl, ?_⟩)
    exact ⟨_, rfl, h1, _, rfl, keep, .int _ _⟩
  refine wpAny_call (codeAny_mono fin fun r s' z => ?_)
  obtain ⟨v, rfl, z⟩ := z
  exact z
end
/-- sorted(l, key=f) -/
def rSortKey (P : Program) (w : World) (K : PySem.W.Frag) (mg : Str → Option Value) (base : Heap) : List V → List V → Hp → VK → Prop := fun vs zs H Q => ∃ (a : Addr) (xs : List (V × Int)) (kf : V) (I : Hp), vs = [V.ref a] ∧ zs = [kf] ∧ KeyV P w K mg base kf I ∧ Same I H ∧
  SqL K H a (xs.map (·.1)) ∧ (∀ p ∈ xs, KeyR K H p.1 p.2) ∧ ∀ p, H p = none → Q (.ref p) (upd H p (.lst ((xs.mergeSort fun a b => decide (a.2 ≤ b.2)).map (·.1))))
theorem eachV {xs : List (V × Int)} {us : List Value} (r : Vals (xs.map (·.1)) us) {R : V × Int → Prop} (h : ∀ p ∈ xs, R p) : PySem.W.EachIs (fun v p => RelV p.1 v ∧ R p) us xs := by
  induction xs generalizing us with
  | nil => cases r; exact .nil
  | cons x xs ih =>
    cases r with
    | cons h1 r => exact .cons ⟨h1, h _ List.mem_cons_self⟩ (ih r fun p hp => h p (List.mem_cons_of_mem _ hp))
theorem valsE {xs : List (V × Int)} {us : List Value} {R : V × Int → Prop} (e : PySem.W.EachIs (fun v p => RelV p.1 v ∧ R p) us xs) : Vals (xs.map (·.1)) us := by
  induction e with
  | nil => exact .nil
  | cons h _ ih => exact .cons h.1 ih
theorem cr_sortKeyV {X : Cx} (hr : Room 2 X.A) : CallRK X (.builtin "sorted") [Str.ofString "key"] (rSortKey X.prog X.w X.K X.mg X.base) := by
  intro pins s σ H vs zs us ws Q J r rz h
  obtain ⟨a, xs, kf, I, rfl, rfl, ⟨f, rfl, run⟩, sm, hs, hk, q⟩ := h
  obtain rfl := Vals.ref1 r
  obtain ⟨w1, rfl, e1⟩ := vals1 rz
  obtain rfl : w1 = Value.ref f := e1
  obtain ⟨its, rv, hl, hz⟩ := J.list hs
  rw [List.length_map] at hz
  refine PySem.W.sorted_key_data (b := false) (R := fun v p => RelV p.1 v ∧ KeyR X.K H p.1 p.2) (fun p => .int p.2) hl.isList (eachV rv hk) (fun d hd d' hd' => ?_) (.inr fun d hd => ?_) hz (fun x hx => ?_) (PyProof.Rows.ksk_s1 _ _) (fun _ => PyProof.Rows.ksk_l1 _ _) (fun x => PyProof.Rows.ksk_t1 f x) (fun v x hR hx h tk hkeep => ?_) fun out c h' tk hkeep hfr ho hlen he => ?_
  · obtain ⟨p, _, rfl⟩ := List.mem_map.mp hd
    obtain ⟨p', _, rfl⟩ := List.mem_map.mp hd'
    rfl
  · obtain ⟨p, _, rfl⟩ := List.mem_map.mp hd
    exact ⟨(fun z => nomatch z), (fun _ z => nomatch z)⟩
  · have := hr.un
    have e : (PyData.int x.snd).depth = 0 := by first | rfl | simp [PyData.depth]
    rw [e]
    omega
  · have J2 := J.kept (t' := tk) hkeep
    have r2 : Room 1 X.A.in1.in1 := ⟨hr.hd, by have := hr.dp; show X.A.depth + _ < _; omega, by have := hr.un; show X.A.units + 1 + 1 + _ < _; omega⟩
    have e0 := J2.env0
    exact run X.A.in1.in1 X.stack _ H v x.1 x.2 r2 ⟨e0.frames, e0.mod, e0.bs, e0.bsz, e0.funs, e0.frf, e0.hok, e0.bare⟩ sm hR.2 hR.1
  · rw [PySem.W.dataLe_int] at he
    have hl2 : ((xs.mergeSort fun a b => decide (a.2 ≤ b.2)).map (·.1)).length ≤ sizeLine := by
      rw [List.length_map, List.length_mergeSort]
      exact hz
    exact ⟨.ref _, upd H (s.heap.objs.size + 1) (.lst ((xs.mergeSort fun a b => decide (a.2 ≤ b.2)).map (·.1))), J.laid (t' := tk) hkeep (Nat.le_succ _) ⟨hl2, out, c, valsE he, ho⟩, rfl, q _ (J.hok.fresh (Nat.le_succ _))⟩
theorem k_sortKeyV {X : Cx} {P : Program} {w : World} {K : PySem.W.Frag} {mg : Str → Option Value} {base : Heap} (hr : Room 2 X.A) (h1 : X.prog = P) (h2 : X.w = w) (h3 : X.K = K) (h4 : X.mg = mg) (h5 : X.base = base) : CallRK X (.builtin "sorted") [Str.ofString "key"] (rSortKey P w K mg base) := by
  subst h1 h2 h3 h4 h5
  exact cr_sortKeyV hr
/-- the number that is asked of a thing -/
def keyI : D → Int
  | .tup (.tup (.int n :: _) :: _) => n
  | _ => 0
def KeyD (d : D) : Prop := ∃ n xs ys, d = .tup (.tup (.int n :: ys) :: xs)
section
variable {P : Program} {w : World} {K : PySem.W.Frag} {mg : Str → Option Value} {base : Heap} {F : List (V × D)} {M : List ME} {H : Hp} {Q : VK} {x kf : V} {ds : List D}
theorem keyR_of {I : Hp} {v : V} {d : D} (h : Is I v d) (k : KeyD d) (sm : Same I H) : KeyR K H v (keyI d) := by
  obtain ⟨n, xs, ys, rfl⟩ := k
  cases h with
  | tup h1 a =>
    cases a with
    | cons h2 a =>
      cases h2 with
      | tup h3 b =>
        cases b with
        | cons h4 b =>
          cases h4
          exact ⟨_, _, _, _, rfl, .inl (.inl (sm _ _ h1)), .inl (.inl (sm _ _ h3))⟩
theorem sort_isA {I : Hp} : ∀ {vs : List V} {ds : List D}, IsA I vs ds → ∃ ps : List (V × D), ps.map (·.1) = vs ∧ ps.map (·.2) = ds ∧ ∀ p ∈ ps, Is I p.1 p.2
  | _, _, .nil => ⟨[], rfl, rfl, fun _ h => nomatch h⟩
  | _, _, .cons h a => by
    obtain ⟨ps, h1, h2, h3⟩ := sort_isA a
    refine ⟨(_, _) :: ps, by rw [List.map_cons, h1], by rw [List.map_cons, h2], fun p hp => ?_⟩
    rcases List.mem_cons.mp hp with rfl | hp
    · exact h
    · exact h3 p hp
theorem isA_pairsL {I : Hp} : ∀ {ps : List (V × D)}, (∀ p ∈ ps, Is I p.1 p.2) → IsA I (ps.map (·.1)) (ps.map (·.2))
  | [], _ => .nil
  | p :: ps, h => .cons (h p List.mem_cons_self) (isA_pairsL fun q hq => h q (List.mem_cons_of_mem _ hq))
theorem n_sortKey (ww : Wf F H M) (hx : Rk F M x (.lst ds)) (hf : Kn F kf (.fact (KeyV P w K mg base))) (hk : ∀ d ∈ ds, KeyD d) (q : ∀ p H', Wf F H' (.ml p (ds.mergeSort fun a b => decide (keyI a ≤ keyI b)) :: M) → Q (.ref p) H') : rSortKey P w K mg base [x] [kf] H Q := by
  obtain ⟨I, Mc, w1, a, hF⟩ := ww.ex
  obtain ⟨p, vs, rfl, hp, ha⟩ := hx.lst w1 a hF
  obtain ⟨ps, rfl, rfl, hps⟩ := sort_isA ha
  obtain ⟨J, sJ, hJ⟩ : ∃ J, Same J I ∧ KeyV P w K mg base kf J := by
    cases hf.is hF with
    | fact s q => exact ⟨_, s, q⟩
  have e1 : (ps.map fun p => (p.1, keyI p.2)).map (·.1) = ps.map (·.1) := by rw [List.map_map]; rfl
  refine ⟨p, ps.map fun p => (p.1, keyI p.2), kf, J, rfl, rfl, hJ, fun b o e => w1.imm _ _ (sJ _ _ e), by rw [e1]; exact .inl (.inl hp), fun u hu => ?_, fun l hl => q l _ ?_⟩
  · obtain ⟨z, hz, rfl⟩ := List.mem_map.mp hu
    exact keyR_of (hps z hz) (hk _ (List.mem_map_of_mem hz)) w1.imm
  · have e2 : ((ps.map fun p => (p.1, keyI p.2)).mergeSort fun a b => decide (a.2 ≤ b.2)) = (ps.mergeSort fun a b => decide (keyI a.2 ≤ keyI b.2)).map fun p => (p.1, keyI p.2) := (PySem.W.sort_maps (fun p : V × D => (p.1, keyI p.2)) fun _ _ _ _ => rfl).symm
    have e3 : ((ps.map (·.2)).mergeSort fun a b => decide (keyI a ≤ keyI b)) = (ps.mergeSort fun a b => decide (keyI a.2 ≤ keyI b.2)).map (·.2) := (PySem.W.sort_maps (fun p : V × D => p.2) fun _ _ _ _ => rfl).symm
    rw [e2, e3, List.map_map]
    exact ⟨I, _, w1.newM hl, .cons (.ml (isA_pairsL fun p hp => hps p ((List.mergeSort_perm _ _).mem_iff.mp hp))) a, hF⟩
end
/-! ### {k: v}, the key a tuple -/
def tDisp1T (tk tv : TE) : TE := fun σ H Q => ∀ p, H p = none → tk σ (upd H p (.dT [])) fun x H1 => tv σ H1 fun v H2 => H2 p = some (.dT []) ∧ DPutQ (fun H3 => Q (.ref p) H3) (.ref p) x v H2
theorem pe_disp1T {X : Cx} {pos : Pos} {k v : Expr} {tk tv : TE} (hu : X.A.units + 1 < cLine) (hk : PE X k tk) (hv : PE X v tv) : PE X (.Dict [some k] [v] pos) (tDisp1T tk tv) := by
  refine ⟨fun pins s σ H Q I q => ?_⟩
  have hn := I.hok.fresh (Nat.le_refl s.heap.objs.size)
  have I1 := I.laid (a := s.heap.objs.size) (o := .dT []) (h' := s.heap.push { cls := .type "dict", data := .dict #[] }) (t' := s.toks) (fun _ _ q => Heap.get?_push_of_some _ q) (Nat.le_refl _) (dt_empty s.heap I.big)
  have hq : tPairs [(tk, tv)] σ (upd H s.heap.objs.size (.dT [])) (fun ps H2 => match ps with | [(x, v)] => H2 s.heap.objs.size = some (.dT []) ∧ DPutQ (fun H3 => Q (.ref s.heap.objs.size) H3) (.ref s.heap.objs.size) x v H2 | _ => False) := q _ hn
  have hrun := (pps_cons (pos := pos) hk hv pps_nil).run pins _ σ _ _ I1 hq
  have hall : ([some k] : List (Option Expr)).all (·.isSome) = true := rfl
  have hlen := pairTrees_length [some k] [v] X.env pos hall rfl
  rw [arm_eval_Dict, zip_pairTrees [some k] [v] X.env pos hall rfl, dictDisplay_pairs (pairTrees [some k] [v] X.env pos) (fun e => by rw [e] at hlen; simp at hlen) (by rw [hlen]; simp)]
  refine wpAny_bind (wpAny_standAt (wpAny_bind (wpAny_subDictH (knd := tupleKind (mixKind X.prog X.w)) (Q := fun d s' => wpAny (model X.prog X.w) X.A (pure (Value.ref d)) (EP X pins σ Q) X.xe s') (by show X.A.units < cLine; omega) (by rw [hlen]; simp) (wpAny_mono hrun (fun vs s2 hz => ?_) fun _ _ e => e))))
  obtain ⟨ps, H2, I2, rel, hz⟩ := hz
  cases rel with
  | nil => exact hz.elim
  | @cons p w2 ps2 ws2 h1 rel =>
    cases rel with
    | cons _ _ => exact hz.elim
    | nil =>
      obtain ⟨x, y⟩ := p
      obtain ⟨e0, a, H4, ea, g, q4⟩ := hz
      cases ea
      rcases g with ⟨kvs, ky, e, _, _, _⟩ | ⟨kvs, ky, b, e, ey, eb, l, eH⟩
      · rw [e0] at e; cases e
      rw [e0] at e
      cases e
      subst eH
      obtain ⟨u1, u2⟩ := w2
      obtain ⟨r1, r2⟩ := h1
      subst ey
      obtain rfl : u1 = Value.ref b := r1
      obtain ⟨z, hd, xs, rel, dd⟩ := dt_of I2.hok e0
      cases rel
      refine ⟨[(ky, b, u2)], ⟨rfl, rfl, key_of I2.hok eb, trivial⟩, dd, fun h' tk2 dd' hs => wpAny_pure ⟨.ref _, _, ?_, rfl, q4⟩⟩
      obtain ⟨q, es, ep, hq, h2, h3, h4, _, h5⟩ := dd'
      refine d_write I2 (by rw [e0]; exact True.intro) hs ⟨q, hq⟩ ⟨(by show 1 ≤ sizeLine; rw [sizeLine_eq]; decide), hd, [(ky, b, u2)], .cons ⟨rfl, ?_, r2⟩ .nil, q, es, ep, hq, h2, h3, h4, h5⟩
      rw [upd_ne (ne_of eb e0 (fun z => nomatch z))]
      exact eb
theorem s_disp1T {tk tv : TE} {σ : L2.St} {H : Hp} {Q : VK} {F : List (V × D)} {M : List ME} (ww : Wf F H M) (q : ∀ p H', Wf F H' (.dt p [] :: M) → tk σ H' fun x H1 => tv σ H1 fun v H2 => H2 p = some (.dT []) ∧ DPutQ (fun H3 => Q (.ref p) H3) (.ref p) x v H2) : tDisp1T tk tv σ H Q := fun p hp => by
  obtain ⟨I, Mc, w1, a, hF⟩ := ww.ex
  exact q p _ ⟨I, _, w1.newM hp, .cons (.dt .nil) a, hF⟩
theorem Wf.dtNil {F : List (V × D)} {H : Hp} {M : List ME} {p : Addr} (w : Wf F H M) (h : .dt p [] ∈ M) : H p = some (.dT []) := by
  obtain ⟨I, Mc, vs, w1, a, hF, hp, ha⟩ := w.dtAt h
  cases ha
  exact hp
end Fs

namespace Fs
open PySem PySem.Spec PyProof.Rows L2
local macro_rules | `(tactic| ktf_call "is") => `(tactic| (first | ((refine' Is.mono ?s ?h); (case s => assumption); (case h => ktf_call "is")) | fail))
local macro_rules | `(tactic| ktf_call "is") => `(tactic| exact Is.str _)
local macro_rules | `(tactic| ktf_call "is") => `(tactic| exact Is.non)
local macro_rules | `(tactic| ktf_call "is") => `(tactic| exact Is.bl _)
local macro_rules | `(tactic| ktf_call "is") => `(tactic| exact Is.int _)
local macro_rules | `(tactic| ktf_call "is") => `(tactic| assumption)
local macro_rules | `(tactic| ktf_call "isa") => `(tactic| assumption)
local macro_rules | `(tactic| ktf_call "isa") => `(tactic| (first | ((refine' IsA.cons ?x ?y); (case x => ktf_call "is"); (case y => ktf_call "isa")) | fail))
local macro_rules | `(tactic| ktf_call "isa") => `(tactic| exact IsA.nil)
local macro_rules | `(tactic| ktf_call "lst") => `(tactic| (first | ((refine' W.imm ?w _ _ ?h); (case w => assumption); (case h => assumption)) | fail))
local macro_rules | `(tactic| ktf_call "lst") => `(tactic| (first | exact W.at2 (by assumption) | fail))
local macro_rules | `(tactic| ktf_call "lst") => `(tactic| (first | exact W.at1 (by assumption) | fail))
local macro_rules | `(tactic| ktf_call "lst") => `(tactic| (first | exact W.at0 (by assumption) | fail))
local macro_rules | `(tactic| ktf_call "lst") => `(tactic| assumption)
local macro_rules | `(tactic| wtm_at "inv") => `(tactic| (intro u hu; first | (have e := Is.int_eq hu; subst e) | (have e := Is.bl_eq hu; subst e) | (have e := Is.non_eq hu; subst e) | (have e := Is.str_eq hu; subst e) | (have e := Is.ref_eq hu; subst e) | skip))
local macro_rules | `(tactic| ktr_call "o1" 0) => `(tactic| (first | with_reducible refine s_iteDn (by omega) ?_ | fail))
local macro_rules | `(tactic| ktr_call "o1" 0) => `(tactic| (first | with_reducible refine s_iteDp (by omega) ?_ | fail))
local macro_rules | `(tactic| ktr_call "o1" 0) => `(tactic| (first | with_reducible refine s_iteIn (by omega) ?_ | fail))
local macro_rules | `(tactic| ktr_call "o1" 0) => `(tactic| (first | with_reducible refine s_iteIp (by omega) ?_ | fail))
local macro_rules | `(tactic| ktr_call "o1" 0) => `(tactic| (first | ((with_reducible refine' s_I ?c ?_); (case c => first | exact cd64 (by omega) (by omega) | (show (0 : Int) < _; omega) | exact ⟨⟨by decide, by decide, by decide⟩, by decide⟩)) | fail))
local macro_rules | `(tactic| ktr_call "o1" 0) => `(tactic| (first | ((with_reducible refine' s_mul ?c ?_); (case c => exact cm64 (by omega) (by omega) (by omega) (by omega))) | fail))
local macro_rules | `(tactic| wtm_at "goo") => `(tactic| repeat (first | wtm_at "go0" | ktr_call "o1" 0))
local macro_rules | `(tactic| wtm_at "st") => `(tactic| (wtm_at "s1"; wtm_at "s1"))
local macro_rules | `(tactic| wtm_at "fork") => `(tactic| with_reducible refine s_ite (fun _ => ?_) (fun _ => ?_))
local macro_rules | `(tactic| wtm_at "fork") => `(tactic| with_reducible refine s_iteD (fun _ => ?_) (fun _ => ?_))
local macro_rules | `(tactic| wtm_at "fork") => `(tactic| with_reducible refine s_iteI (fun _ => ?_) (fun _ => ?_))
local macro_rules | `(tactic| ktf_call "kn0") => `(tactic| with_reducible exact Kn.ty _)
local macro_rules | `(tactic| ktf_call "kn0") => `(tactic| assumption)
local macro_rules | `(tactic| ktf_call "kn0") => `(tactic| (first | ((refine' Kn.mem ?h); (case h => ktf_call "mem")) | fail))
local macro_rules | `(tactic| ktf_call "kn0") => `(tactic| with_reducible exact Kn.non)
local macro_rules | `(tactic| ktf_call "kn0") => `(tactic| with_reducible exact Kn.str _)
local macro_rules | `(tactic| ktf_call "kn0") => `(tactic| with_reducible exact Kn.bl _)
local macro_rules | `(tactic| ktf_call "kn0") => `(tactic| with_reducible exact Kn.int _)
local macro_rules | `(tactic| ktf_call "kna0") => `(tactic| (first | ((refine' KnA.cons ?x ?y); (case x => ktf_call "kn0"); (case y => ktf_call "kna0")) | fail))
local macro_rules | `(tactic| ktf_call "kna0") => `(tactic| exact KnA.nil)
local macro_rules | `(tactic| ktf_call "kna") => `(tactic| (first | ((refine' KnA.cons ?x ?y); (case x => ktf_call "kn"); (case y => ktf_call "kna")) | fail))
local macro_rules | `(tactic| ktf_call "kna") => `(tactic| exact KnA.nil)
local macro_rules | `(tactic| ktf_call "rkF") => `(tactic| (first | ((with_reducible refine' Rk.moreF ?h); (case h => ktf_call "rkF")) | fail))
local macro_rules | `(tactic| ktf_call "rkF") => `(tactic| assumption)
local macro_rules | `(tactic| ktf_call "rkM") => `(tactic| (first | ((with_reducible refine' Rk.more ?h); (case h => ktf_call "rkM")) | fail))
local macro_rules | `(tactic| ktf_call "rkM") => `(tactic| ktf_call "rkF")
local macro_rules | `(tactic| ktf_call "rem") => `(tactic| (first | ((with_reducible refine' Rem.there ?h); (case h => ktf_call "rem")) | fail))
local macro_rules | `(tactic| ktf_call "rem") => `(tactic| with_reducible exact Rem.here)
local macro_rules | `(tactic| ktf_call "ks") => `(tactic| (first | ((with_reducible refine' KS.drop ?h); (case h => ktf_call "ks")) | fail))
local macro_rules | `(tactic| ktf_call "ks") => `(tactic| (first | ((with_reducible refine' KS.cons ?x ?y); (case x => ktf_call "kn"); (case y => ktf_call "ks")) | fail))
local macro_rules | `(tactic| ktf_call "ks") => `(tactic| with_reducible exact KS.nil)
local macro_rules | `(tactic| ktf_call "ks") => `(tactic| with_reducible exact KS.refl)
local macro_rules | `(tactic| ktf_call "sl") => `(tactic| (first | ((with_reducible refine' List.Sublist.cons _ ?h); (case h => ktf_call "sl")) | fail))
local macro_rules | `(tactic| ktf_call "sl") => `(tactic| (first | ((with_reducible refine' List.Sublist.cons_cons _ ?h); (case h => ktf_call "sl")) | fail))
local macro_rules | `(tactic| ktf_call "sl") => `(tactic| with_reducible exact List.nil_sublist _)
local macro_rules | `(tactic| ktf_call "sl") => `(tactic| with_reducible exact List.Sublist.refl _)
local macro_rules | `(tactic| wtm_at "wf") => `(tactic| (first | ((refine' Wf.sub ?w ?k ?s); (case w => assumption); (case k => ktf_call "ks"); (case s => ktf_call "sl")) | fail))
local macro_rules | `(tactic| wtm_at "wf") => `(tactic| assumption)
local macro_rules | `(tactic| wtm_at "wf1") => `(tactic| ((refine' Wf.sub ?w ?k ?s); (case w => assumption); (case k => refine' KS.cons (Kn.mem List.mem_cons_self) ?y; (case y => ktf_call "ks")); (case s => first | ktf_call "sl" | exact List.Sublist.refl _)))
local macro_rules | `(tactic| wtm_at "wfd") => `(tactic| ((refine' Wf.sub ?w ?k ?s); (case w => assumption); (case k => ktf_call "ks"); (case s => exact List.Sublist.refl _)))
local macro_rules | `(tactic| wtm_at "lc") => `(tactic| (simp only [List.length_cons, List.length_nil, List.length_map, List.length_append, List.length_singleton, List.length_reverse, List.length_set, List.length_replicate, List.length_range] at *; omega))
local macro_rules | `(tactic| wtm_at "c1") => `(tactic| fail)
local macro_rules | `(tactic| wtm_at "c0") => `(tactic| fail)
local macro_rules | `(tactic| ktn_call "n2" 0) => `(tactic| with_reducible refine s_iS ?_)
local macro_rules | `(tactic| ktn_call "n2" 0) => `(tactic| (first | ((with_reducible refine' s_iteDp ?h ?_); (case h => with_reducible exact rfl)) | fail))
local macro_rules | `(tactic| ktn_call "n2" 0) => `(tactic| with_reducible refine s_enum ?_)
local macro_rules | `(tactic| ktn_call "n2" 0) => `(tactic| with_reducible refine s_nput ?_)
local macro_rules | `(tactic| ktn_call "n2" 0) => `(tactic| with_reducible refine s_nnotin ?_)
local macro_rules | `(tactic| ktn_call "n2" 0) => `(tactic| with_reducible refine s_nget ?_)
local macro_rules | `(tactic| ktn_call "n2" 0) => `(tactic| with_reducible refine s_notBf ?_)
local macro_rules | `(tactic| ktn_call "n2" 0) => `(tactic| with_reducible refine s_notBt ?_)
local macro_rules | `(tactic| ktn_call "n2" 0) => `(tactic| with_reducible refine s_isBf ?_)
local macro_rules | `(tactic| ktn_call "n2" 0) => `(tactic| with_reducible refine s_isBt ?_)
local macro_rules | `(tactic| ktn_call "n2" 0) => `(tactic| with_reducible refine s_notB ?_)
local macro_rules | `(tactic| ktn_call "n2" 0) => `(tactic| with_reducible refine s_isB ?_)
local macro_rules | `(tactic| ktn_call "n2" 0) => `(tactic| with_reducible refine s_dget1 ?_)
local macro_rules | `(tactic| ktn_call "n2" 0) => `(tactic| with_reducible refine s_dput ?_)
local macro_rules | `(tactic| ktn_call "n2" 0) => `(tactic| with_reducible refine s_dnotin ?_)
local macro_rules | `(tactic| ktn_call "n2" 0) => `(tactic| with_reducible refine s_din ?_)
local macro_rules | `(tactic| ktn_call "n2" 0) => `(tactic| with_reducible refine s_dget ?_)
local macro_rules | `(tactic| wtm_at "no") => `(tactic| repeat (first | ktr_call "n0" 0 | ktr_call "o1" 0))
local macro_rules | `(tactic| wtm_at "na") => `(tactic| repeat (first | ktr_call "n0" 0 | ktr_call "o1" 0 | wtm_at "c1"))
local macro_rules | `(tactic| ktr_call "x1" 0) => `(tactic| (first | ((with_reducible refine' s_aug ?h ?_); (case h => exact rfl)) | fail))
local macro_rules | `(tactic| ktr_call "x1" 0) => `(tactic| with_reducible refine s_gcons ?_)
local macro_rules | `(tactic| ktr_call "x1" 0) => `(tactic| with_reducible refine s_gnil ?_)
local macro_rules | `(tactic| ktr_call "x1" 0) => `(tactic| with_reducible refine s_augS ?_)
local macro_rules | `(tactic| ktr_call "x1" 0) => `(tactic| with_reducible refine s_sfld ?_)
local macro_rules | `(tactic| ktr_call "x1" 0) => `(tactic| with_reducible refine s_gsub ?_)
local macro_rules | `(tactic| ktr_call "x1" 0) => `(tactic| with_reducible refine s_bm0 ?_)
local macro_rules | `(tactic| ktr_call "x1" 0) => `(tactic| with_reducible refine s_bm ?_)
local macro_rules | `(tactic| ktr_call "x1" 0) => `(tactic| with_reducible refine s_par2 ?_)
local macro_rules | `(tactic| ktr_call "x1" 0) => `(tactic| with_reducible refine s_par ?_)
local macro_rules | `(tactic| ktr_call "x1" 0) => `(tactic| with_reducible refine s_drop ?_)
local macro_rules | `(tactic| ktr_call "x1" 0) => `(tactic| with_reducible refine s_gname ?_)
local macro_rules | `(tactic| ktr_call "x1" 0) => `(tactic| with_reducible refine s_asg ?_)
local macro_rules | `(tactic| ktr_call "x1" 0) => `(tactic| with_reducible refine s_nil ?_)
local macro_rules | `(tactic| ktr_call "x1" 0) => `(tactic| with_reducible refine s_cons ?_)
local macro_rules | `(tactic| ktr_call "x1" 0) => `(tactic| with_reducible refine s_op ?_)
local macro_rules | `(tactic| ktr_call "x1" 0) => `(tactic| with_reducible refine s_c ?_)
local macro_rules | `(tactic| ktr_call "x1" 0) => `(tactic| (first | ((with_reducible refine' s_var ?h ?_); (case h => exact rfl)) | fail))
local macro_rules | `(tactic| wtm_at "st2") => `(tactic| repeat wtm_at "st0")
local macro_rules | `(tactic| wtm_at "kk") => `(tactic| repeat (first | with_reducible refine s_k ?_ | with_reducible refine iteT ?_ | with_reducible refine iteF ?_ | with_reducible refine s_iteN ?_))
local macro_rules | `(tactic| wtm_at "sq2") => `(tactic| repeat (first | ktr_call "x1" 0 | k_search "n1" | wtm_at "e1" | wtm_at "b1" | with_reducible refine s_seq ?_ | with_reducible refine s_next ?_))
local macro_rules | `(tactic| ktr_call "b2" 0) => `(tactic| (first | ((with_reducible refine s_iteIp ?h ?_); (case h => exact rfl)) | fail))
local macro_rules | `(tactic| ktr_call "b2" 0) => `(tactic| with_reducible refine s_nonN ?_)
local macro_rules | `(tactic| ktr_call "b2" 0) => `(tactic| with_reducible refine s_refN ?_)
local macro_rules | `(tactic| ktr_call "b2" 0) => `(tactic| with_reducible refine s_intN ?_)
local macro_rules | `(tactic| ktr_call "s2" 0) => `(tactic| with_reducible refine s_brk ?_)
local macro_rules | `(tactic| ktr_call "s2" 0) => `(tactic| with_reducible refine s_cnt ?_)
local macro_rules | `(tactic| ktr_call "s2" 0) => `(tactic| with_reducible refine s_iT ?_)
local macro_rules | `(tactic| ktr_call "s2" 0) => `(tactic| with_reducible refine s_iL ?_)
local macro_rules | `(tactic| ktr_call "s2" 0) => `(tactic| (first | ((with_reducible refine' s_aug ?h ?_); (case h => exact rfl)) | fail))
local macro_rules | `(tactic| ktr_call "s2" 0) => `(tactic| with_reducible refine s_zip ?_)
local macro_rules | `(tactic| ktr_call "s2" 0) => `(tactic| with_reducible refine s_rng2 ?_)
local macro_rules | `(tactic| ktr_call "s2" 0) => `(tactic| with_reducible refine s_rng1 ?_)
local macro_rules | `(tactic| ktr_call "s2" 0) => `(tactic| with_reducible refine s_retN ?_)
local macro_rules | `(tactic| ktr_call "s2" 0) => `(tactic| with_reducible refine s_gcons ?_)
local macro_rules | `(tactic| ktr_call "s2" 0) => `(tactic| with_reducible refine s_gnil ?_)
local macro_rules | `(tactic| ktr_call "s2" 0) => `(tactic| (first | ((with_reducible refine' s_tyL ?h ?_); (case h => ktf_call "lst")) | fail))
local macro_rules | `(tactic| ktr_call "s2" 0) => `(tactic| (first | ((with_reducible refine' s_setW1 (by assumption) ?j ?_); (case j => exact rfl); (intro H' w')) | fail))
local macro_rules | `(tactic| ktr_call "s2" 0) => `(tactic| (first | ((with_reducible refine' s_setW0 (by assumption) ?j ?_); (case j => exact rfl); (intro H' w')) | fail))
local macro_rules | `(tactic| ktr_call "s2" 0) => `(tactic| with_reducible refine s_augS ?_)
local macro_rules | `(tactic| ktr_call "s2" 0) => `(tactic| with_reducible refine s_sfld ?_)
local macro_rules | `(tactic| ktr_call "s2" 0) => `(tactic| with_reducible refine s_gsub ?_)
local macro_rules | `(tactic| ktr_call "s2" 0) => `(tactic| with_reducible refine s_bm0 ?_)
local macro_rules | `(tactic| ktr_call "s2" 0) => `(tactic| with_reducible refine s_bm ?_)
local macro_rules | `(tactic| ktr_call "s2" 0) => `(tactic| with_reducible refine s_for ?_)
local macro_rules | `(tactic| ktr_call "s2" 0) => `(tactic| with_reducible refine s_par2 ?_)
local macro_rules | `(tactic| ktr_call "s2" 0) => `(tactic| with_reducible refine s_par ?_)
local macro_rules | `(tactic| ktr_call "s2" 0) => `(tactic| with_reducible refine s_drop ?_)
local macro_rules | `(tactic| ktn_call "e2" 0) => `(tactic| (first | ((with_reducible refine' s_isi (by assumption) ?h ?e ?k ?_); (case h => ktf_call "is"); (case e => exact rfl); (case k => first | exact kit_ii | exact kit_ib | exact kit_bi | exact kit_bb | exact kit_tt | exact kit_ll | decide +kernel)) | fail))
local macro_rules | `(tactic| ktn_call "e2" 0) => `(tactic| (first | ((with_reducible refine' s_ne ?h ?_); (case h => exact rfl)) | fail))
local macro_rules | `(tactic| ktn_call "e2" 0) => `(tactic| (first | ((with_reducible refine' s_eq ?h ?_); (case h => exact rfl)) | fail))
local macro_rules | `(tactic| ktn_call "e2" 0) => `(tactic| (first | ((with_reducible refine' s_I ?c ?_); (case c => exact ⟨⟨by decide, by decide, by decide⟩, by decide⟩)) | fail))
local macro_rules | `(tactic| ktn_call "e2" 0) => `(tactic| (first | ((with_reducible refine' s_lenM ?h ?_); (case h => ktf_call "lst")) | fail))
local macro_rules | `(tactic| ktn_call "e2" 0) => `(tactic| (first | ((with_reducible refine' s_lenL (by assumption) ?h ?_); (case h => ktf_call "is")) | fail))
local macro_rules | `(tactic| ktn_call "e2" 0) => `(tactic| (first | ((with_reducible refine' s_lenT (by assumption) ?h ?_); (case h => ktf_call "is")) | fail))
local macro_rules | `(tactic| ktn_call "e2" 0) => `(tactic| (first | ((with_reducible refine' s_fldI (by assumption) ?h ?c ?n ?f ?d ?_); (case h => ktf_call "is"); (case c => exact OwnC.cl (by assumption)); (case n => assumption); (case f => decide); (case d => exact rfl); wtm_at "inv") | fail))
local macro_rules | `(tactic| ktn_call "e2" 0) => `(tactic| (first | ((with_reducible refine' s_ixLM ?h ?d ?_); (case h => ktf_call "lst"); (case d => exact rfl)) | fail))
local macro_rules | `(tactic| ktn_call "e2" 0) => `(tactic| (first | ((with_reducible refine' s_ixM ?h ?d ?_); (case h => ktf_call "lst"); (case d => exact rfl)) | fail))
local macro_rules | `(tactic| ktn_call "e2" 0) => `(tactic| (first | ((with_reducible refine' s_ixL (by assumption) ?h ?d ?_); (case h => ktf_call "is"); (case d => exact rfl); wtm_at "inv") | fail))
local macro_rules | `(tactic| ktn_call "e2" 0) => `(tactic| (first | ((with_reducible refine' s_ixT (by assumption) ?h ?d ?_); (case h => ktf_call "is"); (case d => exact rfl); wtm_at "inv") | fail))
local macro_rules | `(tactic| ktn_call "e2" 0) => `(tactic| with_reducible refine s_ipI ?_)
local macro_rules | `(tactic| ktn_call "e2" 0) => `(tactic| with_reducible refine s_max2 ?_)
local macro_rules | `(tactic| ktn_call "e2" 0) => `(tactic| with_reducible refine s_min2 ?_)
local macro_rules | `(tactic| ktn_call "e2" 0) => `(tactic| with_reducible refine s_intI ?_)
local macro_rules | `(tactic| ktn_call "e2" 0) => `(tactic| with_reducible refine s_intB ?_)
local macro_rules | `(tactic| ktn_call "e2" 0) => `(tactic| with_reducible refine s_abs ?_)
local macro_rules | `(tactic| ktn_call "e2" 0) => `(tactic| with_reducible refine s_yes ?_)
local macro_rules | `(tactic| ktn_call "e2" 0) => `(tactic| with_reducible refine s_lcc ?_)
local macro_rules | `(tactic| ktn_call "e2" 0) => `(tactic| with_reducible refine s_part' ?_)
local macro_rules | `(tactic| ktn_call "e2" 0) => `(tactic| with_reducible refine s_part ?_)
local macro_rules | `(tactic| ktn_call "e2" 0) => `(tactic| with_reducible refine s_noP ?_)
local macro_rules | `(tactic| ktn_call "e2" 0) => `(tactic| with_reducible refine s_sl ?_)
local macro_rules | `(tactic| ktn_call "e2" 0) => `(tactic| with_reducible refine s_rev ?_)
local macro_rules | `(tactic| ktn_call "e2" 0) => `(tactic| with_reducible refine s_meth ?_)
local macro_rules | `(tactic| ktn_call "e2" 0) => `(tactic| with_reducible refine s_makeK ?_)
local macro_rules | `(tactic| ktn_call "e2" 0) => `(tactic| with_reducible refine s_make ?_)
local macro_rules | `(tactic| ktn_call "e2" 0) => `(tactic| with_reducible refine s_fldQ ?_)
local macro_rules | `(tactic| ktn_call "e2" 0) => `(tactic| with_reducible refine s_lst ?_)
local macro_rules | `(tactic| ktn_call "e2" 0) => `(tactic| with_reducible refine s_tup ?_)
local macro_rules | `(tactic| ktn_call "e2" 0) => `(tactic| with_reducible refine s_notN ?_)
local macro_rules | `(tactic| ktn_call "e2" 0) => `(tactic| with_reducible refine s_isN ?_)
local macro_rules | `(tactic| ktn_call "e2" 0) => `(tactic| with_reducible refine s_chain ?_)
local macro_rules | `(tactic| ktn_call "e2" 0) => `(tactic| with_reducible refine s_if ?_)
local macro_rules | `(tactic| ktn_call "e2" 0) => `(tactic| with_reducible refine s_notV ?_)
local macro_rules | `(tactic| ktn_call "e2" 0) => `(tactic| with_reducible refine s_orV ?_)
local macro_rules | `(tactic| ktn_call "e2" 0) => `(tactic| with_reducible refine s_andV ?_)
local macro_rules | `(tactic| ktn_call "e2" 0) => `(tactic| with_reducible refine s_or ?_)
local macro_rules | `(tactic| ktn_call "e2" 0) => `(tactic| with_reducible refine s_and ?_)
local macro_rules | `(tactic| ktn_call "e2" 0) => `(tactic| with_reducible refine s_not ?_)
local macro_rules | `(tactic| ktn_call "e2" 0) => `(tactic| with_reducible refine s_fldVC ?_)
local macro_rules | `(tactic| ktn_call "e2" 0) => `(tactic| with_reducible refine s_methC ?_)
local macro_rules | `(tactic| ktn_call "e2" 0) => `(tactic| with_reducible refine s_calKC ?_)
local macro_rules | `(tactic| ktn_call "e2" 0) => `(tactic| with_reducible refine s_calC ?_)
local macro_rules | `(tactic| ktn_call "e2" 0) => `(tactic| with_reducible refine s_B ?_)
local macro_rules | `(tactic| ktn_call "e2" 0) => `(tactic| with_reducible refine s_un ?_)
local macro_rules | `(tactic| ktn_call "e2" 0) => `(tactic| with_reducible refine s_U ?_)
local macro_rules | `(tactic| tbr_iter "ef") => `(tactic| with_reducible refine s_add ?_)
local macro_rules | `(tactic| tbr_iter "ef") => `(tactic| with_reducible refine s_I0 ?_)
local macro_rules | `(tactic| tbr_iter "ef") => `(tactic| with_reducible refine s_cb ?_)
local macro_rules | `(tactic| tbr_iter "ef") => `(tactic| with_reducible refine s_makeX ?_)
local macro_rules | `(tactic| tbr_iter "ef") => `(tactic| with_reducible refine s_callN ?_)
local macro_rules | `(tactic| tbr_iter "ef") => `(tactic| with_reducible refine s_callS ?_)
local macro_rules | `(tactic| tbr_iter "ef") => `(tactic| with_reducible refine s_call ?_)
local macro_rules | `(tactic| tbr_iter "ef") => `(tactic| with_reducible refine s_k ?_)
local macro_rules | `(tactic| tbr_iter "ef") => `(tactic| with_reducible refine s_test ?_)
local macro_rules | `(tactic| tbr_iter "ef") => `(tactic| with_reducible refine s_nil ?_)
local macro_rules | `(tactic| tbr_iter "ef") => `(tactic| with_reducible refine s_cons ?_)
local macro_rules | `(tactic| tbr_iter "ef") => `(tactic| with_reducible refine s_op ?_)
local macro_rules | `(tactic| tbr_iter "ef") => `(tactic| with_reducible refine s_c ?_)
local macro_rules | `(tactic| tbr_iter "ef") => `(tactic| (first | ((with_reducible refine' s_var ?h ?_); (case h => exact rfl)) | fail))
local macro_rules | `(tactic| tbr_iter "sf") => `(tactic| with_reducible refine s_ret ?_)
local macro_rules | `(tactic| tbr_iter "sf") => `(tactic| with_reducible refine s_next ?_)
local macro_rules | `(tactic| tbr_iter "sf") => `(tactic| with_reducible refine s_ifS ?_)
local macro_rules | `(tactic| tbr_iter "sf") => `(tactic| with_reducible refine s_gname ?_)
local macro_rules | `(tactic| tbr_iter "sf") => `(tactic| with_reducible refine s_asg ?_)
local macro_rules | `(tactic| tbr_iter "sf") => `(tactic| with_reducible refine s_seq ?_)
local macro_rules | `(tactic| tbr_iter "bf") => `(tactic| with_reducible refine s_iteN ?_)
local macro_rules | `(tactic| tbr_iter "bf") => `(tactic| with_reducible refine iteF ?_)
local macro_rules | `(tactic| tbr_iter "bf") => `(tactic| with_reducible refine iteT ?_)
local macro_rules | `(tactic| wtm_at "e1") => `(tactic| ktn_call "e2" 0)
local macro_rules | `(tactic| wtm_at "e1") => `(tactic| tbr_iter "ef")
local macro_rules | `(tactic| wtm_at "s1") => `(tactic| ktr_call "s2" 0)
local macro_rules | `(tactic| wtm_at "s1") => `(tactic| tbr_iter "sf")
local macro_rules | `(tactic| wtm_at "b1") => `(tactic| ktr_call "b2" 0)
local macro_rules | `(tactic| wtm_at "b1") => `(tactic| tbr_iter "bf")
local macro_rules | `(tactic| wtm_at "st0") => `(tactic| wtm_at "b1")
local macro_rules | `(tactic| wtm_at "st0") => `(tactic| ktn_call "e2" 0)
local macro_rules | `(tactic| wtm_at "st0") => `(tactic| tbr_iter "ef")
local macro_rules | `(tactic| wtm_at "st0") => `(tactic| k_search "n1")
local macro_rules | `(tactic| wtm_at "st0") => `(tactic| ktr_call "x1" 0)
local macro_rules | `(tactic| wtm_at "go0") => `(tactic| ktr_call "b2" 0)
local macro_rules | `(tactic| wtm_at "go0") => `(tactic| ktr_call "s2" 0)
local macro_rules | `(tactic| wtm_at "go0") => `(tactic| ktn_call "e2" 0)
local macro_rules | `(tactic| wtm_at "go0") => `(tactic| tbr_iter "f1")
local macro_rules | `(tactic| wtm_at "go") => `(tactic| repeat wtm_at "go0")
local macro_rules | `(tactic| ktf_call "kn") => `(tactic| exact Kn.ref _)
local macro_rules | `(tactic| ktf_call "kn") => `(tactic| exact Kn.ty _)
local macro_rules | `(tactic| ktf_call "kn") => `(tactic| assumption)
local macro_rules | `(tactic| ktf_call "kn") => `(tactic| (first | ((refine' Kn.mem ?h); (case h => ktf_call "mem")) | fail))
local macro_rules | `(tactic| ktf_call "kn") => `(tactic| with_reducible exact Kn.non)
local macro_rules | `(tactic| ktf_call "kn") => `(tactic| with_reducible exact Kn.str _)
local macro_rules | `(tactic| ktf_call "kn") => `(tactic| with_reducible exact Kn.bl _)
local macro_rules | `(tactic| ktf_call "kn") => `(tactic| with_reducible exact Kn.int _)
local macro_rules | `(tactic| ktf_call "foc") => `(tactic| (first | ((with_reducible refine' Foc.there ?h); (case h => ktf_call "foc")) | fail))
local macro_rules | `(tactic| ktf_call "foc") => `(tactic| with_reducible exact Foc.here)
local macro_rules | `(tactic| ktf_call "rk") => `(tactic| ktf_call "rkM")
local macro_rules | `(tactic| ktf_call "rk") => `(tactic| (first | ((with_reducible refine' Rk.mi ?h); (case h => ktf_call "mem")) | fail))
local macro_rules | `(tactic| ktf_call "rk") => `(tactic| (first | ((with_reducible refine' Rk.ml ?h); (case h => ktf_call "mem")) | fail))
local macro_rules | `(tactic| ktf_call "rk") => `(tactic| (first | ((refine' Rk.mem ?h); (case h => ktf_call "mem")) | fail))
local macro_rules | `(tactic| ktf_call "rk") => `(tactic| with_reducible exact Rk.non)
local macro_rules | `(tactic| ktf_call "rk") => `(tactic| with_reducible exact Rk.str _)
local macro_rules | `(tactic| ktf_call "rk") => `(tactic| with_reducible exact Rk.bl _)
local macro_rules | `(tactic| ktf_call "rk") => `(tactic| with_reducible exact Rk.int _)
local macro_rules | `(tactic| ktf_call "mem") => `(tactic| (first | ((with_reducible refine' List.mem_cons_of_mem _ ?h); (case h => ktf_call "mem")) | fail))
local macro_rules | `(tactic| ktf_call "mem") => `(tactic| assumption)
local macro_rules | `(tactic| ktf_call "mem") => `(tactic| with_reducible exact List.mem_cons_self)
local macro_rules | `(tactic| k_search "n1") => `(tactic| (first | ((with_reducible refine' n_sf (by assumption) ?f ?h ?c ?n ?z ?g ?_); (case f => ktf_call "foc"); (case h => ktf_call "kn"); (case c => exact OwnC.cl (by assumption)); (case n => assumption); (case z => decide); (case g => first | decide | (simp; done)); (intro H' w')) | fail))
local macro_rules | `(tactic| k_search "n1") => `(tactic| (first | ((with_reducible refine' n_meth (by assumption) ?h ?m ?_); (case h => ktf_call "rk"); (case m => first | decide | (simp only [List.map_cons, List.map_nil]; decide))) | fail))
local macro_rules | `(tactic| k_search "n1") => `(tactic| (first | ((with_reducible refine' n_fld (by assumption) ?h ?c ?n ?f ?d ?_); (case h => ktf_call "rk"); (case c => exact OwnC.cl (by assumption)); (case n => assumption); (case f => decide); (case d => exact rfl); (intro u w')) | fail))
local macro_rules | `(tactic| k_search "n1") => `(tactic| (first | ((with_reducible refine' n_fldn (by assumption) ?h ?c ?n ?f ?d ?_); (case h => ktf_call "rk"); (case c => exact OwnC.cl (by assumption)); (case n => assumption); (case f => decide); (case d => exact rfl)) | fail))
local macro_rules | `(tactic| k_search "n1") => `(tactic| (first | ((with_reducible refine' n_fldr (by assumption) ?h ?c ?n ?f ?d ?_); (case h => ktf_call "rk"); (case c => exact OwnC.cl (by assumption)); (case n => assumption); (case f => decide); (case d => exact rfl)) | fail))
local macro_rules | `(tactic| k_search "n1") => `(tactic| (first | ((with_reducible refine' n_fldi (by assumption) ?h ?c ?n ?f ?d ?_); (case h => ktf_call "rk"); (case c => exact OwnC.cl (by assumption)); (case n => assumption); (case f => decide); (case d => exact rfl)) | fail))
local macro_rules | `(tactic| k_search "n1") => `(tactic| (first | ((with_reducible refine' n_isi (by assumption) ?h ?e ?k ?_); (case h => ktf_call "rk"); (case e => exact rfl); (case k => first | exact kit_ii | exact kit_ib | exact kit_bi | exact kit_bb | exact kit_tt | exact kit_ll | decide +kernel)) | fail))
local macro_rules | `(tactic| k_search "n1") => `(tactic| (first | ((with_reducible refine' n_rev (by assumption) ?h ?_); (case h => ktf_call "rk"); (intro p H' w')) | fail))
local macro_rules | `(tactic| k_search "n1") => `(tactic| (first | ((with_reducible refine' n_listT (by assumption) ?h ?_); (case h => ktf_call "rk"); (intro p H' w')) | fail))
local macro_rules | `(tactic| k_search "n1") => `(tactic| (first | ((with_reducible refine' n_list (by assumption) ?h ?_); (case h => ktf_call "rk"); (intro p H' w')) | fail))
local macro_rules | `(tactic| k_search "n1") => `(tactic| (first | ((with_reducible refine' n_sl (by assumption) ?h ?_); (case h => ktf_call "rk"); (intro p H' w')) | fail))
local macro_rules | `(tactic| k_search "n1") => `(tactic| (first | ((with_reducible refine' n_set (by assumption) ?f ?h ?z ?_); (case f => ktf_call "foc"); (case h => ktf_call "kn"); (case z => exact rfl); (intro H' w')) | fail))
local macro_rules | `(tactic| k_search "n1") => `(tactic| (first | ((with_reducible refine' n_clear (by assumption) ?f ?_); (case f => ktf_call "foc"); (intro H' w')) | fail))
local macro_rules | `(tactic| k_search "n1") => `(tactic| (first | ((with_reducible refine' n_app (by assumption) ?f ?h ?z ?_); (case f => ktf_call "foc"); (case h => ktf_call "kn0"); (case z => first | omega | (simp; done) | (simp; omega)); (intro H' w')) | fail))
local macro_rules | `(tactic| k_search "n1") => `(tactic| (first | ((with_reducible refine' n_tyL (by assumption) ?h ?_); (case h => ktf_call "mem")) | fail))
local macro_rules | `(tactic| k_search "n1") => `(tactic| (first | ((with_reducible refine' n_gtup4 (by assumption) ?h ?_); (case h => ktf_call "rk"); (intro x y z u w')) | fail))
local macro_rules | `(tactic| k_search "n1") => `(tactic| (first | ((with_reducible refine' n_gtup3 (by assumption) ?h ?_); (case h => ktf_call "rk"); (intro x y z w')) | fail))
local macro_rules | `(tactic| k_search "n1") => `(tactic| (first | ((with_reducible refine' n_gtup2 (by assumption) ?h ?_); (case h => ktf_call "rk"); (intro x y w')) | fail))
local macro_rules | `(tactic| k_search "n1") => `(tactic| (first | ((with_reducible refine' n_gtupIII (by assumption) ?h ?_); (case h => ktf_call "rk")) | fail))
local macro_rules | `(tactic| k_search "n1") => `(tactic| (first | ((with_reducible refine' n_gtupII (by assumption) ?h ?_); (case h => ktf_call "rk")) | fail))
local macro_rules | `(tactic| k_search "n1") => `(tactic| (first | ((with_reducible refine' n_newL (by assumption) ?a ?z ?_); (case a => ktf_call "kna0"); (case z => exact Nat.le_of_ble_eq_true rfl); (intro p H' w')) | fail))
local macro_rules | `(tactic| k_search "n1") => `(tactic| (first | ((with_reducible refine' n_newT (by assumption) ?a ?z ?_); (case a => ktf_call "kna0"); (case z => exact Nat.le_of_ble_eq_true rfl); (intro p H' w')) | fail))
local macro_rules | `(tactic| k_search "n1") => `(tactic| (first | ((with_reducible refine' n_lenT (by assumption) ?h ?_); (case h => ktf_call "rk")) | fail))
local macro_rules | `(tactic| k_search "n1") => `(tactic| (first | ((with_reducible refine' n_lenL (by assumption) ?h ?_); (case h => ktf_call "rk")) | fail))
local macro_rules | `(tactic| k_search "n1") => `(tactic| (first | ((with_reducible refine' n_ixL (by assumption) ?h ?d ?_); (case h => ktf_call "rk"); (case d => first | exact rfl | with_reducible exact atI_head | with_reducible exact atI_last _ _); (intro u w')) | fail))
local macro_rules | `(tactic| k_search "n1") => `(tactic| (first | ((with_reducible refine' n_ixT (by assumption) ?h ?d ?_); (case h => ktf_call "rk"); (case d => exact rfl); (intro u w')) | fail))
local macro_rules | `(tactic| k_search "n1") => `(tactic| (first | ((with_reducible refine' n_ixTn (by assumption) ?h ?d ?_); (case h => ktf_call "rk"); (case d => exact rfl)) | fail))
local macro_rules | `(tactic| k_search "n1") => `(tactic| (first | ((with_reducible refine' n_ixLr (by assumption) ?h ?d ?_); (case h => ktf_call "rk"); (case d => exact rfl)) | fail))
local macro_rules | `(tactic| k_search "n1") => `(tactic| (first | ((with_reducible refine' n_ixLi (by assumption) ?h ?d ?_); (case h => ktf_call "rk"); (case d => exact rfl)) | fail))
local macro_rules | `(tactic| k_search "n1") => `(tactic| (first | ((with_reducible refine' n_ixTr (by assumption) ?h ?d ?_); (case h => ktf_call "rk"); (case d => exact rfl)) | fail))
local macro_rules | `(tactic| k_search "n1") => `(tactic| (first | ((with_reducible refine' n_ixTi (by assumption) ?h ?d ?_); (case h => ktf_call "rk"); (case d => exact rfl)) | fail))
local macro_rules | `(tactic| tbr_iter "f1") => `(tactic| with_reducible refine s_ret ?_)
local macro_rules | `(tactic| tbr_iter "f1") => `(tactic| with_reducible refine s_add ?_)
local macro_rules | `(tactic| tbr_iter "f1") => `(tactic| with_reducible refine s_iteN ?_)
local macro_rules | `(tactic| tbr_iter "f1") => `(tactic| with_reducible refine s_next ?_)
local macro_rules | `(tactic| tbr_iter "f1") => `(tactic| with_reducible refine iteF ?_)
local macro_rules | `(tactic| tbr_iter "f1") => `(tactic| with_reducible refine iteT ?_)
local macro_rules | `(tactic| tbr_iter "f1") => `(tactic| with_reducible refine s_I0 ?_)
local macro_rules | `(tactic| tbr_iter "f1") => `(tactic| with_reducible refine s_cb ?_)
local macro_rules | `(tactic| tbr_iter "f1") => `(tactic| with_reducible refine s_makeX ?_)
local macro_rules | `(tactic| tbr_iter "f1") => `(tactic| with_reducible refine s_callN ?_)
local macro_rules | `(tactic| tbr_iter "f1") => `(tactic| with_reducible refine s_callS ?_)
local macro_rules | `(tactic| tbr_iter "f1") => `(tactic| with_reducible refine s_call ?_)
local macro_rules | `(tactic| tbr_iter "f1") => `(tactic| with_reducible refine s_k ?_)
local macro_rules | `(tactic| tbr_iter "f1") => `(tactic| with_reducible refine s_test ?_)
local macro_rules | `(tactic| tbr_iter "f1") => `(tactic| with_reducible refine s_ifS ?_)
local macro_rules | `(tactic| tbr_iter "f1") => `(tactic| with_reducible refine s_gname ?_)
local macro_rules | `(tactic| tbr_iter "f1") => `(tactic| with_reducible refine s_asg ?_)
local macro_rules | `(tactic| tbr_iter "f1") => `(tactic| with_reducible refine s_seq ?_)
local macro_rules | `(tactic| tbr_iter "f1") => `(tactic| with_reducible refine s_nil ?_)
local macro_rules | `(tactic| tbr_iter "f1") => `(tactic| with_reducible refine s_cons ?_)
local macro_rules | `(tactic| tbr_iter "f1") => `(tactic| with_reducible refine s_op ?_)
local macro_rules | `(tactic| tbr_iter "f1") => `(tactic| with_reducible refine s_c ?_)
local macro_rules | `(tactic| tbr_iter "f1") => `(tactic| (first | ((with_reducible refine' s_var ?h ?_); (case h => exact rfl)) | fail))
local macro_rules | `(tactic| ktr_call "n0" 0) => `(tactic| wtm_at "c0")
local macro_rules | `(tactic| ktr_call "n0" 0) => `(tactic| ktr_call "b2" 0)
local macro_rules | `(tactic| ktr_call "n0" 0) => `(tactic| ktr_call "s2" 0)
local macro_rules | `(tactic| ktr_call "n0" 0) => `(tactic| ktn_call "e2" 0)
local macro_rules | `(tactic| ktr_call "n0" 0) => `(tactic| ktn_call "n2" 0)
local macro_rules | `(tactic| ktr_call "n0" 0) => `(tactic| k_search "n1")
local macro_rules | `(tactic| ktr_call "n0" 0) => `(tactic| tbr_iter "f1")
local macro_rules | `(tactic| wtm_at "n") => `(tactic| repeat ktr_call "n0" 0)
section
variable {P : Program} {wd : World} {K : PySem.W.Frag} {mg : Str → Option Value} {base : Heap}
variable {C_Ways C_Listed : Addr}
variable {P__law_prices : Addr}
def top (i : Nat) : Stmt := PySem.Challenge.pw_fairsheet_k62_way_by_rule.main.body.getD i (.Pass ⟨0, 0, 0, 0⟩)
abbrev s_is_whole : Stmt := top 7
theorem sc_is_whole : FnScope ["thing"] ["thing"] (defScope s_is_whole) := ⟨rfl, rfl, rfl, by decide +kernel, rfl, by decide +kernel, by decide +kernel⟩
def sp_is_whole (K : PySem.W.Frag) : Sp := fun vs H Q _ => ∃ I M v d, vs = [v] ∧ W I H M ∧ Is I v d ∧ TyK K d ∧ Q (.bl d.whole) H
theorem use_isI {K : PySem.W.Frag} {I H : Hp} {M : List (Addr × HO)} {n : Int} {Q : VK} {E : XK} (w : W I H M) (q : Q (.bl true) H) : sp_is_whole K ([.int n] ++ []) H Q E := ⟨I, M, _, _, rfl, w, .int n, .inl ⟨_, rfl⟩, q⟩
theorem use_isN {K : PySem.W.Frag} {I H : Hp} {M : List (Addr × HO)} {v : V} {d : D} {a : String} {Q : VK} {E : XK} (w : W I H M) (h : Is I v d) (ha : d.tn = some a) (hd : d.whole = false) (q : Q (.bl false) H) : sp_is_whole K ([v] ++ []) H Q E := ⟨I, M, _, _, rfl, w, h, .inl ⟨_, ha⟩, by rw [hd]; exact q⟩
theorem n_isw {K : PySem.W.Frag} {F : List (V × D)} {H : Hp} {M : List ME} {v : V} {d : D} {Q : VK} {E : XK} (w : Wf F H M) (hv : Rk F M v d) (ht : TyK K d) (q : Q (.bl d.whole) H) : sp_is_whole K ([v] ++ []) H Q E := ⟨H, [], v, d, rfl, W.self, w.rd hv, ht, q⟩
theorem n_isI {K : PySem.W.Frag} {n : Int} {H : Hp} {Q : VK} {E : XK} (q : Q (.bl true) H) : sp_is_whole K ([.int n] ++ []) H Q E := ⟨H, [], .int n, .int n, rfl, W.self, .int n, .inl ⟨_, rfl⟩, q⟩
local macro_rules | `(tactic| wtm_at "c0") => `(tactic| with_reducible refine n_isI ?_)

theorem ok_is_whole {f : Addr} {fd : FuncData} (F : Fun K "is_whole" "is_whole" s_is_whole f fd) (B : Bn mg)  : FnOk P wd K mg base CX0 1 f fd ["thing"] (sp_is_whole K) := by
  refine F.ok sc_is_whole (fun vs H Q E h => ?_) (fun cdv A outer s H vs Q E hr h => ?_)
  · obtain ⟨I, M, v, d, rfl, w, hv, ha, k⟩ := h
    all_goals rfl
  · obtain ⟨I, M, v, d, rfl, w, hv, ha, k⟩ := h
    refine ⟨_, (pss_one (ps_ret (pe_and (pe_callB (k_isi (K := K) rfl) (by rfl) B.isinstance_ (by decide +kernel) (pa_cons (pv 0) (pa_cons (pe_bltn (v := .ty "int") (by rfl) B.int_ (by decide +kernel) rfl) pa_nil))) (pe_one (pe_not (pe_callB (k_isi (K := K) rfl) (by rfl) B.isinstance_ (by decide +kernel) (pa_cons (pv 0) (pa_cons (pe_bltn (v := .ty "bool") (by rfl) B.bool_ (by decide +kernel) rfl) pa_nil)))))))), ?_⟩
    try dsimp only [cxOf, Cx.nox, Cx.wish, Cx.blk]
    rcases ha with ⟨a, ha⟩ | ⟨C, fs, rfl, oc, ki⟩
    · cases d with
      | int n => wtm_at "go"; exact k
      | bl n => wtm_at "go"; exact k
      | non => wtm_at "go"; exact k
      | str n => wtm_at "go"; exact k
      | tup n => wtm_at "go"; exact k
      | lst n => wtm_at "go"; exact k
      | ref n => cases ha
      | ty n => cases ha
      | obj n m => cases ha
      | fact _ => cases ha
      | dict => wtm_at "go"; exact k
    · wtm_at "go"
      refine s_isiO oc w hv ki ?_
      wtm_at "go"
      exact k
abbrev s_divisor : Stmt := top 8
theorem sc_divisor : FnScope ["one", "other"] ["one", "other"] (defScope s_divisor) := ⟨rfl, rfl, rfl, by decide +kernel, rfl, by decide +kernel, by decide +kernel⟩
def sp_divisor : Sp := fun vs H Q _ => ∃ a b : Int, vs = [.int a, .int b] ∧ 0 ≤ a ∧ 0 ≤ b ∧ Q (.int (Int.gcd a b)) H

theorem ok_divisor {f : Addr} {fd : FuncData} (F : Fun K "divisor" "divisor" s_divisor f fd) (B : Bn mg)  : FnOk P wd K mg base CX0 1 f fd ["one", "other"] sp_divisor := by
  refine F.ok sc_divisor (fun vs H Q E h => ?_) (fun cdv A outer s H vs Q E hr h => ?_)
  · obtain ⟨a, b, rfl, ha, hb, k⟩ := h
    all_goals rfl
  · obtain ⟨a, b, rfl, ha, hb, k⟩ := h
    refine ⟨_, (pss_cons (ps_while PassesOwn.never (pt_cmpR (k_ne (K := K) rfl hr.units) (pv 0) pe_int (nomark _)) (pss_one (ps_par (i := 0) (j := 1) rfl sc_divisor.nd rfl rfl (by decide) rfl rfl (pa_cons (pe_op op_mod (pv 1) (pv 0)) (pa_cons (pv 0) pa_nil)) rfl)))
      (pss_one (ps_ret (pv 1)))), ?_⟩
    try dsimp only [cxOf, Cx.nox, Cx.wish, Cx.blk]
    with_reducible refine s_seq ?_
    refine s_while (fun σ' H' => H' = H ∧ ∃ a' b' : Int, σ' = [some (.int a'), some (.int b')] ∧ 0 ≤ a' ∧ 0 ≤ b' ∧ Int.gcd b' a' = Int.gcd a b) (fun σ => match σ with | [some (.int b), _] => b.toNat | _ => 0) ⟨rfl, a, b, rfl, ha, hb, Int.gcd_comm _ _⟩ ?_
    rintro σ' H' ⟨rfl, a', b', rfl, ha', hb', e⟩
    wtm_at "go"
    wtm_at "fork"
    · wtm_at "go"
      rename_i e0
      subst e0
      rw [← e, gcd_end hb'] at k
      exact k
    · rename_i e0
      refine s_wN ?_
      wtm_at "goo"
      exact ⟨⟨rfl, b' % a', a', rfl, Int.emod_nonneg _ e0, ha', by rw [gcd_step hb' ha', e]⟩, by
        have := Int.emod_lt_of_pos b' (show 0 < a' by omega)
        have := Int.emod_nonneg b' e0
        show (b' % a').toNat < a'.toNat
        omega⟩
def D.isfr : D → Bool
  | .tup [.int a, .int b] => decide (1 ≤ b ∧ Int.gcd a b = 1)
  | _ => false
/-- what may be asked: of a tuple of two, both of known kinds -/
def Ask (d : D) : Prop := Ty d ∧ ∀ x y, d = .tup [x, y] → Ty x ∧ Ty y
theorem Ask.of {d : D} (h : Ty d) (hn : ∀ x y, d ≠ .tup [x, y]) : Ask d := ⟨h, fun x y e => absurd e (hn x y)⟩
theorem Ask.two {x y : D} (hx : Ty x) (hy : Ty y) : Ask (.tup [x, y]) := ⟨⟨_, rfl⟩, fun _ _ e => by cases e; exact ⟨hx, hy⟩⟩
theorem isfr_no1 {x y : D} (h : x.whole = false) : D.isfr (.tup [x, y]) = false := by cases x <;> first | rfl | cases h
theorem isfr_no2 {x y : D} (h : y.whole = false) : D.isfr (.tup [x, y]) = false := by cases x <;> cases y <;> first | rfl | cases h
theorem isfr_1 (x : D) : D.isfr (.tup [x]) = false := by cases x <;> rfl
theorem isfr_3 (x y z : D) (r : List D) : D.isfr (.tup (x :: y :: z :: r)) = false := by cases x <;> cases y <;> rfl

abbrev s_is_fraction : Stmt := top 9
theorem sc_is_fraction : FnScope ["thing"] ["thing"] (defScope s_is_fraction) := ⟨rfl, rfl, rfl, by decide +kernel, rfl, by decide +kernel, by decide +kernel⟩
def sp_is_fraction : Sp := fun vs H Q _ => ∃ I M v d, vs = [v] ∧ W I H M ∧ Is I v d ∧ Ask d ∧ Q (.bl d.isfr) H
theorem use_isfr {I H : Hp} {M : List (Addr × HO)} {v : V} {d : D} {Q : VK} {E : XK} (w : W I H M) (h : Is I v d) (ha : Ask d) (q : Q (.bl d.isfr) H) : sp_is_fraction ([v] ++ []) H Q E := ⟨I, M, v, d, rfl, w, h, ha, q⟩

theorem ok_is_fraction {f : Addr} {fd : FuncData} (F : Fun K "is_fraction" "is_fraction" s_is_fraction f fd) (B : Bn mg) (c_is_whole : Cal P wd K mg base "is_whole" 1 ["thing"] [] (sp_is_whole K)) (c_divisor : Cal P wd K mg base "divisor" 1 ["one", "other"] [] sp_divisor)  : FnOk P wd K mg base CX0 2 f fd ["thing"] sp_is_fraction := by
  refine F.ok sc_is_fraction (fun vs H Q E h => ?_) (fun cdv A outer s H vs Q E hr h => ?_)
  · obtain ⟨I, M, v, d, rfl, w, hv, ⟨⟨tn, ht⟩, h2⟩, k⟩ := h
    all_goals rfl
  · obtain ⟨I, M, v, d, rfl, w, hv, ⟨⟨tn, ht⟩, h2⟩, k⟩ := h
    refine ⟨_, (pss_cons (ps_if (pw_or (pt_not (pt_val (pe_callB (k_isi (K := K) rfl) (by rfl) B.isinstance_ (by decide +kernel) (pa_cons (pv 0) (pa_cons (pe_bltn (v := .ty "tuple") (by rfl) B.tuple_ (by decide +kernel) rfl) pa_nil))))) (pw_or1 (pt_cmpR (k_ne (K := K) rfl hr.units) (pe_callB (k_len (K := K) rfl) (by rfl) B.len_ (by decide +kernel) (pa_cons (pv 0) pa_nil)) pe_int (nomark _)))).pt (pss_one (ps_ret pe_bl)) pss_nil)
      (pss_cons (ps_if (pw_or (pt_not (pt_val (pe_cal c_is_whole (hr.mono (by decide)) (by rfl) (pa_cons (pe_ix (k_ix (K := K) rfl) (pv 0) pe_int (fun _ _ => rfl)) pa_nil)))) (pw_or (pt_not (pt_val (pe_cal c_is_whole (hr.mono (by decide)) (by rfl) (pa_cons (pe_ix (k_ix (K := K) rfl) (pv 0) pe_int (fun _ _ => rfl)) pa_nil)))) (pw_or1 (pt_cmpR op_lt (pe_ix (k_ix (K := K) rfl) (pv 0) pe_int (fun _ _ => rfl)) pe_int (nomark _))))).pt (pss_one (ps_ret pe_bl)) pss_nil)
      (pss_one (ps_ret (pe_cmpR (k_eq (K := K) rfl hr.units) (pe_cal c_divisor (hr.mono (by decide)) (by rfl) (pa_cons (pe_callB uc_abs (by rfl) B.abs_ (by decide +kernel) (pa_cons (pe_ix (k_ix (K := K) rfl) (pv 0) pe_int (fun _ _ => rfl)) pa_nil)) (pa_cons (pe_ix (k_ix (K := K) rfl) (pv 0) pe_int (fun _ _ => rfl)) pa_nil))) pe_int (nomark _)))))), ?_⟩
    try dsimp only [cxOf, Cx.nox, Cx.wish, Cx.blk]
    cases d with
    | int n => wtm_at "go"; exact k
    | bl n => wtm_at "go"; exact k
    | non => wtm_at "go"; exact k
    | str n => wtm_at "go"; exact k
    | lst n => wtm_at "go"; exact k
    | ref n => cases ht
    | ty n => cases ht
    | obj n m => cases ht
    | fact _ => cases ht
    | dict => wtm_at "go"; exact k
    | tup ds =>
      wtm_at "go"
      match ds, hv, k, h2 with
      | [], hv, k, _ => refine s_iteIn (by simp) ?_; wtm_at "go"; exact k
      | [x], hv, k, _ => refine s_iteIn (by simp) ?_; wtm_at "go"; rw [isfr_1] at k; exact k
      | x :: y :: z :: r, hv, k, _ => refine s_iteIn (by simp only [List.length_cons]; omega) ?_; wtm_at "go"; rw [isfr_3] at k; exact k
      | [x, y], hv, k, h2 =>
        obtain ⟨⟨a, ha⟩, b, hb⟩ := h2 x y rfl
        by_cases hx : x.whole = true
        · obtain ⟨n, rfl⟩ : ∃ n, x = .int n := by cases x <;> first | exact ⟨_, rfl⟩ | cases hx
          by_cases hy : y.whole = true
          · obtain ⟨m, rfl⟩ : ∃ n, y = .int n := by cases y <;> first | exact ⟨_, rfl⟩ | cases hy
            refine s_iteIp rfl ?_
            wtm_at "go"
            refine use_isI w ?_
            wtm_at "go"
            refine use_isI w ?_
            wtm_at "go"
            wtm_at "fork"
            · rename_i hm
              wtm_at "go"
              have e : D.isfr (.tup [.int n, .int m]) = false := decide_eq_false fun h => by omega
              rw [e] at k
              exact k
            · rename_i hm
              wtm_at "go"
              refine ⟨_, _, rfl, (by split <;> omega), (by omega), ?_⟩
              wtm_at "go"
              have e : Int.gcd (if n < 0 then -n else n) m = Int.gcd n m := by
                have := gcd_abs n m
                rw [if_neg (show ¬ m < 0 by omega)] at this
                exact this
              rw [e]
              have e2 : D.isfr (.tup [.int n, .int m]) = decide (V.int (Int.gcd n m : Int) = V.int 1) := by
                show decide (1 ≤ m ∧ Int.gcd n m = 1) = _
                rw [Bool.eq_iff_iff]
                simp
                omega
              rw [e2] at k
              exact k
          · have hy' : y.whole = false := by simpa using hy
            refine s_iteIp rfl ?_
            wtm_at "go"
            refine use_isI w ?_
            wtm_at "go"
            refine use_isN w (by assumption) hb hy' ?_
            wtm_at "go"
            rw [isfr_no2 hy'] at k
            exact k
        · have hx' : x.whole = false := by simpa using hx
          refine s_iteIp rfl ?_
          wtm_at "go"
          refine use_isN w (by assumption) ha hx' ?_
          wtm_at "go"
          rw [isfr_no1 hx'] at k
          exact k
abbrev s_fraction : Stmt := top 10
theorem sc_fraction : FnScope ["top", "bottom", "by"] ["top", "bottom"] (defScope s_fraction) := ⟨rfl, rfl, rfl, by decide +kernel, rfl, by decide +kernel, by decide +kernel⟩
def sp_fraction : Sp := fun vs H Q _ => ∃ I M, ∃ t b : Int, vs = [.int t, .int b] ∧ W I H M ∧ b ≠ 0 ∧ Bd 8000 b ∧ ∀ r J H', Same I J → W J H' M → Is J r (frq (Rat.divInt t b)) → Q r H'
theorem use_fraction {I H : Hp} {M : List (Addr × HO)} {t b : Int} {Q : VK} {E : XK} (w : W I H M) (hb : b ≠ 0) (hB : Bd 8000 b) (q : ∀ r J H', Same I J → W J H' M → Is J r (frq (Rat.divInt t b)) → Q r H') : sp_fraction ([.int t, .int b] ++ []) H Q E := ⟨I, M, t, b, rfl, w, hb, hB, q⟩
theorem n_fraction {F : List (V × D)} {H : Hp} {M : List ME} {t b : Int} {Q : VK} {E : XK} (w : Wf F H M) (hb : b ≠ 0) (hB : Bd 8000 b) (q : ∀ r H', Wf ((r, frq (Rat.divInt t b)) :: F) H' M → Q r H') : sp_fraction ([.int t, .int b] ++ []) H Q E := by
  obtain ⟨I, Mc, w, is, _, up⟩ := w.old
  exact use_fraction w hb hB fun r J H' s w' h => q r H' (up J H' r _ s w' h)

theorem ok_fraction {f : Addr} {fd : FuncData} (F : FunD K "fraction" "fraction" (defArgs s_fraction) (defBody s_fraction) (defScope s_fraction) [.int 1] [] f fd) (B : Bn mg) (c_divisor : Cal P wd K mg base "divisor" 1 ["one", "other"] [] sp_divisor)  : FnOk P wd K mg base CX0 2 f fd ["top", "bottom"] sp_fraction := by
  refine F.ok0 sc_fraction (fun vs H Q E h => ?_) (fun cdv A outer s H vs Q E hr h => ?_)
  · obtain ⟨I, M, t, b, rfl, w, hb, hB, k⟩ := h
    all_goals rfl
  · obtain ⟨I, M, t, b, rfl, w, hb, hB, k⟩ := h
    refine ⟨_, (pss_cons (ps_if (pt_cmpR (k_eq (K := K) rfl hr.units) (pv 1) pe_int (nomark _)) pss_never pss_nil)
      (pss_cons (ps_if (pt_cmpR op_lt (pv 1) pe_int (nomark _)) (pss_one (ps_par (i := 0) (j := 1) rfl sc_fraction.nd rfl rfl (by decide) rfl rfl (pa_cons (pe_un un_neg (pv 0)) (pa_cons (pe_un un_neg (pv 1)) pa_nil)) rfl)) pss_nil)
      (pss_cons (ps_set (i := 2) sc_fraction.nd rfl (Or.inl rfl) (pe_cal c_divisor (hr.mono (by decide)) (by rfl) (pa_cons (pe_callB uc_abs (by rfl) B.abs_ (by decide +kernel) (pa_cons (pv 0) pa_nil)) (pa_cons (pv 1) pa_nil))))
      (pss_one (ps_ret (pe_tup (pa_cons (pe_op op_fdivW (pv 0) (pv 2)) (pa_cons (pe_op op_fdivW (pv 1) (pv 2)) pa_nil)))))))), ?_⟩
    try dsimp only [cxOf, Cx.nox, Cx.wish, Cx.blk]
    have hg := gcd_pos' (t := t) hb
    have hgb : Bd 8000 (Int.gcd t b : Int) := hB.le (gcd_le_right' hb)
    with_reducible refine s_seq ?_
    wtm_at "go"
    refine s_iteIn hb ?_
    with_reducible refine s_next ?_
    with_reducible refine s_mid (fun σ' H' => H' = H ∧ σ' = [some (.int (if b < 0 then -t else t)), some (.int (if b < 0 then -b else b)), none]) ?_ (fun N fin => ?_)
    · rintro σ' H' ⟨rfl, rfl⟩
      wtm_at "go"
      refine ⟨_, _, rfl, (by split <;> split <;> omega), (by split <;> omega), ?_⟩
      have e : Int.gcd (if (if b < 0 then -t else t) < 0 then -(if b < 0 then -t else t) else (if b < 0 then -t else t)) (if b < 0 then -b else b) = Int.gcd t b := by
        by_cases h1 : b < 0
        · rw [if_pos h1, if_pos h1]
          have := gcd_abs (-t) (-b)
          rw [if_neg (show ¬ -b < 0 by omega)] at this
          rw [this, Int.gcd_neg, Int.neg_gcd]
        · rw [if_neg h1, if_neg h1]
          have := gcd_abs t b
          rw [if_neg h1] at this
          exact this
      rw [e]
      wtm_at "go"
      refine s_I (hgb.cd hg) ?_
      wtm_at "go"
      refine s_I (hgb.cd hg) ?_
      rw [low_num hb, low_den hb]
      wtm_at "go"
      refine s_newT w (by ktf_call "isa") (by simp) fun p J H' s1 _ w1 h1 => ?_
      exact k _ J H' s1 w1 h1
    · wtm_at "go"
      wtm_at "fork"
      · rename_i hlt
        wtm_at "go"
        exact fin _ _ ⟨rfl, by rw [if_pos hlt, if_pos hlt]; rfl⟩
      · rename_i hlt
        wtm_at "go"
        exact fin _ _ ⟨rfl, by rw [if_neg hlt, if_neg hlt]; rfl⟩
abbrev s_plus : Stmt := top 11
theorem sc_plus : FnScope ["one", "other"] ["one", "other"] (defScope s_plus) := ⟨rfl, rfl, rfl, by decide +kernel, rfl, by decide +kernel, by decide +kernel⟩
def sp_plus : Sp := fun vs H Q _ => ∃ I M u v, ∃ p q : Rat, vs = [u, v] ∧ W I H M ∧ Is I u (frq p) ∧ Is I v (frq q) ∧ Sz 100000 p ∧ Sz 100000 q ∧ Bd 8000 (p.den * q.den : Int) ∧ ∀ r J H', Same I J → W J H' M → Is J r (frq (p + q)) → Q r H'
theorem use_plus {I H : Hp} {M : List (Addr × HO)} {u v : V} {p q : Rat} {Q : VK} {E : XK} {j k : Nat} (w : W I H M) (hu : Is I u (frq p)) (hv : Is I v (frq q)) (hp : Sz j p) (hq : Sz k q) (h1 : j ≤ 100000) (h2 : k ≤ 100000) (hB : Bd 8000 (p.den * q.den : Int)) (f : ∀ r J H', Same I J → W J H' M → Is J r (frq (p + q)) → Q r H') : sp_plus ([u, v] ++ []) H Q E :=
  ⟨I, M, u, v, p, q, rfl, w, hu, hv, hp.mono h1, hq.mono h2, hB, f⟩

theorem ok_plus {f : Addr} {fd : FuncData} (F : Fun K "plus" "plus" s_plus f fd) (B : Bn mg) (c_fraction : Cal P wd K mg base "fraction" 2 ["top", "bottom"] [] sp_fraction)  : FnOk P wd K mg base CX0 3 f fd ["one", "other"] sp_plus := by
  refine F.ok sc_plus (fun vs H Q E h => ?_) (fun cdv A outer s H vs Q E hr h => ?_)
  · obtain ⟨I, M, u, v, p, q, rfl, w, hu, hv, hp, hq, hB, k⟩ := h
    all_goals rfl
  · obtain ⟨I, M, u, v, p, q, rfl, w, hu, hv, hp, hq, hB, k⟩ := h
    refine ⟨_, (pss_one (ps_ret (pe_cal c_fraction (hr.mono (by decide)) (by rfl) (pa_cons (pe_op (k_add (K := K) rfl) (pe_op uo_mul (pe_ix (k_ix (K := K) rfl) (pv 0) pe_int (fun _ _ => rfl)) (pe_ix (k_ix (K := K) rfl) (pv 1) pe_int (fun _ _ => rfl))) (pe_op uo_mul (pe_ix (k_ix (K := K) rfl) (pv 1) pe_int (fun _ _ => rfl)) (pe_ix (k_ix (K := K) rfl) (pv 0) pe_int (fun _ _ => rfl)))) (pa_cons (pe_op uo_mul (pe_ix (k_ix (K := K) rfl) (pv 0) pe_int (fun _ _ => rfl)) (pe_ix (k_ix (K := K) rfl) (pv 1) pe_int (fun _ _ => rfl))) pa_nil))))), ?_⟩
    try dsimp only [cxOf, Cx.nox, Cx.wish, Cx.blk]
    wtm_at "go"
    refine s_mul (hp.n.cm hq.d) ?_
    wtm_at "go"
    refine s_mul (hq.n.cm hp.d) ?_
    wtm_at "go"
    refine s_mul (hp.d.cm hq.d) ?_
    wtm_at "go"
    refine use_fraction w (den_mul_ne p q) hB ?_
    rw [add_dv]
    exact k
abbrev s_is_below : Stmt := top 12
theorem sc_is_below : FnScope ["one", "other"] ["one", "other"] (defScope s_is_below) := ⟨rfl, rfl, rfl, by decide +kernel, rfl, by decide +kernel, by decide +kernel⟩
def sp_is_below : Sp := fun vs H Q _ => ∃ I M u v a b c d, vs = [u, v] ∧ W I H M ∧ Is I u (fr a b) ∧ Is I v (fr c d) ∧ Bd 100000 a ∧ Bd 100000 b ∧ Bd 100000 c ∧ Bd 100000 d ∧ Q (.bl (decide (a * d < c * b))) H

theorem ok_is_below {f : Addr} {fd : FuncData} (F : Fun K "is_below" "is_below" s_is_below f fd) (B : Bn mg)  : FnOk P wd K mg base CX0 1 f fd ["one", "other"] sp_is_below := by
  refine F.ok sc_is_below (fun vs H Q E h => ?_) (fun cdv A outer s H vs Q E hr h => ?_)
  · obtain ⟨I, M, u, v, a, b, c, d, rfl, w, hu, hv, ha, hb, hc, hd, k⟩ := h
    all_goals rfl
  · obtain ⟨I, M, u, v, a, b, c, d, rfl, w, hu, hv, ha, hb, hc, hd, k⟩ := h
    refine ⟨_, (pss_one (ps_ret (pe_cmpR op_lt (pe_op uo_mul (pe_ix (k_ix (K := K) rfl) (pv 0) pe_int (fun _ _ => rfl)) (pe_ix (k_ix (K := K) rfl) (pv 1) pe_int (fun _ _ => rfl))) (pe_op uo_mul (pe_ix (k_ix (K := K) rfl) (pv 1) pe_int (fun _ _ => rfl)) (pe_ix (k_ix (K := K) rfl) (pv 0) pe_int (fun _ _ => rfl))) (nomark _)))), ?_⟩
    try dsimp only [cxOf, Cx.nox, Cx.wish, Cx.blk]
    wtm_at "go"
    refine s_mul (ha.cm hd) ?_
    wtm_at "go"
    refine s_mul (hc.cm hb) ?_
    wtm_at "go"
    exact k
abbrev s_look_list : Stmt := top 15
theorem sc_look_list : FnScope ["things", "place", "least", "most"] ["things", "place", "least", "most"] (defScope s_look_list) := ⟨rfl, rfl, rfl, by decide +kernel, rfl, by decide +kernel, by decide +kernel⟩
def sp_look_list : Sp := fun vs H Q _ => ∃ F M v ds, ∃ at' l m : Int, vs = [v, .int at', .int l, .int m] ∧ Wf F H M ∧ Rk F M v (.lst ds) ∧ l ≤ ds.length ∧ (ds.length : Int) ≤ m ∧ Q .non H
theorem n_looklist {F : List (V × D)} {H : Hp} {M : List ME} {v : V} {ds : List D} {at' l m : Int} {Q : VK} {E : XK} (w : Wf F H M) (hv : Rk F M v (.lst ds)) (h1 : l ≤ ds.length) (h2 : (ds.length : Int) ≤ m) (q : Q .non H) : sp_look_list ([v, .int at', .int l, .int m] ++ []) H Q E := ⟨F, M, v, ds, at', l, m, rfl, w, hv, h1, h2, q⟩

theorem ok_look_list {f : Addr} {fd : FuncData} (F : Fun K "look_list" "look_list" s_look_list f fd) (B : Bn mg)  : FnOk P wd K mg base CX0 1 f fd ["things", "place", "least", "most"] sp_look_list := by
  refine F.ok sc_look_list (fun vs H Q E h => ?_) (fun cdv A outer s H vs Q E hr h => ?_)
  · obtain ⟨F, M, v, ds, at', l, m, rfl, w, hv, h1, h2, k⟩ := h
    all_goals rfl
  · obtain ⟨F, M, v, ds, at', l, m, rfl, w, hv, h1, h2, k⟩ := h
    refine ⟨_, (pss_cons (ps_if (pw_or (pt_not (pt_val (pe_callB (k_isi (K := K) rfl) (by rfl) B.isinstance_ (by decide +kernel) (pa_cons (pv 0) (pa_cons (pe_bltn (v := .ty "list") (by rfl) B.list_ (by decide +kernel) rfl) pa_nil))))) (pw_or1 (pt_cmpR op_lt (pe_callB (k_len (K := K) rfl) (by rfl) B.len_ (by decide +kernel) (pa_cons (pv 0) pa_nil)) (pv 2) (nomark _)))).pt pss_never pss_nil)
      (pss_one (ps_if (pt_cmpR op_gt (pe_callB (k_len (K := K) rfl) (by rfl) B.len_ (by decide +kernel) (pa_cons (pv 0) pa_nil)) (pv 3) (nomark _)) pss_never pss_nil))), ?_⟩
    try dsimp only [cxOf, Cx.nox, Cx.wish, Cx.blk]
    wtm_at "n"
    refine s_iteDn (by omega) ?_
    wtm_at "n"
    refine s_iteDn (by omega) ?_
    wtm_at "n"
    exact k
/-- a greatest: none, or from the base on -/
def Gr (b : Int) (g : D) : Prop := g = .non ∨ ∃ n : Int, g = .int n ∧ b ≤ n ∧ n ≤ 1000000000000
structure PartOk (b l : Int) (g : D) (w s : Int) : Prop where
  l0 : 0 ≤ l
  lb : l ≤ b
  bm : b ≤ 1000000000000
  gr : Gr b g
  w0 : 0 ≤ w
  w1 : w ≤ 1000
  s0 : 0 ≤ s
  s1 : s ≤ 1000
def gOver (g : D) (q : Rat) : Bool := match g with | .int n => decide ((n : Rat) < q) | _ => false
theorem W.doneO {I H : Hp} {M : List (Addr × HO)} {p C dx : Addr} {fs : List (Str × V)} {ds : List (Str × D)} (w : W I H ((p, .ins C dx fs) :: M)) (a : IsF I fs ds) : ∃ J, Same I J ∧ W J H M ∧ Is J (.ref p) (.obj C ds) := ⟨_, w.frzS0, w.frz0, .obj upd_same (a.mono w.frzS0)⟩
abbrev rowD (b l : Int) (g : D) (w s : Int) : D := .tup [.int b, .int l, g, .int w, .int s]
theorem lt_int {n : Int} {q : Rat} : ((n : Rat) < q) ↔ n * q.den < q.num := by
  have := @Rat.lt_iff (n : Rat) q
  simpa using this
theorem int_lt {n : Int} {q : Rat} : (q < (n : Rat)) ↔ q.num < n * q.den := by
  have := @Rat.lt_iff q (n : Rat)
  simpa using this
theorem eq_int {n : Int} {q : Rat} : (q = (n : Rat)) ↔ q.num = n * q.den := by
  constructor
  · intro h
    subst h
    simp
  · intro h
    have h1 : ¬ q < n := fun z => by have := int_lt.mp z; omega
    have h2 : ¬ (n : Rat) < q := fun z => by have := lt_int.mp z; omega
    grind
theorem sub_int (q : Rat) (n : Int) : q - n = Rat.divInt (q.num - n * q.den) q.den := by
  have := sub_dv q (n : Rat)
  simp at this
  exact this.symm
theorem sq_dv {t d w : Int} : Rat.divInt (t * t) (d * d * w) = Rat.divInt t d * Rat.divInt t d / (w : Rat) := by
  simp only [Rat.divInt_eq_div, Rat.intCast_mul, Rat.div_def, Rat.inv_mul_rev]
  grind
theorem sq_q {x : Rat} {w : Int} : Rat.divInt (x.num * x.num) (x.den * x.den * w) = x * x / (w : Rat) := by
  rw [sq_dv, Rat.num_divInt_den]
theorem sq_gap {q : Rat} {b w : Int} : Rat.divInt ((q.num - b * q.den) * (q.num - b * q.den)) (q.den * q.den * w) = (q - b) * (q - b) / (w : Rat) := by
  rw [sq_dv, ← sub_int]
/-- the strain at a size -/
def strD (b l : Int) (g : D) (w s : Int) (q : Rat) : D :=
  if q = (b : Rat) then fr 0 1
  else if (b : Rat) < q then (if w = 0 ∨ gOver g q = true then .non else frq ((q - b) * (q - b) / (w : Rat)))
  else if s = 0 ∨ q < (l : Rat) then .non else frq ((q - b) * (q - b) / (s : Rat))
theorem bd12 {n : Int} (h0 : 0 ≤ n) (h1 : n ≤ 1000000000000) : Bd 40 n := Bd.of 1000000000000 (by omega)
theorem bd3 {n : Int} (h0 : 0 ≤ n) (h1 : n ≤ 1000) : Bd 10 n := Bd.of 1000 (by omega)
theorem bd1 {k : Nat} (h : 0 < k := by decide) : Bd k 1 := Bd.of 1 (by decide) (by
  have : 2 ^ 1 ≤ 2 ^ k := Nat.pow_le_pow_right (by decide) h
  omega)
theorem gt_num {q : Rat} {b : Int} (hqb : ¬ q = (b : Rat)) : ((b : Rat) < q) ↔ ¬ (q - b).num < 0 := by
  have h := @int_lt 0 (q - b)
  rw [Int.zero_mul] at h
  rw [← h, show ((0 : Int) : Rat) = 0 from rfl]
  grind
theorem lt_dv {n x d : Int} (hd : 0 < d) : ((n : Rat) < Rat.divInt x d) ↔ n * d < x := by
  have h : (0 : Rat) < (d : Rat) := by exact Rat.intCast_lt_intCast.mpr hd
  rw [Rat.divInt_eq_div, Rat.lt_div_iff h, ← Rat.intCast_mul, Rat.intCast_lt_intCast]
theorem dv_lt {n x d : Int} (hd : 0 < d) : (Rat.divInt x d < (n : Rat)) ↔ x < n * d := by
  have h : (0 : Rat) < (d : Rat) := by exact Rat.intCast_lt_intCast.mpr hd
  rw [Rat.divInt_eq_div, Rat.div_lt_iff h, ← Rat.intCast_mul, Rat.intCast_lt_intCast]
theorem lin_dv (b s : Int) (p : Rat) : Rat.divInt (b * p.den + s * p.num) p.den = (b : Rat) + s * p := by
  have h : ((p.den : Int) : Rat) ≠ 0 := fun z => den_ne p (Rat.intCast_inj.mp z)
  have e : (p.num : Rat) = p * ((p.den : Int) : Rat) := by
    have q := Rat.num_divInt_den p
    rw [Rat.divInt_eq_div] at q
    have q2 := congrArg (· * ((p.den : Int) : Rat)) q
    simp only [Rat.div_mul_cancel h] at q2
    exact q2
  rw [Rat.divInt_eq_div, Rat.intCast_add, Rat.intCast_mul, Rat.intCast_mul, e]
  grind
def capG (g : D) (x : Rat) : Rat := match g with | .int n => if (n : Rat) < x then n else x | _ => x
/-- the size at a price -/
def sizQ (b l : Int) (g : D) (w s : Int) (p : Rat) : Rat :=
  if p < 0 then (if (b : Rat) + s * p < l then (l : Rat) else (b : Rat) + s * p) else capG g ((b : Rat) + w * p)
theorem lt_zero {p : Rat} : p < 0 ↔ p.num < 0 := by
  have h := @int_lt 0 p
  rw [Int.zero_mul] at h
  exact h
theorem Sz.lin {k : Nat} {b s : Int} {p : Rat} (hb : Bd 40 b) (hs : Bd 40 s) (hp : Sz k p) : Sz (k + 41) ((b : Rat) + s * p) := by
  rw [← lin_dv]
  exact Sz.divInt (den_ne p) (Bd.add (k := k + 40) ((hb.mul hp.d).mono (by omega)) ((hs.mul hp.n).mono (by omega))) hp.d (k + 41)

/-! ### runs: like blanks between things -/
theorem floor_uni {q : Rat} {n : Int} (h1 : (n : Rat) ≤ q) (h2 : q < (n : Rat) + 1) : q.floor = n := by
  have g1 := Rat.floor_le q
  have g2 := Rat.lt_floor_add_one q
  have e1 : ((q.floor : Int) : Rat) < ((n + 1 : Int) : Rat) := by rw [Rat.intCast_add]; grind
  have e2 : ((n : Int) : Rat) < ((q.floor + 1 : Int) : Rat) := by grind
  rw [Rat.intCast_lt_intCast] at e1 e2
  omega
theorem floor_dv {a b : Int} (hb : 0 < b) : (Rat.divInt a b).floor = a / b := by
  have h1 := Int.mul_ediv_add_emod a b
  have h2 := Int.emod_nonneg a (show b ≠ 0 by omega)
  have h3 := Int.emod_lt_of_pos a hb
  have h4 : a / b * b ≤ a := by rw [Int.mul_comm]; omega
  have h5 : a < (a / b + 1) * b := by rw [Int.add_mul, Int.mul_comm (a / b)]; omega
  refine floor_uni ?_ ?_
  · refine Rat.not_lt.mp fun z => ?_
    have := (dv_lt hb).mp z
    omega
  · rw [show ((a / b : Int) : Rat) + 1 = ((a / b + 1 : Int) : Rat) by rw [Rat.intCast_add]; rfl]
    exact (dv_lt hb).mpr h5
theorem floor_addI (n : Int) (q : Rat) : ((n : Rat) + q).floor = n + q.floor := by
  have g1 := Rat.floor_le q
  have g2 := Rat.lt_floor_add_one q
  refine floor_uni ?_ ?_
  · rw [Rat.intCast_add]; grind
  · rw [Rat.intCast_add]; grind
def leanI (b l s : Int) : Int := if s = 0 then b else l
def fatD (b : Int) (g : D) (w : Int) : D := if w = 0 then .int b else g
theorem fat_or {b l w s : Int} {g : D} (ok : PartOk b l g w s) : fatD b g w = .non ∨ ∃ f, fatD b g w = .int f ∧ 0 ≤ f ∧ f ≤ 1000000000000 := by
  have h1 := ok.l0; have h2 := ok.lb; have h3 := ok.bm
  unfold fatD
  by_cases hw : w = 0
  · rw [if_pos hw]; exact .inr ⟨b, rfl, by omega, h3⟩
  · rw [if_neg hw]
    rcases ok.gr with e | ⟨n, e, n1, n2⟩
    · exact .inl e
    · exact .inr ⟨n, e, by omega, n2⟩
theorem lean_bd {b l w s : Int} {g : D} (ok : PartOk b l g w s) : 0 ≤ leanI b l s ∧ leanI b l s ≤ 1000000000000 := by
  have h1 := ok.l0; have h2 := ok.lb; have h3 := ok.bm
  unfold leanI
  split <;> omega
/-- each of m blanks that share a space -/
def shQ (sp m : Int) (fat : D) : Rat := match fat with
  | .int f => if m * f < sp then (f : Rat) else Rat.divInt sp m
  | _ => Rat.divInt sp m
/-- the size of a blank -/
def blkQ (sp m : Int) (last : Bool) (b l : Int) (g : D) (w s : Int) : Rat :=
  if last = true ∧ m * b ≤ sp then (b : Rat) else if 0 < m ∧ m * leanI b l s ≤ sp then shQ sp m (fatD b g w) else (leanI b l s : Rat)
theorem shQ_sz {sp m : Int} {fat : D} (hm : 0 < m) (hm2 : m ≤ 200) (h0 : -1000000000000000 ≤ sp) (h1 : sp ≤ 1000000000000000) (hf : fat = .non ∨ ∃ f, fat = .int f ∧ 0 ≤ f ∧ f ≤ 1000000000000) : Sz2 60 8 (shQ sp m fat) := by
  have hs : Sz2 60 8 (Rat.divInt sp m) := ⟨Bd.le (Bd.of 1000000000000000 (by omega)) (num_le (by omega)), Bd.le (Bd.of 200 (by omega)) (den_le (by omega))⟩
  rcases hf with rfl | ⟨f, rfl, f0, f1⟩
  · exact hs
  · show Sz2 60 8 (if m * f < sp then (f : Rat) else Rat.divInt sp m)
    by_cases q : m * f < sp
    · rw [if_pos q]; exact ⟨by rw [Rat.num_intCast]; exact Bd.of 1000000000000 (by omega), by rw [Rat.den_intCast]; exact bd1⟩
    · rw [if_neg q]; exact hs
theorem int_sz2 {n : Int} (h0 : 0 ≤ n) (h1 : n ≤ 1000000000000) : Sz2 60 8 (n : Rat) := ⟨by rw [Rat.num_intCast]; exact Bd.of 1000000000000 (by omega), by rw [Rat.den_intCast]; exact bd1⟩
theorem blk_sz {sp m : Int} {last : Bool} {b l w s : Int} {g : D} (ok : PartOk b l g w s) (hm2 : m ≤ 200) (h0 : -1000000000000000 ≤ sp) (h1 : sp ≤ 1000000000000000) : Sz2 60 8 (blkQ sp m last b l g w s) := by
  have q1 := ok.l0; have q2 := ok.lb; have q3 := ok.bm
  have q4 := lean_bd ok
  unfold blkQ
  split
  · exact int_sz2 (by omega) q3
  · split
    · next h => exact shQ_sz h.1 hm2 h0 h1 (fat_or ok)
    · exact int_sz2 q4.1 q4.2
/-- things with q ahead of each -/
def alt (q : Rat) (xs : List Int) : List Rat := xs.flatMap fun x : Int => [q, (x : Rat)]
theorem alt_snoc (q : Rat) (xs : List Int) (x : Int) : alt q (xs ++ [x]) = alt q xs ++ [q, (x : Rat)] := by simp [alt, List.flatMap_append]
theorem alt_len (q : Rat) (xs : List Int) : (alt q xs).length = 2 * xs.length := by
  induction xs with
  | nil => rfl
  | cons x xs ih => show ([q, (x : Rat)] ++ alt q xs).length = _; rw [List.length_append, ih]; simp; omega
theorem alt_take (q : Rat) : ∀ (xs : List Int) (k : Nat), (alt q xs).take (2 * k) = alt q (xs.take k)
  | xs, 0 => by simp [alt]
  | [], k + 1 => by simp [alt]
  | x :: xs, k + 1 => by
    show (q :: (x : Rat) :: alt q xs).take (2 * (k + 1)) = q :: (x : Rat) :: alt q (xs.take k)
    rw [show 2 * (k + 1) = 2 * k + 1 + 1 by omega, List.take_succ_cons, List.take_succ_cons, alt_take q xs k]
theorem rs_alt (q : Rat) (xs : List Int) : rs (alt q xs) = (xs.sum : Rat) + (xs.length : Rat) * q := by
  induction xs with
  | nil => show (0 : Rat) = _; simp; grind
  | cons x xs ih =>
    show rs (q :: (x : Rat) :: alt q xs) = _
    rw [rs_cons, rs_cons, ih, List.sum_cons, List.length_cons, Rat.intCast_add]
    have : ((xs.length + 1 : Nat) : Rat) = (xs.length : Rat) + 1 := by simp
    rw [this]
    grind
def rowR (q : Rat) (xs : List Int) : List Rat := (alt q xs).tail
theorem rowR_snoc (q : Rat) (xs : List Int) (x : Int) : rowR q (xs ++ [x]) = if xs.length = 0 then [(x : Rat)] else rowR q xs ++ [q, (x : Rat)] := by
  unfold rowR
  rw [alt_snoc]
  cases xs with
  | nil => rfl
  | cons y ys => rfl
theorem rowR_len (q : Rat) (xs : List Int) : (rowR q xs).length = 2 * xs.length - 1 := by unfold rowR; rw [List.length_tail, alt_len]

theorem alt_cons {q : Rat} {xs : List Int} (h : 0 < xs.length) : alt q xs = q :: rowR q xs := by
  cases xs with
  | nil => cases h
  | cons x xs => rfl
/-- the k-th thing begins .. -/
theorem rs_even {q : Rat} {xs : List Int} {k : Nat} (h : k < xs.length) : rs ((rowR q xs).take (2 * k)) = ((xs.take k).sum : Rat) + (k : Rat) * q := by
  have e1 := alt_cons (q := q) (xs := xs) (by omega)
  have e2 : (alt q xs).take (2 * k + 1) = q :: (rowR q xs).take (2 * k) := by rw [e1, List.take_succ_cons]
  have e3 : (alt q xs).take (2 * k + 1) = alt q (xs.take k) ++ [q] := by
    have h1 := alt_take q xs k
    have h2 := alt_take q xs (k + 1)
    have h3 : xs[k]? = some xs[k] := List.getElem?_eq_getElem h
    rw [take_snoc h3, alt_snoc, show 2 * (k + 1) = 2 * k + 1 + 1 by omega] at h2
    have h4 : ((alt q xs).take (2 * k + 1 + 1)).take (2 * k + 1) = (alt q xs).take (2 * k + 1) := by rw [List.take_take]; congr 1; omega
    rw [← h4, h2, show alt q (xs.take k) ++ [q, (xs[k] : Rat)] = (alt q (xs.take k) ++ [q]) ++ [(xs[k] : Rat)] by simp]
    rw [List.take_left' (by rw [List.length_append, alt_len, List.length_take]; simp; omega)]
  have e4 : rs (q :: (rowR q xs).take (2 * k)) = ((xs.take k).sum : Rat) + ((xs.take k).length : Rat) * q + q := by rw [← e2, e3, rs_snoc, rs_alt]
  rw [rs_cons] at e4
  have e5 : (xs.take k).length = k := by rw [List.length_take]; omega
  rw [e5] at e4
  grind
theorem rs_odd {q : Rat} {xs : List Int} {k : Nat} (h : k < xs.length) : rs ((rowR q xs).take (2 * k + 1)) = ((xs.take (k + 1)).sum : Rat) + (k : Rat) * q := by
  have e1 := alt_cons (q := q) (xs := xs) (by omega)
  have e2 : (alt q xs).take (2 * (k + 1)) = q :: (rowR q xs).take (2 * k + 1) := by rw [e1, show 2 * (k + 1) = 2 * k + 1 + 1 by omega, List.take_succ_cons]
  have e4 : rs (q :: (rowR q xs).take (2 * k + 1)) = ((xs.take (k + 1)).sum : Rat) + ((xs.take (k + 1)).length : Rat) * q := by rw [← e2, alt_take, rs_alt]
  rw [rs_cons] at e4
  have e5 : (xs.take (k + 1)).length = k + 1 := by rw [List.length_take]; omega
  have e6 : ((k + 1 : Nat) : Rat) = (k : Rat) + 1 := by simp
  rw [e5, e6] at e4
  grind
theorem natR (k : Nat) : ((k : Nat) : Rat) = ((k : Int) : Rat) := rfl
/-- where things begin and end: told by a size that is worth t over d -/
def sprD (xs : List Int) (t d : Int) : List D := (List.range xs.length).map fun k => .tup [.int ((xs.take k).sum + (k : Int) * t / d), .int ((xs.take k).sum + (k : Int) * t / d + xs.getD k 0)]
theorem spr_at {q : Rat} {xs : List Int} {t d : Int} (hd : 0 < d) (hq : Rat.divInt t d = q) {k : Nat} (h : k < xs.length) :
    (rs ((rowR q xs).take (2 * k))).floor = (xs.take k).sum + (k : Int) * t / d ∧ (rs ((rowR q xs).take (2 * k + 1))).floor = (xs.take k).sum + (k : Int) * t / d + xs.getD k 0 := by
  have e : (k : Rat) * q = Rat.divInt ((k : Int) * t) d := by
    rw [← hq, natR, Rat.divInt_eq_div, Rat.divInt_eq_div, Rat.intCast_mul, Rat.div_def, Rat.div_def, Rat.mul_assoc]
  have h3 : xs[k]? = some xs[k] := List.getElem?_eq_getElem h
  have e2 : (xs.take (k + 1)).sum = (xs.take k).sum + xs.getD k 0 := by
    rw [take_snoc h3, List.sum_append, List.getD_eq_getElem?_getD, h3]; simp
  constructor
  · rw [rs_even h, e, floor_addI, floor_dv hd]
  · rw [rs_odd h, e, floor_addI, floor_dv hd, e2]; omega

/-! ### parts that share a room: prices -/
structure Row where
  b : Int
  l : Int
  g : Option Int
  w : Int
  s : Int
abbrev prtR (C : Addr) (r : Row) : D := prt C r.b r.l (oD r.g) r.w r.s
abbrev rowR' (r : Row) : D := rowD r.b r.l (oD r.g) r.w r.s
def ROk (r : Row) : Prop := PartOk r.b r.l (oD r.g) r.w r.s
def sizR (r : Row) (p : Rat) : Rat := sizQ r.b r.l (oD r.g) r.w r.s p
theorem row_of {b l w s : Int} {g : D} (ok : PartOk b l g w s) : ∃ r : Row, ROk r ∧ rowD b l g w s = rowR' r ∧ r.b = b ∧ r.l = l ∧ r.w = w ∧ r.s = s ∧ oD r.g = g := by
  rcases ok.gr with rfl | ⟨n, rfl, _, _⟩
  · exact ⟨⟨b, l, none, w, s⟩, ok, rfl, rfl, rfl, rfl, rfl, rfl⟩
  · exact ⟨⟨b, l, some n, w, s⟩, ok, rfl, rfl, rfl, rfl, rfl, rfl⟩
/-- a way: a weight and an end -/
abbrev Way := Int × Option Int
abbrev wyD (x : Way) : D := .tup [.int x.1, oD x.2]
structure WyOk (x : Way) : Prop where
  w0 : 0 ≤ x.1
  w1 : x.1 ≤ 1000
  e0 : ∀ e, x.2 = some e → 0 ≤ e ∧ e ≤ 1000000000000
/-- what a way gives at a price -/
def gvQ (p : Rat) (x : Way) : Rat := if 0 < x.1 then (match x.2 with | none => (x.1 : Rat) * p | some e => if (e : Rat) < (x.1 : Rat) * p then (e : Rat) else (x.1 : Rat) * p) else 0
def edQ (x : Way) : Rat := if 0 < x.1 then ((x.2.getD 0 : Int) : Rat) else 0
/-- what price_for tells -/
def PriceR (ws : List Way) (A : Rat) : Option Rat → Prop
  | some p => 0 < p ∧ rs (ws.map (gvQ p)) = A ∧ ∃ x ∈ ws, 0 < x.1 ∧ ∀ e, x.2 = some e → (x.1 : Rat) * p ≤ e
  | none => (∀ x ∈ ws, 0 < x.1 → x.2 ≠ none) ∧ rs (ws.map edQ) < A
def stayB (p : Rat) (x : Way) : Bool := match x.2 with | none => true | some e => decide (x.1 * p.num ≤ e * p.den)
theorem stay_iff {p : Rat} {w e : Int} : w * p.num ≤ e * p.den ↔ (w : Rat) * p ≤ e := by
  have h := @int_lt e ((w : Rat) * p)
  have h2 : ¬ ((e : Rat) < (w : Rat) * p) ↔ (w : Rat) * p ≤ e := by grind
  rw [← h2]
  have hd0 : (0 : Int) < (p.den : Int) := Int.natCast_pos.mpr p.den_pos
  have hd : (0 : Rat) < ((p.den : Int) : Rat) := by exact Rat.intCast_lt_intCast.mpr hd0
  have e1 : (p.num : Rat) = p * ((p.den : Int) : Rat) := by
    have q := Rat.num_divInt_den p
    rw [Rat.divInt_eq_div] at q
    have q2 := congrArg (· * ((p.den : Int) : Rat)) q
    have hne : ((p.den : Int) : Rat) ≠ 0 := by grind
    simp only [Rat.div_mul_cancel hne] at q2
    exact q2
  constructor
  · intro h1 h3
    have h4 : ((w * p.num : Int) : Rat) ≤ ((e * p.den : Int) : Rat) := Rat.intCast_le_intCast.mpr h1
    rw [Rat.intCast_mul, Rat.intCast_mul, e1] at h4
    have h5 := Rat.mul_lt_mul_of_pos_right h3 hd
    grind
  · intro h1
    apply Rat.intCast_le_intCast.mp
    rw [Rat.intCast_mul, Rat.intCast_mul, e1]
    have h5 : (w : Rat) * p ≤ e := by grind
    have h6 := Rat.mul_le_mul_of_nonneg_right h5 (Rat.le_of_lt hd)
    grind
def wyS (xs : List Way) : Int := (xs.map (·.1)).sum
def edS (xs : List Way) : Int := (xs.map fun x => x.2.getD 0).sum
theorem wyS_cons (x : Way) (xs : List Way) : wyS (x :: xs) = x.1 + wyS xs := rfl
theorem edS_cons (x : Way) (xs : List Way) : edS (x :: xs) = x.2.getD 0 + edS xs := rfl
theorem wyS_app (xs ys : List Way) : wyS (xs ++ ys) = wyS xs + wyS ys := by
  induction xs with
  | nil => simp [wyS]
  | cons x xs ih => rw [List.cons_append, wyS_cons, wyS_cons, ih]; omega
theorem edS_app (xs ys : List Way) : edS (xs ++ ys) = edS xs + edS ys := by
  induction xs with
  | nil => simp [edS]
  | cons x xs ih => rw [List.cons_append, edS_cons, edS_cons, ih]; omega
theorem wyS_pos {xs : List Way} (h : ∀ x ∈ xs, 0 < x.1) (hn : xs ≠ []) : 0 < wyS xs := by
  induction xs with
  | nil => exact absurd rfl hn
  | cons x xs ih =>
    have h1 := h x List.mem_cons_self
    rw [wyS_cons]
    by_cases e : xs = []
    · subst e; simp [wyS]; exact h1
    · have := ih (fun y hy => h y (List.mem_cons_of_mem _ hy)) e
      omega
theorem wyS_le {xs : List Way} (h : ∀ x ∈ xs, x.1 ≤ 1000) : wyS xs ≤ 1000 * xs.length := by
  induction xs with
  | nil => simp [wyS]
  | cons x xs ih =>
    have h1 := h x List.mem_cons_self
    have := ih fun y hy => h y (List.mem_cons_of_mem _ hy)
    rw [wyS_cons, List.length_cons]
    omega
theorem wyS_nn {xs : List Way} (h : ∀ x ∈ xs, 0 < x.1) : 0 ≤ wyS xs := by
  by_cases e : xs = []
  · subst e; simp [wyS]
  · exact Int.le_of_lt (wyS_pos h e)
theorem edS_nn {xs : List Way} (h : ∀ x ∈ xs, WyOk x) : 0 ≤ edS xs := by
  induction xs with
  | nil => simp [edS]
  | cons x xs ih =>
    have h1 := (h x List.mem_cons_self).e0
    have := ih fun y hy => h y (List.mem_cons_of_mem _ hy)
    rw [edS_cons]
    cases e : x.2 with
    | none => simp; omega
    | some z => have := h1 z e; simp; omega
theorem filter_perm {α : Type} (P : α → Bool) : ∀ (l : List α), List.Perm (l.filter P ++ l.filter (fun x => !P x)) l
  | [] => .nil
  | x :: l => by
    cases h : P x with
    | true =>
      rw [List.filter_cons_of_pos h, List.filter_cons_of_neg (by simp [h])]
      exact (filter_perm P l).cons x
    | false =>
      rw [List.filter_cons_of_neg (by simp [h]), List.filter_cons_of_pos (by simp [h])]
      exact (List.perm_middle).trans ((filter_perm P l).cons x)
theorem wyS_perm {xs ys : List Way} (h : List.Perm xs ys) : wyS xs = wyS ys := by
  induction h with
  | nil => rfl
  | cons x _ ih => rw [wyS_cons, wyS_cons, ih]
  | swap x y l => rw [wyS_cons, wyS_cons, wyS_cons, wyS_cons]; omega
  | trans _ _ h1 h2 => exact h1.trans h2
theorem rs_perm {α : Type} {f : α → Rat} {xs ys : List α} (h : List.Perm xs ys) : rs (xs.map f) = rs (ys.map f) := by
  induction h with
  | nil => rfl
  | cons x _ ih => rw [List.map_cons, List.map_cons, rs_cons, rs_cons, ih]
  | swap x y l => rw [List.map_cons, List.map_cons, List.map_cons, List.map_cons, rs_cons, rs_cons, rs_cons, rs_cons]; grind
  | trans _ _ h1 h2 => exact h1.trans h2
/-- the free ways, and those at their ends -/
structure PfI (ws : List Way) (A : Rat) (fs : List Way) (L : Rat) : Prop where
  ex : ∃ gone : List Way, List.Perm (fs ++ gone) (ws.filter fun x => decide (0 < x.1)) ∧ (∀ g ∈ gone, ∃ e, g.2 = some e ∧ (e : Rat) * wyS fs < (g.1 : Rat) * L) ∧ L = A - edS gone
  pos : 0 < L
theorem PfI.start {ws : List Way} {A : Rat} (h : 0 < A) : PfI ws A (ws.filter fun x => decide (0 < x.1)) A :=
  ⟨⟨[], by rw [List.append_nil], fun _ h => (nomatch h), by show A = A - ((0 : Int) : Rat); grind⟩, h⟩
theorem PfI.mem {ws fs : List Way} {A L : Rat} (h : PfI ws A fs L) {x : Way} (hx : x ∈ fs) : x ∈ ws ∧ 0 < x.1 := by
  obtain ⟨gone, hp, _⟩ := h.ex
  have := hp.mem_iff.mp (List.mem_append_left gone hx)
  simpa using List.mem_filter.mp this
/-- ends below what the ways would give -/
theorem gone_sum {p : Rat} {gs : List Way} (h : ∀ g ∈ gs, ∃ e, g.2 = some e ∧ (e : Rat) < (g.1 : Rat) * p) : (edS gs : Rat) ≤ p * wyS gs ∧ (gs ≠ [] → (edS gs : Rat) < p * wyS gs) := by
  induction gs with
  | nil => simp [edS, wyS]
  | cons g gs ih =>
    obtain ⟨e, he, h1⟩ := h g List.mem_cons_self
    have ⟨i1, _⟩ := ih fun y hy => h y (List.mem_cons_of_mem _ hy)
    rw [edS_cons, wyS_cons, he, Option.getD_some, Rat.intCast_add, Rat.intCast_add]
    constructor
    · grind
    · intro _; grind
theorem rat_pos_mul {a b : Rat} (ha : 0 < a) (hb : 0 < b) : 0 < a * b := Rat.mul_pos ha hb
theorem pf_lin1 {x y s L : Rat} (h : x + y = L) (h1 : s ≤ y) : x ≤ L - s := by grind
theorem pf_lin2 {x y s L : Rat} (h : x + y = L) (h1 : s < y) : x < L - s := by grind
theorem pf_lin3 {x y z : Rat} (h : x ≤ y) (h1 : y < z) : x < z := by grind
theorem pf_lin4 {x y : Rat} (h : 0 ≤ x) (h1 : x < y) : 0 < y := by grind
theorem pf_lin5 {A x y : Rat} : A - x - y = A - (y + x) := by grind
theorem pf_lin6 {A L g : Rat} (h : L = A - g) : L + g = A := by grind
theorem pf_lin7 {A L g : Rat} (h : L = A - g) (h1 : 0 < L) : g < A := by grind
/-- a turn of the while -/
theorem PfI.turn {ws fs : List Way} {A L p : Rat} (h : PfI ws A fs L) (hn : fs ≠ []) (hp : p = L / (wyS fs : Rat)) :
    0 < p ∧ L - edS (fs.filter fun x => !stayB p x) ≥ 0 ∧ ((fs.filter fun x => !stayB p x) ≠ [] → PfI ws A (fs.filter (stayB p)) (L - edS (fs.filter fun x => !stayB p x))) := by
  have hpos : ∀ x ∈ fs, 0 < x.1 := fun x hx => (h.mem hx).2
  have hW : (0 : Rat) < (wyS fs : Rat) := Rat.intCast_lt_intCast.mpr (wyS_pos hpos hn)
  have hWn : (wyS fs : Rat) ≠ 0 := by grind
  have hL := h.pos
  have epW : p * (wyS fs : Rat) = L := by rw [hp, Rat.div_mul_cancel hWn]
  have p0 : 0 < p := by
    rw [hp, Rat.div_def]
    exact Rat.mul_pos hL (Rat.inv_pos.mpr hW)
  have hg : ∀ g ∈ (fs.filter fun x => !stayB p x), ∃ e, g.2 = some e ∧ (e : Rat) < (g.1 : Rat) * p := by
    intro g hg
    obtain ⟨_, h2⟩ := List.mem_filter.mp hg
    unfold stayB at h2
    cases e : g.2 with
    | none => rw [e] at h2; simp at h2
    | some z =>
      rw [e] at h2
      refine ⟨z, rfl, ?_⟩
      have h3 : ¬ (g.1 * p.num ≤ z * p.den) := by simpa using h2
      rw [stay_iff] at h3
      grind
  have ⟨g1, g2⟩ := gone_sum hg
  have hper := filter_perm (stayB p) fs
  have ew : wyS (fs.filter (stayB p)) + wyS (fs.filter fun x => !stayB p x) = wyS fs := by
    rw [← wyS_app]
    exact wyS_perm hper
  have ewr : (wyS (fs.filter (stayB p)) : Rat) + (wyS (fs.filter fun x => !stayB p x) : Rat) = (wyS fs : Rat) := by rw [← Rat.intCast_add, ew]
  have hW' : (0 : Rat) ≤ (wyS (fs.filter (stayB p)) : Rat) := Rat.intCast_le_intCast.mpr (wyS_nn fun x hx => hpos x (List.mem_filter.mp hx).1)
  have hpW' : 0 ≤ p * (wyS (fs.filter (stayB p)) : Rat) := Rat.mul_nonneg (Rat.le_of_lt p0) hW'
  have em : p * (wyS (fs.filter (stayB p)) : Rat) + p * (wyS (fs.filter fun x => !stayB p x) : Rat) = L := by rw [← Rat.mul_add, ewr, epW]
  have key : p * (wyS (fs.filter (stayB p)) : Rat) ≤ L - (edS (fs.filter fun x => !stayB p x) : Rat) := pf_lin1 em g1
  refine ⟨p0, Rat.le_trans hpW' key, fun hne => ?_⟩
  have g3 := g2 hne
  have key2 : p * (wyS (fs.filter (stayB p)) : Rat) < L - (edS (fs.filter fun x => !stayB p x) : Rat) := pf_lin2 em g3
  obtain ⟨gone, hp1, hp2, hp3⟩ := h.ex
  refine ⟨⟨(fs.filter fun x => !stayB p x) ++ gone, ?_, fun g hgm => ?_, ?_⟩, pf_lin4 hpW' key2⟩
  · rw [← List.append_assoc]
    exact (hper.append_right gone).trans hp1
  · have fin : ∀ e : Int, (e : Rat) < (g.1 : Rat) * p → 0 < g.1 → (e : Rat) * (wyS (fs.filter (stayB p)) : Rat) < (g.1 : Rat) * (L - (edS (fs.filter fun x => !stayB p x) : Rat)) := by
      intro e he hg0
      have hg0' : (0 : Rat) < (g.1 : Rat) := Rat.intCast_lt_intCast.mpr hg0
      have s1 : (e : Rat) * (wyS (fs.filter (stayB p)) : Rat) ≤ ((g.1 : Rat) * p) * (wyS (fs.filter (stayB p)) : Rat) := Rat.mul_le_mul_of_nonneg_right (Rat.le_of_lt he) hW'
      have s2 : (g.1 : Rat) * (p * (wyS (fs.filter (stayB p)) : Rat)) < (g.1 : Rat) * (L - (edS (fs.filter fun x => !stayB p x) : Rat)) := Rat.mul_lt_mul_of_pos_left key2 hg0'
      rw [Rat.mul_assoc] at s1
      exact pf_lin3 s1 s2
    rcases List.mem_append.mp hgm with hg' | hg'
    · obtain ⟨e, he, h1⟩ := hg g hg'
      exact ⟨e, he, fin e h1 (hpos g (List.mem_filter.mp hg').1)⟩
    · obtain ⟨e, he, h1⟩ := hp2 g hg'
      refine ⟨e, he, fin e ?_ ?_⟩
      · have h2 : (e : Rat) * (wyS fs : Rat) < ((g.1 : Rat) * p) * (wyS fs : Rat) := by rw [Rat.mul_assoc, epW]; exact h1
        exact (Rat.mul_lt_mul_right hW).mp h2
      · have := hp1.mem_iff.mp (List.mem_append_right fs hg')
        simpa using (List.mem_filter.mp this).2
  · rw [edS_app, hp3, Rat.intCast_add]
    exact pf_lin5
theorem gv_free {p : Rat} {fs : List Way} (h : ∀ x ∈ fs, 0 < x.1 ∧ stayB p x = true) : rs (fs.map (gvQ p)) = p * (wyS fs : Rat) := by
  induction fs with
  | nil => simp [rs_nil, wyS]
  | cons x fs ih =>
    obtain ⟨h1, h2⟩ := h x List.mem_cons_self
    rw [List.map_cons, rs_cons, ih fun y hy => h y (List.mem_cons_of_mem _ hy), wyS_cons, Rat.intCast_add, gvQ, if_pos h1]
    cases e : x.2 with
    | none => grind
    | some z =>
      unfold stayB at h2
      rw [e] at h2
      have h3 : x.1 * p.num ≤ z * p.den := by simpa using h2
      rw [stay_iff] at h3
      dsimp only
      rw [if_neg (by grind)]
      grind
theorem gv_gone {p : Rat} {gs : List Way} (h : ∀ x ∈ gs, 0 < x.1 ∧ ∃ e, x.2 = some e ∧ (e : Rat) < (x.1 : Rat) * p) : rs (gs.map (gvQ p)) = (edS gs : Rat) := by
  induction gs with
  | nil => simp [rs_nil, edS]
  | cons x gs ih =>
    obtain ⟨h1, e, he, h2⟩ := h x List.mem_cons_self
    rw [List.map_cons, rs_cons, ih fun y hy => h y (List.mem_cons_of_mem _ hy), edS_cons, Rat.intCast_add, gvQ, if_pos h1, he]
    dsimp only
    rw [if_pos h2, Option.getD_some]
theorem ed_gone {gs : List Way} (h : ∀ x ∈ gs, 0 < x.1) : rs (gs.map edQ) = (edS gs : Rat) := by
  induction gs with
  | nil => simp [rs_nil, edS]
  | cons x gs ih =>
    have h1 := h x List.mem_cons_self
    rw [List.map_cons, rs_cons, ih fun y hy => h y (List.mem_cons_of_mem _ hy), edS_cons, Rat.intCast_add, edQ, if_pos h1]
theorem rs_filter {f : Way → Rat} (hf : ∀ x : Way, ¬ 0 < x.1 → f x = 0) (ws : List Way) : rs ((ws.filter fun x => decide (0 < x.1)).map f) = rs (ws.map f) := by
  induction ws with
  | nil => rfl
  | cons x ws ih =>
    by_cases h : 0 < x.1
    · rw [List.filter_cons_of_pos (by simpa using h), List.map_cons, List.map_cons, rs_cons, rs_cons, ih]
    · rw [List.filter_cons_of_neg (by simpa using h), List.map_cons, rs_cons, ih, hf x h]
      grind
/-- all stay: this is the price -/
theorem PfI.done {ws fs : List Way} {A L p : Rat} (h : PfI ws A fs L) (hn : fs ≠ []) (hp : p = L / (wyS fs : Rat)) (hs : (fs.filter (stayB p)).length = fs.length) : PriceR ws A (some p) := by
  have hpos : ∀ x ∈ fs, 0 < x.1 := fun x hx => (h.mem hx).2
  have hW : (0 : Rat) < (wyS fs : Rat) := Rat.intCast_lt_intCast.mpr (wyS_pos hpos hn)
  have hWn : (wyS fs : Rat) ≠ 0 := by grind
  have epW : p * (wyS fs : Rat) = L := by rw [hp, Rat.div_mul_cancel hWn]
  have hall : ∀ x ∈ fs, stayB p x = true := by
    have := List.length_filter_eq_length_iff.mp hs
    exact this
  obtain ⟨gone, hp1, hp2, hp3⟩ := h.ex
  have p0 := (h.turn hn hp).1
  have hgone : ∀ x ∈ gone, 0 < x.1 ∧ ∃ e, x.2 = some e ∧ (e : Rat) < (x.1 : Rat) * p := fun g hg => by
    obtain ⟨e, he, h1⟩ := hp2 g hg
    refine ⟨?_, e, he, ?_⟩
    · have := hp1.mem_iff.mp (List.mem_append_right fs hg)
      simpa using (List.mem_filter.mp this).2
    · have h2 : (e : Rat) * (wyS fs : Rat) < ((g.1 : Rat) * p) * (wyS fs : Rat) := by rw [Rat.mul_assoc, epW]; exact h1
      exact (Rat.mul_lt_mul_right hW).mp h2
  refine ⟨p0, ?_, ?_⟩
  · rw [← rs_filter (f := gvQ p) (fun x hx => by rw [gvQ, if_neg hx]) ws, ← rs_perm hp1, List.map_append, rs_app, gv_free fun x hx => ⟨hpos x hx, hall x hx⟩, gv_gone hgone, epW]
    exact pf_lin6 hp3
  · cases fs with
    | nil => exact absurd rfl hn
    | cons x fs =>
      have hx := h.mem (x := x) List.mem_cons_self
      refine ⟨x, hx.1, hx.2, fun e he => ?_⟩
      have h2 := hall x List.mem_cons_self
      unfold stayB at h2
      rw [he] at h2
      exact stay_iff.mp (by simpa using h2)
/-- none is left -/
theorem PfI.none {ws : List Way} {A L : Rat} (h : PfI ws A [] L) : PriceR ws A none := by
  obtain ⟨gone, hp1, hp2, hp3⟩ := h.ex
  rw [List.nil_append] at hp1
  have hL := h.pos
  refine ⟨fun x hx h0 => ?_, ?_⟩
  · have : x ∈ gone := hp1.mem_iff.mpr (List.mem_filter.mpr ⟨hx, by simpa using h0⟩)
    obtain ⟨e, he, _⟩ := hp2 x this
    rw [he]
    simp
  · rw [← rs_filter (f := edQ) (fun x hx => by rw [edQ, if_neg hx]) ws, ← rs_perm hp1, ed_gone fun x hx => by simpa using (List.mem_filter.mp (hp1.mem_iff.mp hx)).2]
    exact pf_lin7 hp3 hL
/-- an amount less a whole number, not below nought: no longer than it was -/
theorem sub_int_sz {k : Nat} {A : Rat} {n : Int} (hA : Sz k A) (h0 : 0 ≤ n) (h1 : 0 ≤ A - (n : Rat)) : Sz k (A - (n : Rat)) := by
  have e := sub_int A n
  have hd : A.den ≠ 0 := A.den_nz
  have hc : Int.gcd (A.num - n * A.den) A.den = 1 := by
    have h := A.reduced
    have h2 : Int.gcd (A.num - n * A.den) (A.den : Int) = Int.gcd A.num (A.den : Int) := by
      simpa [Int.mul_comm] using Int.gcd_sub_mul_right_left (A.den : Int) A.num n
    rw [h2]
    exact h
  have e2 : A - (n : Rat) = ⟨A.num - n * A.den, A.den, hd, hc⟩ := by
    rw [e, ← Rat.mk_eq_divInt (nz := hd) (c := hc)]
  rw [e2] at h1 ⊢
  refine ⟨?_, hA.d⟩
  show Bd k (A.num - n * A.den)
  have h3 : 0 ≤ A.num - n * A.den := Rat.num_nonneg.mpr h1
  have h4 : 0 ≤ n * (A.den : Int) := Int.mul_nonneg h0 (by omega)
  exact hA.n.le (by omega)
theorem frac_div {L : Rat} {W : Int} (hW : W ≠ 0) : Rat.divInt L.num (L.den * W) = L / (W : Rat) := by
  rw [Rat.divInt_eq_div, Rat.intCast_mul, Rat.div_def, Rat.inv_mul_rev]
  have e := Rat.num_divInt_den L
  rw [Rat.divInt_eq_div, Rat.div_def] at e
  rw [Rat.div_def]
  conv => rhs; rw [← e]
  grind
theorem edS_take_le {fs : List Way} {P : Way → Bool} (ok : ∀ x ∈ fs, WyOk x) (i : Nat) : 0 ≤ edS ((fs.take i).filter P) ∧ edS ((fs.take i).filter P) ≤ edS (fs.filter P) := by
  have h : fs.filter P = (fs.take i).filter P ++ (fs.drop i).filter P := by rw [← List.filter_append, List.take_append_drop]
  have h1 : 0 ≤ edS ((fs.drop i).filter P) := edS_nn fun x hx => ok x (List.mem_of_mem_drop (List.mem_filter.mp hx).1)
  have h2 : 0 ≤ edS ((fs.take i).filter P) := edS_nn fun x hx => ok x (List.mem_of_mem_take (List.mem_filter.mp hx).1)
  rw [h, edS_app]
  omega

structure EdgOk (qs : List Rat) : Prop where
  ln : qs.length ≤ 10000
  ok : ∀ (i : Nat) q, qs[i]? = some q → Sz 100000 (rs (qs.take i)) ∧ Sz 100000 q ∧ Bd 8000 ((rs (qs.take i)).den * q.den : Int) ∧ Bd 8000 ((rs (qs.take (i + 1))).den : Int)
def edg (qs : List Rat) : List Int := (List.range (qs.length + 1)).map fun i => (rs (qs.take i)).floor
theorem edg_len (qs : List Rat) : (edg qs).length = qs.length + 1 := by simp [edg]
theorem edg_at {qs : List Rat} {i : Nat} (h : i ≤ qs.length) : (edg qs)[i]? = some (rs (qs.take i)).floor := by
  unfold edg
  rw [List.getElem?_map, List.getElem?_range (by omega)]
  rfl
theorem EdgOk.of {j k : Nat} {qs : List Rat} (h : ∀ q ∈ qs, Sz2 j k q) (h1 : (k + 1) * (qs.length + 2) ≤ 7000) (h2 : j ≤ 5000) (hl : qs.length ≤ 6000) : EdgOk qs where
  ln := by omega
  ok := fun i q hq => by
    have hi : i < qs.length := (List.getElem?_eq_some_iff.mp hq).1
    have s1 := Sz2.rs h i (by omega)
    have s2 := Sz2.rs h (i + 1) (by omega)
    have s3 := h q (List.mem_of_getElem? hq)
    have e1 : (k + 1) * i + (k + 1) * 2 ≤ (k + 1) * (qs.length + 2) := by rw [← Nat.mul_add]; exact Nat.mul_le_mul_left _ (by omega)
    have e2 : k * i ≤ (k + 1) * i := Nat.mul_le_mul_right _ (by omega)
    have e3 : k * (i + 1) = k * i + k := by rw [Nat.mul_add]; omega
    exact ⟨s1.sz (by omega) (by omega), s3.sz (by omega) (by omega), (s1.d.mul s3.d).mono (by omega), s2.d.mono (by omega)⟩

theorem sum_take_le : ∀ (l : List Nat) (i : Nat), (l.take i).sum ≤ l.sum
  | [], i => by simp
  | x :: r, 0 => by simp
  | x :: r, i + 1 => by
    have := sum_take_le r i
    simp only [List.take_succ_cons, List.sum_cons]
    omega
theorem Sz2.rsK {J : Nat} {l : List (Rat × Nat)} (h : ∀ p ∈ l, Sz2 J p.2 p.1) : ∀ i, i ≤ l.length → Sz2 (J + ((l.map (·.2)).take i).sum + i + 1) (((l.map (·.2)).take i).sum + 1) (Fs.rs ((l.map (·.1)).take i))
  | 0, _ => ⟨Bd.of 0 (by simp [rs_nil]) (Nat.pow_pos (by decide)), Bd.of 1 (by simp [rs_nil]) (by simp)⟩
  | i + 1, hi => by
    have hi' : i < l.length := hi
    have e : (l.map (·.1))[i]? = some l[i].1 := by rw [List.getElem?_map, List.getElem?_eq_getElem hi']; rfl
    have e2 : (l.map (·.2))[i]? = some l[i].2 := by rw [List.getElem?_map, List.getElem?_eq_getElem hi']; rfl
    rw [rs_take e, List.take_add_one, e2, Option.toList_some, List.sum_append, List.sum_singleton]
    have ih := Sz2.rsK h i (by omega)
    have hq := h _ (List.getElem_mem hi')
    exact (ih.add hq (J + (((l.map (·.2)).take i).sum + l[i].2) + (i + 1) + 1) (by omega) (by omega)).mono (Nat.le_refl _) (by omega)
theorem EdgOk.ofK {J : Nat} {l : List (Rat × Nat)} (h : ∀ p ∈ l, Sz2 J p.2 p.1) (h1 : (l.map (·.2)).sum ≤ 7000) (h2 : J ≤ 5000) (hl : l.length ≤ 6000) : EdgOk (l.map (·.1)) where
  ln := by rw [List.length_map]; omega
  ok := fun i q hq => by
    have hi : i < l.length := by
      have := (List.getElem?_eq_some_iff.mp hq).1
      rw [List.length_map] at this
      exact this
    have e : (l.map (·.1))[i]? = some l[i].1 := by rw [List.getElem?_map, List.getElem?_eq_getElem hi]; rfl
    rw [e] at hq
    cases hq
    have s1 := Sz2.rsK h i (by omega)
    have s2 := Sz2.rsK h (i + 1) (by omega)
    have s3 := h _ (List.getElem_mem hi)
    have e2 : (l.map (·.2))[i]? = some l[i].2 := by rw [List.getElem?_map, List.getElem?_eq_getElem hi]; rfl
    have l1 := sum_take_le (l.map (·.2)) i
    have l2 := sum_take_le (l.map (·.2)) (i + 1)
    have e3 : ((l.map (·.2)).take (i + 1)).sum = ((l.map (·.2)).take i).sum + l[i].2 := by rw [List.take_add_one, e2, Option.toList_some, List.sum_append, List.sum_singleton]
    exact ⟨s1.sz (by omega) (by omega), s3.sz (by omega) (by omega), (s1.d.mul s3.d).mono (by omega), s2.d.mono (by omega)⟩

/-! ### sizes and prices of a room -/
def upW (r : Row) : Way := (r.w, r.g.map (· - r.b))
def dnW (r : Row) : Way := (r.s, some (r.b - r.l))
def bsum (rows : List Row) : Int := (rows.map (·.b)).sum
/-- the size at any price, of the last ones -/
def endI (up : Bool) (r : Row) : Int := if up then (if 0 < r.w then r.g.getD 0 else r.b) else (if 0 < r.s then r.l else r.b)
def ShR (rows : List Row) (R : Rat) : Option Rat → Prop
  | some p => rs (rows.map (sizR · p)) = R ∧ (p = 0 ∨ (0 < p ∧ ∃ r ∈ rows, 0 < r.w ∧ ∀ g, r.g = some g → (r.b : Rat) + (r.w : Rat) * p ≤ (g : Rat)) ∨ (p < 0 ∧ ∃ r ∈ rows, 0 < r.s ∧ (r.l : Rat) ≤ (r.b : Rat) + (r.s : Rat) * p))
  | none => ((bsum rows : Rat) < R ∧ (∀ r ∈ rows, 0 < r.w → r.g ≠ none) ∧ rs (rows.map fun r => (endI true r : Rat)) < R) ∨ (R < (bsum rows : Rat) ∧ R < rs (rows.map fun r => (endI false r : Rat)))
def shUp (rows : List Row) (R : Rat) : Bool := decide ((bsum rows : Rat) < R)
def shL (rows : List Row) (R : Rat) : Option Rat → List Rat
  | some p => rows.map (sizR · p)
  | none => rows.map fun r => (endI (shUp rows R) r : Rat)
def shD : Option Rat → D
  | some p => frq p
  | none => .non
theorem bsum_cons (r : Row) (rows : List Row) : bsum (r :: rows) = r.b + bsum rows := rfl
theorem ROk.g0 {r : Row} {g : Int} (h : ROk r) (e : r.g = some g) : r.b ≤ g ∧ g ≤ 1000000000000 := by
  rcases h.gr with h1 | ⟨n, h1, h2, h3⟩
  · rw [e] at h1; cases h1
  · rw [e] at h1
    cases h1
    exact ⟨h2, h3⟩
theorem upW_ok {r : Row} (h : ROk r) : WyOk (upW r) := ⟨h.w0, h.w1, fun e he => by
  have hb := h.lb
  have hl := h.l0
  unfold upW at he
  cases hg : r.g with
  | none => rw [hg] at he; cases he
  | some g =>
    rw [hg] at he
    obtain ⟨h1, h2⟩ := h.g0 hg
    have : g - r.b = e := by simpa using he
    omega⟩
theorem dnW_ok {r : Row} (h : ROk r) : WyOk (dnW r) := ⟨h.s0, h.s1, fun e he => by
  have hb := h.lb
  have hl := h.l0
  have hm := h.bm
  have : r.b - r.l = e := by simpa [dnW] using he
  omega⟩
theorem siz_up {r : Row} (h : ROk r) {p : Rat} (hp : 0 < p) : sizR r p = (r.b : Rat) + gvQ p (upW r) := by
  unfold sizR sizQ gvQ upW
  rw [if_neg (by grind)]
  have w0 := h.w0
  by_cases hw : 0 < r.w
  · rw [if_pos hw]
    cases hg : r.g with
    | none => rfl
    | some g =>
      obtain ⟨h1, h2⟩ := h.g0 hg
      show capG (.int g) _ = _
      unfold capG
      dsimp only [Option.map_some]
      rw [Rat.intCast_sub]
      by_cases hc : (g : Rat) < (r.b : Rat) + (r.w : Rat) * p
      · rw [if_pos hc, if_pos (by grind)]; grind
      · rw [if_neg hc, if_neg (by grind)]
  · rw [if_neg hw]
    have e : r.w = 0 := by omega
    rw [e]
    cases hg : r.g with
    | none =>
      show capG .non _ = _
      unfold capG
      simp
    | some g =>
      obtain ⟨h1, h2⟩ := h.g0 hg
      show capG (.int g) _ = _
      unfold capG
      have h3 : (r.b : Rat) ≤ (g : Rat) := Rat.intCast_le_intCast.mpr h1
      simp
      intro hc
      grind
theorem siz_dn {r : Row} (h : ROk r) {p : Rat} (hp : p < 0) : sizR r p = (r.b : Rat) - gvQ (-p) (dnW r) := by
  unfold sizR sizQ gvQ dnW
  rw [if_pos hp]
  have s0 := h.s0
  have lb : (r.l : Rat) ≤ (r.b : Rat) := Rat.intCast_le_intCast.mpr h.lb
  dsimp only
  by_cases hw : 0 < r.s
  · rw [if_pos hw, Rat.intCast_sub]
    by_cases hc : (r.b : Rat) + (r.s : Rat) * p < (r.l : Rat)
    · rw [if_pos hc, if_pos (by grind)]; grind
    · rw [if_neg hc, if_neg (by grind)]; grind
  · rw [if_neg hw]
    have e : r.s = 0 := by omega
    rw [e]
    split <;> grind
theorem siz_zero {r : Row} (h : ROk r) : sizR r 0 = (r.b : Rat) := by
  unfold sizR sizQ
  rw [if_neg (by decide)]
  cases hg : r.g with
  | none =>
    show capG .non _ = _
    unfold capG
    dsimp only
    grind
  | some g =>
    obtain ⟨h1, h2⟩ := h.g0 hg
    show capG (.int g) _ = _
    unfold capG
    have h3 : (r.b : Rat) ≤ (g : Rat) := Rat.intCast_le_intCast.mpr h1
    dsimp only
    split <;> grind
theorem rs_add {α : Type} {f g h : α → Rat} {xs : List α} (e : ∀ x ∈ xs, f x = g x + h x) : rs (xs.map f) = rs (xs.map g) + rs (xs.map h) := by
  induction xs with
  | nil => simp only [List.map_nil, rs_nil]; grind
  | cons x xs ih =>
    rw [List.map_cons, List.map_cons, List.map_cons, rs_cons, rs_cons, rs_cons, ih fun y hy => e y (List.mem_cons_of_mem _ hy), e x List.mem_cons_self]
    grind
theorem rs_sub {α : Type} {f g h : α → Rat} {xs : List α} (e : ∀ x ∈ xs, f x = g x - h x) : rs (xs.map f) = rs (xs.map g) - rs (xs.map h) := by
  induction xs with
  | nil => simp only [List.map_nil, rs_nil]; grind
  | cons x xs ih =>
    rw [List.map_cons, List.map_cons, List.map_cons, rs_cons, rs_cons, rs_cons, ih fun y hy => e y (List.mem_cons_of_mem _ hy), e x List.mem_cons_self]
    grind
theorem rs_congr {α : Type} {f g : α → Rat} {xs : List α} (e : ∀ x ∈ xs, f x = g x) : rs (xs.map f) = rs (xs.map g) := by rw [List.map_congr_left e]
theorem rs_int {α : Type} {f : α → Int} (xs : List α) : rs (xs.map fun x => ((f x : Int) : Rat)) = (((xs.map f).sum : Int) : Rat) := by
  induction xs with
  | nil => rfl
  | cons x xs ih => rw [List.map_cons, List.map_cons, rs_cons, ih, List.sum_cons, Rat.intCast_add]
theorem rs_b (rows : List Row) : rs (rows.map fun r => (r.b : Rat)) = (bsum rows : Rat) := rs_int rows
/-- from price_for, more room than the bases -/
theorem shr_up {rows : List Row} (ok : ∀ r ∈ rows, ROk r) {R : Rat} (hR : (bsum rows : Rat) < R) {o : Option Rat} (h : PriceR (rows.map upW) (R - (bsum rows : Rat)) o) : ShR rows R o := by
  cases o with
  | some p =>
    obtain ⟨h0, h1, x, hx, hx0, hx1⟩ := h
    refine ⟨?_, .inr (.inl ⟨h0, ?_⟩)⟩
    · rw [rs_add (fun r hr => siz_up (ok r hr) h0), rs_b]
      rw [List.map_map] at h1
      change rs (rows.map fun r => gvQ p (upW r)) = _ at h1
      rw [h1]
      grind
    · obtain ⟨r, hr, rfl⟩ := List.mem_map.mp hx
      refine ⟨r, hr, hx0, fun g hg => ?_⟩
      have := hx1 (g - r.b) (by simp [upW, hg])
      rw [Rat.intCast_sub] at this
      change (r.w : Rat) * p ≤ _ at this
      grind
  | none =>
    obtain ⟨h1, h2⟩ := h
    have hall : ∀ r ∈ rows, 0 < r.w → r.g ≠ none := fun r hr hw e => by
      have := h1 (upW r) (List.mem_map_of_mem hr) hw
      simp [upW, e] at this
    refine .inl ⟨hR, hall, ?_⟩
    rw [rs_add (g := fun r => (r.b : Rat)) (h := fun r => edQ (upW r)) (fun r hr => ?_), rs_b]
    · rw [List.map_map] at h2
      change rs (rows.map fun r => edQ (upW r)) < _ at h2
      grind
    · unfold endI edQ upW
      rw [if_pos rfl]
      by_cases hw : 0 < r.w
      · rw [if_pos hw, if_pos hw]
        cases e : r.g with
        | none => exact absurd e (hall r hr hw)
        | some g =>
          simp only [Option.map_some, Option.getD_some]
          rw [Rat.intCast_sub]
          grind
      · rw [if_neg hw, if_neg hw]
        grind
theorem shr_dn {rows : List Row} (ok : ∀ r ∈ rows, ROk r) {R : Rat} (hR : R < (bsum rows : Rat)) {o : Option Rat} (h : PriceR (rows.map dnW) ((bsum rows : Rat) - R) o) : ShR rows R (o.map fun p => -p) := by
  cases o with
  | some p =>
    obtain ⟨h0, h1, x, hx, hx0, hx1⟩ := h
    have hn : -p < 0 := by grind
    refine ⟨?_, .inr (.inr ⟨hn, ?_⟩)⟩
    · rw [rs_sub (fun r hr => siz_dn (ok r hr) hn), rs_b]
      rw [List.map_map] at h1
      change rs (rows.map fun r => gvQ p (dnW r)) = _ at h1
      rw [show (- -p) = p by grind, h1]
      grind
    · obtain ⟨r, hr, rfl⟩ := List.mem_map.mp hx
      refine ⟨r, hr, hx0, ?_⟩
      have := hx1 (r.b - r.l) rfl
      rw [Rat.intCast_sub] at this
      change (r.s : Rat) * p ≤ _ at this
      grind
  | none =>
    obtain ⟨h1, h2⟩ := h
    refine .inr ⟨hR, ?_⟩
    rw [rs_sub (g := fun r => (r.b : Rat)) (h := fun r => edQ (dnW r)) (fun r hr => ?_), rs_b]
    · rw [List.map_map] at h2
      change rs (rows.map fun r => edQ (dnW r)) < _ at h2
      grind
    · unfold endI edQ dnW
      rw [if_neg (by simp)]
      by_cases hw : 0 < r.s
      · rw [if_pos hw, if_pos hw]
        simp only [Option.getD_some]
        rw [Rat.intCast_sub]
        grind
      · rw [if_neg hw, if_neg hw]
        grind
theorem shr_zero {rows : List Row} (ok : ∀ r ∈ rows, ROk r) {R : Rat} (hR : R = (bsum rows : Rat)) : ShR rows R (some 0) := by
  refine ⟨?_, .inl rfl⟩
  rw [rs_congr (fun r hr => siz_zero (ok r hr)), rs_b, hR]
/-! sums over one bottom -/
theorem dv_add {s t N : Int} : Rat.divInt s N + Rat.divInt t N = Rat.divInt (s + t) N := by
  rw [Rat.divInt_eq_div, Rat.divInt_eq_div, Rat.divInt_eq_div, Rat.intCast_add, Rat.div_def, Rat.div_def, Rat.div_def, Rat.add_mul]
theorem rs_dv {N : Int} {B : Nat} {qs : List Rat} (h : ∀ q ∈ qs, ∃ t : Int, q = Rat.divInt t N ∧ t.natAbs ≤ B) : ∃ T : Int, rs qs = Rat.divInt T N ∧ T.natAbs ≤ qs.length * B := by
  induction qs with
  | nil => exact ⟨0, by rw [Rat.zero_divInt]; rfl, by simp⟩
  | cons q qs ih =>
    obtain ⟨t, rfl, ht⟩ := h q List.mem_cons_self
    obtain ⟨T, e, hT⟩ := ih fun y hy => h y (List.mem_cons_of_mem _ hy)
    refine ⟨t + T, by rw [rs_cons, e, dv_add], ?_⟩
    rw [List.length_cons, Nat.succ_mul]
    omega
theorem dv_int {n N : Int} (hN : N ≠ 0) : (n : Rat) = Rat.divInt (n * N) N := by
  have h : ((N : Int) : Rat) ≠ 0 := fun z => hN (Rat.intCast_inj.mp z)
  rw [Rat.divInt_eq_div, Rat.intCast_mul, Rat.mul_div_cancel h]
/-- partial sums of sizes over one bottom -/
theorem EdgOk.ofN {j k : Nat} {N : Int} {qs : List Rat} (hN : N ≠ 0) (bN : Bd j N) (h : ∀ q ∈ qs, ∃ t : Int, q = Rat.divInt t N ∧ Bd k t) (hl : qs.length ≤ 1000) (hj : j ≤ 3900) (hk : k ≤ 5000) : EdgOk qs where
  ln := by omega
  ok := fun i q hq => by
    have hB : ∀ m, ∃ T : Int, rs (qs.take m) = Rat.divInt T N ∧ Bd (k + 10) T := fun m => by
      obtain ⟨T, e, hT⟩ := rs_dv (B := 2 ^ k) (qs := qs.take m) (N := N) fun q hq => by
        obtain ⟨t, e, ht⟩ := h q (List.mem_of_mem_take hq)
        exact ⟨t, e, Nat.le_of_lt ht⟩
      refine ⟨T, e, Nat.lt_of_le_of_lt hT ?_⟩
      have h1 := List.length_take_le' m qs
      have h2 : (qs.take m).length * 2 ^ k ≤ 1000 * 2 ^ k := Nat.mul_le_mul_right _ (by omega)
      have h3 : 2 ^ (k + 10) = 2 ^ k * 1024 := by rw [Nat.pow_add]
      have h4 : 0 < 2 ^ k := Nat.pow_pos (by decide)
      omega
    obtain ⟨T1, e1, b1⟩ := hB i
    obtain ⟨T2, e2, b2⟩ := hB (i + 1)
    obtain ⟨t, e3, b3⟩ := h q (List.mem_of_getElem? hq)
    rw [e1, e2, e3]
    exact ⟨Sz.divInt hN b1 bN 100000, Sz.divInt hN b3 bN 100000, (((bN.le (den_le hN)).mul (bN.le (den_le hN)))).mono (by omega), (bN.le (den_le hN)).mono (by omega)⟩
theorem rs_szN {j k : Nat} {N : Int} {qs : List Rat} (hN : N ≠ 0) (bN : Bd j N) (h : ∀ q ∈ qs, ∃ t : Int, q = Rat.divInt t N ∧ Bd k t) (hl : qs.length ≤ 1000) : Sz2 (k + 10) j (rs qs) := by
  obtain ⟨T, e, hT⟩ := rs_dv (B := 2 ^ k) (qs := qs) (N := N) fun q hq => by
    obtain ⟨t, e, ht⟩ := h q hq
    exact ⟨t, e, Nat.le_of_lt ht⟩
  rw [e]
  refine ⟨Bd.le (show Bd (k + 10) T from Nat.lt_of_le_of_lt hT ?_) (num_le hN), bN.le (den_le hN)⟩
  have h2 : qs.length * 2 ^ k ≤ 1000 * 2 ^ k := Nat.mul_le_mul_right _ (by omega)
  have h3 : 2 ^ (k + 10) = 2 ^ k * 1024 := by rw [Nat.pow_add]
  have h4 : 0 < 2 ^ k := Nat.pow_pos (by decide)
  omega
/-- a size over the price's bottom -/
theorem siz_dv {r : Row} (h : ROk r) {k : Nat} {p : Rat} (hp : Sz k p) : ∃ t : Int, sizR r p = Rat.divInt t p.den ∧ Bd (k + 41) t := by
  have l0 := h.l0; have lb := h.lb; have bm := h.bm
  have bB : Bd 40 r.b := bd12 (by omega) bm
  have bL : Bd 40 r.l := bd12 l0 (by omega)
  have bW : Bd 40 r.w := (bd3 h.w0 h.w1).mono (by decide)
  have bS : Bd 40 r.s := (bd3 h.s0 h.s1).mono (by decide)
  have hd := den_ne p
  have lin : ∀ s : Int, Bd 40 s → Bd (k + 41) (r.b * p.den + s * p.num) := fun s bs => (Bd.add (k := k + 40) ((bB.mul hp.d).mono (by omega)) ((bs.mul hp.n).mono (by omega)))
  unfold sizR sizQ
  split
  · split
    · exact ⟨r.l * p.den, dv_int hd, (bL.mul hp.d).mono (by omega)⟩
    · exact ⟨_, (lin_dv r.b r.s p).symm, lin _ bS⟩
  · cases hg : r.g with
    | none => exact ⟨_, (lin_dv r.b r.w p).symm, lin _ bW⟩
    | some g =>
      obtain ⟨h1, h2⟩ := h.g0 hg
      show ∃ t : Int, capG (.int g) _ = _ ∧ _
      unfold capG
      dsimp only
      split
      · exact ⟨g * p.den, dv_int hd, ((bd12 (by omega) h2).mul hp.d).mono (by omega)⟩
      · exact ⟨_, (lin_dv r.b r.w p).symm, lin _ bW⟩
theorem end_bd {r : Row} (h : ROk r) {up : Bool} (hg : up = true → 0 < r.w → r.g ≠ none) : 0 ≤ endI up r ∧ endI up r ≤ 1000000000000 := by
  have l0 := h.l0; have lb := h.lb; have bm := h.bm
  unfold endI
  cases up with
  | true =>
    rw [if_pos rfl]
    split
    · rename_i hw
      cases e : r.g with
      | none => exact absurd e (hg rfl hw)
      | some g => have := h.g0 e; simp; omega
    · omega
  | false =>
    rw [if_neg (by simp)]
    split <;> omega
/-- what share tells, its sums within bounds -/
theorem shL_dv {rows : List Row} (ok : ∀ r ∈ rows, ROk r) {R : Rat} {o : Option Rat} (h : ShR rows R o) {k : Nat} (hp : ∀ p, o = some p → Sz k p) (hk : 1 ≤ k) : ∃ N : Int, N ≠ 0 ∧ Bd k N ∧ ∀ q ∈ shL rows R o, ∃ t : Int, q = Rat.divInt t N ∧ Bd (k + 41) t := by
  cases o with
  | some p =>
    refine ⟨p.den, den_ne p, (hp p rfl).d, fun q hq => ?_⟩
    obtain ⟨r, hr, rfl⟩ := List.mem_map.mp hq
    exact siz_dv (ok r hr) (hp p rfl)
  | none =>
    refine ⟨1, by decide, bd1 (by omega), fun q hq => ?_⟩
    obtain ⟨r, hr, rfl⟩ := List.mem_map.mp hq
    have hg : shUp rows R = true → 0 < r.w → r.g ≠ none := fun hu hw => by
      rcases h with ⟨_, h2, _⟩ | ⟨h2, _⟩
      · exact h2 r hr hw
      · unfold shUp at hu
        have := of_decide_eq_true hu
        grind
    obtain ⟨h1, h2⟩ := end_bd (ok r hr) hg
    exact ⟨endI (shUp rows R) r * 1, dv_int (by decide), by rw [Int.mul_one]; exact (bd12 h1 h2).mono (by omega)⟩
theorem bsum_bd {rows : List Row} (ok : ∀ r ∈ rows, ROk r) (hl : rows.length ≤ 120) : 0 ≤ bsum rows ∧ bsum rows ≤ 120000000000000 := by
  have h : 0 ≤ bsum rows ∧ bsum rows ≤ 1000000000000 * rows.length := by
    clear hl
    induction rows with
    | nil => simp [bsum]
    | cons r rows ih =>
      have h1 := ok r List.mem_cons_self
      have l0 := h1.l0; have lb := h1.lb; have bm := h1.bm
      have := ih fun x hx => ok x (List.mem_cons_of_mem _ hx)
      rw [bsum_cons, List.length_cons]
      omega
  omega
theorem frq_neg (p : Rat) : frq (-p) = fr (-p.num) p.den := rfl

/-! ### rooms beyond what parts can have -/
theorem rs_le {α : Type} {f g : α → Rat} {xs : List α} (e : ∀ x ∈ xs, f x ≤ g x) : rs (xs.map f) ≤ rs (xs.map g) := by
  induction xs with
  | nil => simp [rs_nil]
  | cons x xs ih =>
    rw [List.map_cons, List.map_cons, rs_cons, rs_cons]
    have h1 := ih fun y hy => e y (List.mem_cons_of_mem _ hy)
    have h2 := e x List.mem_cons_self
    grind
theorem mul_nn {w : Int} {p : Rat} (hw : 0 ≤ w) (hp : 0 ≤ p) : 0 ≤ (w : Rat) * p := Rat.mul_nonneg (by exact Rat.intCast_le_intCast.mpr hw) hp
theorem siz_neg {r : Row} {p : Rat} (hp : p < 0) : sizR r p = if (r.b : Rat) + r.s * p < r.l then (r.l : Rat) else (r.b : Rat) + r.s * p := by
  unfold sizR sizQ
  rw [if_pos hp]
theorem siz_pos_none {r : Row} {p : Rat} (hp : ¬ p < 0) (hg : r.g = none) : sizR r p = (r.b : Rat) + r.w * p := by
  unfold sizR sizQ
  rw [if_neg hp, hg]
  rfl
theorem siz_pos_some {r : Row} {p : Rat} {g : Int} (hp : ¬ p < 0) (hg : r.g = some g) : sizR r p = if (g : Rat) < (r.b : Rat) + r.w * p then (g : Rat) else (r.b : Rat) + r.w * p := by
  unfold sizR sizQ
  rw [if_neg hp, hg]
  rfl
/-- below the base with prices below nought, not below it else -/
theorem siz_le_b {r : Row} (h : ROk r) {p : Rat} (hp : p < 0) : sizR r p ≤ (r.b : Rat) := by
  rw [siz_neg hp]
  have lb : (r.l : Rat) ≤ (r.b : Rat) := Rat.intCast_le_intCast.mpr h.lb
  have hm := mul_nn h.s0 (p := -p) (by grind)
  split <;> grind
theorem b_le_siz {r : Row} (h : ROk r) {p : Rat} (hp : ¬ p < 0) : (r.b : Rat) ≤ sizR r p := by
  have hm := mul_nn h.w0 (p := p) (by grind)
  cases hg : r.g with
  | none => rw [siz_pos_none hp hg]; grind
  | some g =>
    have hb : (r.b : Rat) ≤ (g : Rat) := Rat.intCast_le_intCast.mpr (h.g0 hg).1
    rw [siz_pos_some hp hg]
    split <;> grind
theorem siz_le_end {r : Row} (h : ROk r) (hg : 0 < r.w → r.g ≠ none) (p : Rat) : sizR r p ≤ (endI true r : Rat) := by
  have w0 := h.w0
  unfold endI
  rw [if_pos rfl]
  by_cases hp : p < 0
  · refine Rat.le_trans (siz_le_b h hp) ?_
    split
    · rename_i hw
      cases e : r.g with
      | none => exact absurd e (hg hw)
      | some g => exact Rat.intCast_le_intCast.mpr (h.g0 e).1
    · exact Rat.le_refl
  · split
    · rename_i hw
      cases e : r.g with
      | none => exact absurd e (hg hw)
      | some g =>
        rw [siz_pos_some hp e]
        simp only [Option.getD_some]
        split <;> grind
    · rename_i hw
      have e0 : r.w = 0 := by omega
      cases e : r.g with
      | none => rw [siz_pos_none hp e, e0]; grind
      | some g =>
        have hb : (r.b : Rat) ≤ (g : Rat) := Rat.intCast_le_intCast.mpr (h.g0 e).1
        rw [siz_pos_some hp e, e0]
        split <;> grind
theorem end_le_siz {r : Row} (h : ROk r) (p : Rat) : (endI false r : Rat) ≤ sizR r p := by
  have s0 := h.s0
  have lb : (r.l : Rat) ≤ (r.b : Rat) := Rat.intCast_le_intCast.mpr h.lb
  unfold endI
  rw [if_neg (by simp)]
  by_cases hp : p < 0
  · rw [siz_neg hp]
    split
    · split <;> grind
    · rename_i hw
      have e0 : r.s = 0 := by omega
      rw [e0]
      split <;> grind
  · refine Rat.le_trans ?_ (b_le_siz h hp)
    split
    · exact lb
    · exact Rat.le_refl
theorem unmet_up {rows : List Row} (ok : ∀ r ∈ rows, ROk r) (hg : ∀ r ∈ rows, 0 < r.w → r.g ≠ none) {R : Rat} (h : rs (rows.map fun r => (endI true r : Rat)) < R) : (∀ o, ShR rows R o → o = none) ∧ shUp rows R = true := by
  have hb : (bsum rows : Rat) ≤ rs (rows.map fun r => (endI true r : Rat)) := by
    rw [← rs_b, ← rs_congr (f := fun r => sizR r 0) (g := fun r => (r.b : Rat)) fun r hr => siz_zero (ok r hr)]
    exact rs_le fun r hr => siz_le_end (ok r hr) (hg r hr) 0
  refine ⟨fun o ho => ?_, decide_eq_true (by grind)⟩
  cases o with
  | none => rfl
  | some p =>
    have h1 := ho.1
    have h2 := rs_le (xs := rows) (f := fun r => sizR r p) (g := fun r => (endI true r : Rat)) fun r hr => siz_le_end (ok r hr) (hg r hr) p
    rw [h1] at h2
    grind
theorem unmet_dn {rows : List Row} (ok : ∀ r ∈ rows, ROk r) {R : Rat} (h : R < rs (rows.map fun r => (endI false r : Rat))) : (∀ o, ShR rows R o → o = none) ∧ shUp rows R = false := by
  have hb : rs (rows.map fun r => (endI false r : Rat)) ≤ (bsum rows : Rat) := by
    rw [← rs_b, ← rs_congr (f := fun r => sizR r 0) (g := fun r => (r.b : Rat)) fun r hr => siz_zero (ok r hr)]
    exact rs_le fun r hr => end_le_siz (ok r hr) 0
  refine ⟨fun o ho => ?_, decide_eq_false (by grind)⟩
  cases o with
  | none => rfl
  | some p =>
    have h1 := ho.1
    have h2 := rs_le (xs := rows) (f := fun r => (endI false r : Rat)) (g := fun r => sizR r p) fun r hr => end_le_siz (ok r hr) p
    rw [h1] at h2
    grind
theorem endsum_bd {rows : List Row} {up : Bool} (ok : ∀ r ∈ rows, ROk r) (hg : ∀ r ∈ rows, up = true → 0 < r.w → r.g ≠ none) (hl : rows.length ≤ 60) : 0 ≤ (rows.map (endI up)).sum ∧ (rows.map (endI up)).sum ≤ 60000000000000 := by
  have h : 0 ≤ (rows.map (endI up)).sum ∧ (rows.map (endI up)).sum ≤ 1000000000000 * rows.length := by
    clear hl
    induction rows with
    | nil => simp
    | cons r rows ih =>
      have h1 := end_bd (ok r List.mem_cons_self) (up := up) (hg r List.mem_cons_self)
      have := ih (fun x hx => ok x (List.mem_cons_of_mem _ hx)) (fun x hx => hg x (List.mem_cons_of_mem _ hx))
      rw [List.map_cons, List.sum_cons, List.length_cons]
      omega
  omega
theorem siz_nn {r : Row} (h : ROk r) (p : Rat) : 0 ≤ sizR r p := by
  have h1 := (end_bd h (up := false) (fun z => by cases z)).1
  have h2 : ((0 : Int) : Rat) ≤ (endI false r : Rat) := Rat.intCast_le_intCast.mpr h1
  have h3 := end_le_siz h p
  have h4 : ((0 : Int) : Rat) = 0 := rfl
  grind
theorem rs_nn {qs : List Rat} (h : ∀ q ∈ qs, 0 ≤ q) : 0 ≤ rs qs := by
  induction qs with
  | nil => simp [rs_nil]
  | cons q qs ih =>
    rw [rs_cons]
    have h1 := h q List.mem_cons_self
    have h2 := ih fun x hx => h x (List.mem_cons_of_mem _ hx)
    grind
theorem dv_nn {t b : Int} (ht : 0 ≤ t) (hb : 0 < b) : 0 ≤ Rat.divInt t b := by
  have := @dv_lt 0 t b hb
  rw [Int.zero_mul] at this
  have h2 : ¬ (Rat.divInt t b < ((0 : Int) : Rat)) := fun z => by have := this.mp z; omega
  have h3 : ((0 : Int) : Rat) = 0 := rfl
  grind
/-- sizes at one price: within bounds, and so are their sums -/
theorem sizes_ok {rows : List Row} (ok : ∀ r ∈ rows, ROk r) (hl : rows.length ≤ 60) {k : Nat} {p : Rat} (hp : Sz k p) (hk : k ≤ 3900) : EdgOk (rows.map (sizR · p)) ∧ Sz2 (k + 51) k (rs (rows.map (sizR · p))) ∧ 0 ≤ rs (rows.map (sizR · p)) := by
  have h : ∀ q ∈ rows.map (sizR · p), ∃ t : Int, q = Rat.divInt t p.den ∧ Bd (k + 41) t := fun q hq => by
    obtain ⟨r, hr, rfl⟩ := List.mem_map.mp hq
    exact siz_dv (ok r hr) hp
  have hl' : (rows.map (sizR · p)).length ≤ 1000 := by rw [List.length_map]; omega
  refine ⟨EdgOk.ofN (den_ne p) hp.d h hl' hk (by omega), rs_szN (den_ne p) hp.d h hl', rs_nn fun q hq => ?_⟩
  obtain ⟨r, hr, rfl⟩ := List.mem_map.mp hq
  exact siz_nn (ok r hr) p

/-! ### more room: no size less, no price less; one room, one answer -/
theorem siz_mono {r : Row} (h : ROk r) {p q : Rat} (hpq : p ≤ q) : sizR r p ≤ sizR r q := by
  by_cases hq : q < 0
  · have hp : p < 0 := by grind
    rw [siz_neg hp, siz_neg hq]
    have hm := mul_nn h.s0 (p := q - p) (by grind)
    split <;> split <;> grind
  · by_cases hp : p < 0
    · exact Rat.le_trans (siz_le_b h hp) (b_le_siz h hq)
    · have hm := mul_nn h.w0 (p := q - p) (by grind)
      cases hg : r.g with
      | none => rw [siz_pos_none hp hg, siz_pos_none hq hg]; grind
      | some g =>
        rw [siz_pos_some hp hg, siz_pos_some hq hg]
        split <;> split <;> grind
/-- a price as near to nought as can be -/
def NearP (rows : List Row) (p : Rat) : Prop := p = 0 ∨ (0 < p ∧ ∃ r ∈ rows, 0 < r.w ∧ ∀ g, r.g = some g → (r.b : Rat) + (r.w : Rat) * p ≤ (g : Rat)) ∨ (p < 0 ∧ ∃ r ∈ rows, 0 < r.s ∧ (r.l : Rat) ≤ (r.b : Rat) + (r.s : Rat) * p)
theorem rs_lt {α : Type} {f g : α → Rat} {xs : List α} (e : ∀ x ∈ xs, f x ≤ g x) (h : ∃ x ∈ xs, f x < g x) : rs (xs.map f) < rs (xs.map g) := by
  induction xs with
  | nil => obtain ⟨x, hx, _⟩ := h; cases hx
  | cons x xs ih =>
    rw [List.map_cons, List.map_cons, rs_cons, rs_cons]
    have h2 := e x List.mem_cons_self
    have h3 := rs_le (xs := xs) (f := f) (g := g) fun y hy => e y (List.mem_cons_of_mem _ hy)
    obtain ⟨y, hy, hlt⟩ := h
    rcases List.mem_cons.mp hy with rfl | hy
    · grind
    · have h1 := ih (fun y hy => e y (List.mem_cons_of_mem _ hy)) ⟨y, hy, hlt⟩
      grind
theorem near_lt {rows : List Row} (ok : ∀ r ∈ rows, ROk r) {p q : Rat} (hp : NearP rows p) (hq : NearP rows q) (h : q < p) : rs (rows.map (sizR · q)) < rs (rows.map (sizR · p)) := by
  refine rs_lt (fun r hr => siz_mono (ok r hr) (Rat.le_of_lt h)) ?_
  have mlt : ∀ w : Int, 0 < w → (w : Rat) * q < (w : Rat) * p := fun w hw => Rat.mul_lt_mul_of_pos_left h (by exact Rat.intCast_lt_intCast.mpr hw)
  have pneg : ∀ (r : Row), 0 < r.s → (r.l : Rat) ≤ (r.b : Rat) + (r.s : Rat) * q → q < 0 → r ∈ rows → sizR r q < sizR r p := fun r hs hl hq0 hr => by
    rw [siz_neg hq0, if_neg (by grind)]
    have m := mlt r.s hs
    by_cases hp0 : p < 0
    · rw [siz_neg hp0]
      split <;> grind
    · have hb := b_le_siz (ok r hr) hp0
      have m0 : (r.s : Rat) * q < (r.s : Rat) * 0 := Rat.mul_lt_mul_of_pos_left hq0 (by exact Rat.intCast_lt_intCast.mpr hs)
      grind
  rcases hp with rfl | ⟨hp0, r, hr, hw, hg⟩ | ⟨hp0, r, hr, hs, hl⟩
  · rcases hq with rfl | ⟨hq0, _⟩ | ⟨hq0, r, hr, hs, hl⟩
    · grind
    · grind
    · exact ⟨r, hr, pneg r hs hl hq0 hr⟩
  · refine ⟨r, hr, ?_⟩
    have hpn : ¬ p < 0 := by grind
    have e : sizR r p = (r.b : Rat) + (r.w : Rat) * p := by
      cases hgg : r.g with
      | none => exact siz_pos_none hpn hgg
      | some g =>
        have := hg g hgg
        rw [siz_pos_some hpn hgg, if_neg (by grind)]
    rw [e]
    have m := mlt r.w hw
    by_cases hq0 : q < 0
    · have hb := siz_le_b (ok r hr) hq0
      have m0 : (r.w : Rat) * 0 < (r.w : Rat) * p := Rat.mul_lt_mul_of_pos_left hp0 (by exact Rat.intCast_lt_intCast.mpr hw)
      grind
    · cases hgg : r.g with
      | none => rw [siz_pos_none hq0 hgg]; grind
      | some g =>
        rw [siz_pos_some hq0 hgg]
        split <;> grind
  · have hq0 : q < 0 := by grind
    rcases hq with rfl | ⟨h1, _⟩ | ⟨_, r, hr, hs, hl⟩
    · grind
    · grind
    · exact ⟨r, hr, pneg r hs hl hq0 hr⟩
theorem ends_le {r : Row} (h : ROk r) (hg : 0 < r.w → r.g ≠ none) : (endI false r : Rat) ≤ (endI true r : Rat) := Rat.le_trans (end_le_siz h 0) (siz_le_end h hg 0)
/-- two rooms -/
theorem more_room {rows : List Row} (ok : ∀ r ∈ rows, ROk r) {R S : Rat} (hRS : R ≤ S) {o u : Option Rat} (ho : ShR rows R o) (hu : ShR rows S u) :
    (∀ (i : Nat) x y, (shL rows R o)[i]? = some x → (shL rows S u)[i]? = some y → x ≤ y) ∧ (∀ p q, o = some p → u = some q → p ≤ q) := by
  have pr : ∀ p q, o = some p → u = some q → p ≤ q := fun p q e1 e2 => by
    subst e1; subst e2
    by_cases h : q < p
    · have := near_lt ok (p := p) (q := q) ho.2 hu.2 h
      rw [ho.1, hu.1] at this
      grind
    · grind
  refine ⟨fun i x y hx hy => ?_, pr⟩
  have get : ∀ (f : Row → Rat) z, (rows.map f)[i]? = some z → ∃ r, rows[i]? = some r ∧ z = f r := fun f z hz => by
    rw [List.getElem?_map] at hz
    cases e : rows[i]? with
    | none => rw [e] at hz; cases hz
    | some r => rw [e] at hz; exact ⟨r, rfl, (Option.some.inj hz).symm⟩
  cases o with
  | some p =>
    obtain ⟨r, hr, rfl⟩ := get _ _ hx
    have okr := ok r (List.mem_of_getElem? hr)
    cases u with
    | some q =>
      obtain ⟨r', hr', rfl⟩ := get _ _ hy
      rw [hr] at hr'
      cases hr'
      exact siz_mono okr (pr p q rfl rfl)
    | none =>
      obtain ⟨r', hr', rfl⟩ := get _ _ hy
      rw [hr] at hr'
      cases hr'
      rcases hu with ⟨h1, h2, h3⟩ | ⟨h1, h2⟩
      · rw [show shUp rows S = true from decide_eq_true h1]
        exact siz_le_end okr (h2 r (List.mem_of_getElem? hr)) p
      · have h4 := rs_le (xs := rows) (f := fun r => (endI false r : Rat)) (g := fun r => sizR r p) fun r hr => end_le_siz (ok r hr) p
        have h5 := ho.1
        grind
  | none =>
    obtain ⟨r, hr, rfl⟩ := get _ _ hx
    have okr := ok r (List.mem_of_getElem? hr)
    rcases ho with ⟨h1, h2, h3⟩ | ⟨h1, h2⟩
    · obtain ⟨u1, u2⟩ := unmet_up ok h2 (show rs (rows.map fun r => (endI true r : Rat)) < S by grind)
      have := u1 u hu
      subst this
      obtain ⟨r', hr', rfl⟩ := get _ _ hy
      rw [hr] at hr'
      cases hr'
      rw [u2, show shUp rows R = true from decide_eq_true h1]
      exact Rat.le_refl
    · have e0 : shUp rows R = false := decide_eq_false (by grind)
      rw [e0]
      cases u with
      | some q =>
        obtain ⟨r', hr', rfl⟩ := get _ _ hy
        rw [hr] at hr'
        cases hr'
        exact end_le_siz okr q
      | none =>
        obtain ⟨r', hr', rfl⟩ := get _ _ hy
        rw [hr] at hr'
        cases hr'
        rcases hu with ⟨g1, g2, g3⟩ | ⟨g1, g2⟩
        · rw [show shUp rows S = true from decide_eq_true g1]
          exact ends_le okr (g2 r (List.mem_of_getElem? hr))
        · rw [show shUp rows S = false from decide_eq_false (by grind)]
          exact Rat.le_refl
theorem one_room {rows : List Row} (ok : ∀ r ∈ rows, ROk r) {R : Rat} {o u : Option Rat} (ho : ShR rows R o) (hu : ShR rows R u) : o = u := by
  have no : ∀ p, ShR rows R (some p) → ShR rows R none → False := fun p h1 h2 => by
    rcases h2 with ⟨g1, g2, g3⟩ | ⟨g1, g2⟩
    · cases (unmet_up ok g2 g3).1 _ h1
    · cases (unmet_dn ok g2).1 _ h1
  cases o with
  | none => cases u with
    | none => rfl
    | some q => exact (no q hu ho).elim
  | some p => cases u with
    | none => exact (no p ho hu).elim
    | some q =>
      have h1 := (more_room ok Rat.le_refl ho hu).2 p q rfl rfl
      have h2 := (more_room ok Rat.le_refl hu ho).2 q p rfl rfl
      rw [show p = q by grind]
theorem le_q {p q : Rat} : p ≤ q ↔ p.num * q.den ≤ q.num * p.den := Rat.le_iff _ _
theorem dv_sub {s t N : Int} : Rat.divInt s N - Rat.divInt t N = Rat.divInt (s - t) N := by
  rw [Rat.divInt_eq_div, Rat.divInt_eq_div, Rat.divInt_eq_div, Rat.intCast_sub, Rat.div_def, Rat.div_def, Rat.div_def]
  grind
theorem shL_len (rows : List Row) (R : Rat) (o : Option Rat) : (shL rows R o).length = rows.length := by
  cases o <;> simp [shL]
/-- the sizes and what is left, over one bottom -/
theorem shl_edg {rows : List Row} (ok : ∀ r ∈ rows, ROk r) (hl : rows.length ≤ 60) {R : Rat} {o : Option Rat} (h : ShR rows R o) {k m : Nat} (hp : ∀ p, o = some p → Sz k p) (hk : 1 ≤ k) (sR : Sz m R) (hkm : k + m ≤ 3800) :
    EdgOk (shL rows R o ++ [R - rs (shL rows R o)]) ∧ Sz (k + m + 60) (R - rs (shL rows R o)) ∧ ∀ q ∈ shL rows R o, Sz (k + 41) q := by
  obtain ⟨N, hN, bN, hq⟩ := shL_dv ok h hp hk
  have hl' : (shL rows R o).length ≤ 1000 := by rw [shL_len]; omega
  have hs : ∃ T : Int, rs (shL rows R o) = Rat.divInt T N ∧ Bd (k + 51) T := by
    obtain ⟨T, e, hT⟩ := rs_dv (B := 2 ^ (k + 41)) (qs := shL rows R o) (N := N) fun q hq' => by
      obtain ⟨t, e, ht⟩ := hq q hq'
      exact ⟨t, e, Nat.le_of_lt ht⟩
    refine ⟨T, e, Nat.lt_of_le_of_lt hT ?_⟩
    have h2 : (shL rows R o).length * 2 ^ (k + 41) ≤ 1000 * 2 ^ (k + 41) := Nat.mul_le_mul_right _ (by omega)
    have h3 : 2 ^ (k + 51) = 2 ^ (k + 41) * 1024 := by rw [show k + 51 = k + 41 + 10 by omega, Nat.pow_add]
    have h4 : 0 < 2 ^ (k + 41) := Nat.pow_pos (by decide)
    omega
  obtain ⟨T, eT, bT⟩ := hs
  have hD := den_ne R
  have hND : N * R.den ≠ 0 := Int.mul_ne_zero hN hD
  have scale : ∀ t : Int, Rat.divInt t N = Rat.divInt (t * R.den) (N * R.den) := fun t => (Rat.divInt_mul_right hD).symm
  have eR : R = Rat.divInt (R.num * N) (N * R.den) := by
    rw [Int.mul_comm N, Rat.divInt_mul_right hN, Rat.num_divInt_den]
  have eL : R - rs (shL rows R o) = Rat.divInt (R.num * N - T * R.den) (N * R.den) := by
    have e1 : R - rs (shL rows R o) = Rat.divInt (R.num * N) (N * R.den) - Rat.divInt (T * R.den) (N * R.den) := by rw [← eR, eT, scale T]
    rw [e1, dv_sub]
  have bL : Bd (k + m + 52) (R.num * N - T * R.den) := Bd.sub (k := k + m + 51) ((sR.n.mul bN).mono (by omega)) ((bT.mul sR.d).mono (by omega))
  refine ⟨EdgOk.ofN hND (bN.mul sR.d) (k := k + m + 52) (fun q hq' => ?_) (by rw [List.length_append, shL_len]; simp; omega) (by omega) (by omega), ?_, fun q hq' => ?_⟩
  · rcases List.mem_append.mp hq' with h1 | h1
    · obtain ⟨t, e, ht⟩ := hq q h1
      exact ⟨t * R.den, by rw [e, scale], (ht.mul sR.d).mono (by omega)⟩
    · rw [List.mem_singleton.mp h1]
      exact ⟨_, eL, bL⟩
  · rw [eL]
    exact Sz.divInt hND bL (bN.mul sR.d) _
  · obtain ⟨t, e, ht⟩ := hq q hq'
    rw [e]
    exact Sz.divInt hN ht bN _

/-! ### sizes by a price -/
theorem ext_up {rows : List Row} (ok : ∀ r ∈ rows, ROk r) (hg : ∀ r ∈ rows, 0 < r.w → r.g ≠ none) : ∃ p : Rat, 0 ≤ p ∧ ∀ q, p ≤ q → ∀ r ∈ rows, sizR r q = (endI true r : Rat) := by
  induction rows with
  | nil => exact ⟨0, Rat.le_refl, fun _ _ _ h => (nomatch h)⟩
  | cons x rows ih =>
    obtain ⟨p, p0, hp⟩ := ih (fun r hr => ok r (List.mem_cons_of_mem _ hr)) (fun r hr => hg r (List.mem_cons_of_mem _ hr))
    have okx := ok x List.mem_cons_self
    have hgx := hg x List.mem_cons_self
    have w0 := okx.w0
    by_cases hw : 0 < x.w
    · cases e : x.g with
      | none => exact absurd e (hgx hw)
      | some g =>
        have hb := (okx.g0 e).1
        have hb' : (0 : Rat) ≤ ((g - x.b : Int) : Rat) := by
          have : ((0 : Int) : Rat) ≤ ((g - x.b : Int) : Rat) := Rat.intCast_le_intCast.mpr (by omega)
          exact this
        refine ⟨p + ((g - x.b : Int) : Rat), by grind, fun q hq r hr => ?_⟩
        rcases List.mem_cons.mp hr with rfl | hr
        · have q0 : ¬ q < 0 := by grind
          have hge : ((g - r.b : Int) : Rat) ≤ q := by grind
          have h1 : (1 : Rat) ≤ (r.w : Rat) := by
            have : ((1 : Int) : Rat) ≤ (r.w : Rat) := Rat.intCast_le_intCast.mpr (by omega)
            exact this
          have h2 : q ≤ (r.w : Rat) * q := by
            have := Rat.mul_le_mul_of_nonneg_right h1 (c := q) (by grind)
            grind
          rw [siz_pos_some q0 e, endI, if_pos rfl, if_pos hw, e, Option.getD_some]
          rw [Rat.intCast_sub] at hge
          split <;> grind
        · exact hp q (by grind) r hr
    · refine ⟨p, p0, fun q hq r hr => ?_⟩
      rcases List.mem_cons.mp hr with rfl | hr
      · have q0 : ¬ q < 0 := by grind
        have e0 : r.w = 0 := by omega
        have h1 := siz_le_end okx hgx q
        have h2 := b_le_siz okx q0
        have e2 : endI true r = r.b := by rw [endI, if_pos rfl, if_neg hw]
        rw [e2] at h1 ⊢
        grind
      · exact hp q hq r hr
theorem ext_dn {rows : List Row} (ok : ∀ r ∈ rows, ROk r) : ∃ p : Rat, p < 0 ∧ ∀ q, q ≤ p → ∀ r ∈ rows, sizR r q = (endI false r : Rat) := by
  induction rows with
  | nil => exact ⟨-1, by decide, fun _ _ _ h => (nomatch h)⟩
  | cons x rows ih =>
    obtain ⟨p, p0, hp⟩ := ih (fun r hr => ok r (List.mem_cons_of_mem _ hr))
    have okx := ok x List.mem_cons_self
    have s0 := okx.s0
    have lb := okx.lb
    have hb' : (0 : Rat) ≤ ((x.b - x.l : Int) : Rat) := by
      have : ((0 : Int) : Rat) ≤ ((x.b - x.l : Int) : Rat) := Rat.intCast_le_intCast.mpr (by omega)
      exact this
    refine ⟨p - ((x.b - x.l : Int) : Rat), by grind, fun q hq r hr => ?_⟩
    rcases List.mem_cons.mp hr with rfl | hr
    · have q0 : q < 0 := by grind
      have hge : q ≤ -((r.b - r.l : Int) : Rat) := by grind
      have e2 : endI false r = if 0 < r.s then r.l else r.b := by rw [endI, if_neg (by simp)]
      rw [siz_neg q0, e2]
      rw [Rat.intCast_sub] at hge
      by_cases hs : 0 < r.s
      · rw [if_pos (c := 0 < r.s) hs]
        have h1 : (1 : Rat) ≤ (r.s : Rat) := by
          have : ((1 : Int) : Rat) ≤ (r.s : Rat) := Rat.intCast_le_intCast.mpr (by omega)
          exact this
        have h2 : (r.s : Rat) * q ≤ q := by
          have := Rat.mul_le_mul_of_nonneg_right h1 (c := -q) (by grind)
          grind
        split <;> grind
      · rw [if_neg (c := 0 < r.s) hs, show r.s = 0 by omega]
        have : (r.l : Rat) ≤ (r.b : Rat) := Rat.intCast_le_intCast.mpr lb
        split <;> grind
    · exact hp q (by grind) r hr
/-- what share tells are sizes by some price -/
theorem sh_price {rows : List Row} (ok : ∀ r ∈ rows, ROk r) {R : Rat} {o : Option Rat} (h : ShR rows R o) : ∃ p, shL rows R o = rows.map (sizR · p) := by
  cases o with
  | some p => exact ⟨p, rfl⟩
  | none =>
    rcases h with ⟨h1, h2, h3⟩ | ⟨h1, h2⟩
    · obtain ⟨p, _, hp⟩ := ext_up ok h2
      refine ⟨p, ?_⟩
      rw [shL, show shUp rows R = true from decide_eq_true h1]
      exact (List.map_congr_left fun r hr => hp p Rat.le_refl r hr).symm
    · obtain ⟨p, _, hp⟩ := ext_dn ok
      refine ⟨p, ?_⟩
      rw [shL, show shUp rows R = false from decide_eq_false (by grind)]
      exact (List.map_congr_left fun r hr => hp p Rat.le_refl r hr).symm
theorem rs_eq {α : Type} {f g : α → Rat} {xs : List α} (e : ∀ x ∈ xs, f x ≤ g x) (h : rs (xs.map f) = rs (xs.map g)) : ∀ x ∈ xs, f x = g x := fun x hx => by
  by_cases hlt : f x < g x
  · have := rs_lt e ⟨x, hx, hlt⟩
    grind
  · have := e x hx
    grind
/-- a room to which the sizes at a price come -/
theorem sh_met {rows : List Row} (ok : ∀ r ∈ rows, ROk r) {p : Rat} {o : Option Rat} (h : ShR rows (rs (rows.map (sizR · p))) o) : ∃ q, o = some q ∧ NearP rows q ∧ rows.map (sizR · q) = rows.map (sizR · p) := by
  cases o with
  | some q =>
    refine ⟨q, rfl, h.2, List.map_congr_left fun r hr => ?_⟩
    by_cases hpq : p ≤ q
    · exact (rs_eq (xs := rows) (f := fun r => sizR r p) (g := fun r => sizR r q) (fun r hr => siz_mono (ok r hr) hpq) h.1.symm r hr).symm
    · exact rs_eq (xs := rows) (f := fun r => sizR r q) (g := fun r => sizR r p) (fun r hr => siz_mono (ok r hr) (by grind)) h.1 r hr
  | none =>
    rcases h with ⟨h1, h2, h3⟩ | ⟨h1, h2⟩
    · have := rs_le (xs := rows) (f := fun r => sizR r p) (g := fun r => (endI true r : Rat)) fun r hr => siz_le_end (ok r hr) (h2 r hr) p
      grind
    · have := rs_le (xs := rows) (f := fun r => (endI false r : Rat)) (g := fun r => sizR r p) fun r hr => end_le_siz (ok r hr) p
      grind

/-! ### strain -/
def ovG (r : Row) (x : Rat) : Bool := match r.g with | some n => decide ((n : Rat) < x) | none => false
def stO (r : Row) (x : Rat) : Option Rat :=
  if x = (r.b : Rat) then some 0
  else if (r.b : Rat) < x then (if r.w = 0 ∨ ovG r x = true then none else some ((x - r.b) * (x - r.b) / (r.w : Rat)))
  else if r.s = 0 ∨ x < (r.l : Rat) then none else some ((x - r.b) * (x - r.b) / (r.s : Rat))
def stv (r : Row) (x : Rat) : Rat := (stO r x).getD 0
/-- a size that a part can have -/
structure FeR (r : Row) (x : Rat) : Prop where
  lo : (endI false r : Rat) ≤ x
  hi : ∀ e, (if 0 < r.w then r.g else some r.b) = some e → x ≤ (e : Rat)
theorem fe_siz {r : Row} (h : ROk r) (p : Rat) : FeR r (sizR r p) := by
  refine ⟨end_le_siz h p, fun e he => ?_⟩
  by_cases hw : 0 < r.w
  · rw [if_pos hw] at he
    by_cases hp : p < 0
    · have h1 := siz_le_b h hp
      have h2 : (r.b : Rat) ≤ (e : Rat) := Rat.intCast_le_intCast.mpr (h.g0 he).1
      grind
    · rw [siz_pos_some hp he]
      split <;> grind
  · rw [if_neg hw] at he
    have e1 : r.b = e := Option.some.inj he
    subst e1
    have w0 := h.w0
    by_cases hp : p < 0
    · exact siz_le_b h hp
    · have ez : r.w = 0 := by omega
      cases hg : r.g with
      | none => rw [siz_pos_none hp hg, ez]; grind
      | some g =>
        have h2 : (r.b : Rat) ≤ (g : Rat) := Rat.intCast_le_intCast.mpr (h.g0 hg).1
        rw [siz_pos_some hp hg, ez]
        split <;> grind
theorem fe_st {r : Row} (h : ROk r) {x : Rat} (hx : FeR r x) : stO r x ≠ none := by
  have w0 := h.w0
  have s0 := h.s0
  have lo := hx.lo
  unfold endI at lo
  rw [if_neg (by simp)] at lo
  unfold stO
  split
  · simp
  · rename_i hne
    split
    · rename_i hlt
      rw [if_neg]
      · simp
      · rintro (hw | ho)
        · have := hx.hi r.b (by rw [if_neg (by omega)])
          grind
        · unfold ovG at ho
          cases hg : r.g with
          | none => rw [hg] at ho; cases ho
          | some n =>
            rw [hg] at ho
            have ho := of_decide_eq_true ho
            by_cases hw : 0 < r.w
            · have := hx.hi n (by rw [if_pos hw, hg])
              grind
            · have := hx.hi r.b (by rw [if_neg hw])
              grind
    · rename_i hge
      have hlt : x < (r.b : Rat) := by grind
      rw [if_neg]
      · simp
      · rintro (hs | hl)
        · rw [if_neg (by omega)] at lo
          grind
        · by_cases hs : 0 < r.s
          · rw [if_pos hs] at lo
            grind
          · rw [if_neg hs] at lo
            grind
/-- one side: u of a weight a, p or the end t -/
theorem one_side {a p t u : Rat} (ha : 0 < a) (ht : t ≤ a * p) (hc : t = a * p ∨ u ≤ t) (hu : 0 ≤ u) (h0 : 0 ≤ t) : t * t / a + 2 * p * (u - t) ≤ u * u / a ∧ (u ≠ t → t * t / a + 2 * p * (u - t) < u * u / a) := by
  have hne : a ≠ 0 := by grind
  have key : a * (u * u / a - t * t / a - 2 * p * (u - t)) = u * u - t * t - 2 * (a * p) * (u - t) := by
    have e1 : a * (u * u / a) = u * u := by rw [Rat.mul_comm, Rat.div_mul_cancel hne]
    have e2 : a * (t * t / a) = t * t := by rw [Rat.mul_comm, Rat.div_mul_cancel hne]
    grind
  have fin1 : 0 ≤ u * u - t * t - 2 * (a * p) * (u - t) → t * t / a + 2 * p * (u - t) ≤ u * u / a := fun h => by
    by_cases hn : u * u / a - t * t / a - 2 * p * (u - t) < 0
    · have := Rat.mul_lt_mul_of_pos_left hn ha
      rw [Rat.mul_zero] at this
      grind
    · grind
  have fin2 : 0 < u * u - t * t - 2 * (a * p) * (u - t) → t * t / a + 2 * p * (u - t) < u * u / a := fun h => by
    by_cases hn : u * u / a - t * t / a - 2 * p * (u - t) ≤ 0
    · have := Rat.mul_le_mul_of_nonneg_left hn (Rat.le_of_lt ha)
      rw [Rat.mul_zero] at this
      grind
    · grind
  rcases hc with hc | hc
  · have e : u * u - t * t - 2 * (a * p) * (u - t) = (u - t) * (u - t) := by rw [← hc]; grind
    have sq : 0 ≤ (u - t) * (u - t) := by
      by_cases h : 0 ≤ u - t
      · exact Rat.mul_nonneg h h
      · have := Rat.mul_nonneg (a := t - u) (b := t - u) (by grind) (by grind)
        grind
    refine ⟨fin1 (by rw [e]; exact sq), fun hn => fin2 ?_⟩
    rw [e]
    have hz : (u - t) * (u - t) ≠ 0 := fun z => by
      rcases Rat.mul_eq_zero.mp z with z | z <;> exact hn (by grind)
    grind
  · have e : u * u - t * t - 2 * (a * p) * (u - t) = (t - u) * (2 * (a * p) - u - t) := by grind
    have h1 : 0 ≤ t - u := by grind
    have h2 : 0 ≤ 2 * (a * p) - u - t := by grind
    refine ⟨fin1 (by rw [e]; exact Rat.mul_nonneg h1 h2), fun hn => fin2 ?_⟩
    rw [e]
    exact Rat.mul_pos (by grind) (by grind)
/-- the other side -/
theorem far_side {a p t v f : Rat} (ha : 0 < a) (ht : t ≤ a * p) (h0 : 0 ≤ t) (hv : 0 < v) (hp : 0 ≤ p) (hf : 0 < f) : t * t / a - 2 * p * (v + t) < f := by
  have hne : a ≠ 0 := by grind
  have h1 : t * t / a ≤ p * t := by
    have e : t * t / a * a = t * t := Rat.div_mul_cancel hne
    by_cases hn : p * t < t * t / a
    · have h2 := Rat.mul_lt_mul_of_pos_right hn ha
      rw [e] at h2
      have h3 := Rat.mul_le_mul_of_nonneg_right ht h0
      grind
    · grind
  have h2 : 0 ≤ p * t := Rat.mul_nonneg hp h0
  have h3 : 0 ≤ p * v := Rat.mul_nonneg hp (Rat.le_of_lt hv)
  grind
theorem sq_pos {x a : Rat} (hx : x ≠ 0) (ha : 0 < a) : 0 < x * x / a := by
  rw [Rat.div_def]
  refine Rat.mul_pos ?_ (Rat.inv_pos.mpr ha)
  by_cases h : 0 < x
  · exact Rat.mul_pos h h
  · have := Rat.mul_pos (a := -x) (b := -x) (by grind) (by grind)
    grind
theorem stv_b (r : Row) : stv r (r.b : Rat) = 0 := by
  unfold stv stO
  rw [if_pos rfl]
  rfl
theorem stv_up {r : Row} (h : ROk r) {x : Rat} (hx : FeR r x) (hb : (r.b : Rat) ≤ x) (hw : 0 < r.w) : stv r x = (x - r.b) * (x - r.b) / (r.w : Rat) := by
  have hs := fe_st h hx
  unfold stv
  unfold stO at hs ⊢
  by_cases e : x = (r.b : Rat)
  · rw [if_pos e, e]
    have : ((r.b : Rat) - r.b) * ((r.b : Rat) - r.b) = 0 := by grind
    rw [this, Rat.div_def, Rat.zero_mul]
    rfl
  · rw [if_neg e, if_pos (show (r.b : Rat) < x by grind)] at hs ⊢
    by_cases hc : r.w = 0 ∨ ovG r x = true
    · rw [if_pos hc] at hs
      exact absurd rfl hs
    · rw [if_neg hc]
      rfl
theorem stv_dn {r : Row} (h : ROk r) {x : Rat} (hx : FeR r x) (hb : x ≤ (r.b : Rat)) (hw : 0 < r.s) : stv r x = (r.b - x) * (r.b - x) / (r.s : Rat) := by
  have hs := fe_st h hx
  unfold stv
  unfold stO at hs ⊢
  by_cases e : x = (r.b : Rat)
  · rw [if_pos e, e]
    have : ((r.b : Rat) - r.b) * ((r.b : Rat) - r.b) = 0 := by grind
    rw [this, Rat.div_def, Rat.zero_mul]
    rfl
  · rw [if_neg e, if_neg (show ¬ (r.b : Rat) < x by grind)] at hs ⊢
    by_cases hc : r.s = 0 ∨ x < (r.l : Rat)
    · rw [if_pos hc] at hs
      exact absurd rfl hs
    · rw [if_neg hc]
      show (x - r.b) * (x - r.b) / (r.s : Rat) = _
      rw [show (x - (r.b : Rat)) * (x - r.b) = (r.b - x) * (r.b - x) by grind]
theorem fe_up {r : Row} (h : ROk r) {x : Rat} (hx : FeR r x) (hb : (r.b : Rat) < x) : 0 < r.w := by
  have w0 := h.w0
  by_cases hw : 0 < r.w
  · exact hw
  · have := hx.hi r.b (by rw [if_neg hw])
    grind
theorem fe_dn {r : Row} (h : ROk r) {x : Rat} (hx : FeR r x) (hb : x < (r.b : Rat)) : 0 < r.s := by
  by_cases hs : 0 < r.s
  · exact hs
  · have := hx.lo
    unfold endI at this
    rw [if_neg (by simp), if_neg hs] at this
    grind
theorem stv_pos {r : Row} (h : ROk r) {x : Rat} (hx : FeR r x) (hn : x ≠ (r.b : Rat)) : 0 < stv r x := by
  by_cases hb : (r.b : Rat) < x
  · have hw := fe_up h hx hb
    rw [stv_up h hx (by grind) hw]
    exact sq_pos (by grind) (by exact Rat.intCast_lt_intCast.mpr hw)
  · have hs := fe_dn h hx (show x < (r.b : Rat) by grind)
    rw [stv_dn h hx (by grind) hs]
    exact sq_pos (by grind) (by exact Rat.intCast_lt_intCast.mpr hs)
/-- no size strains less than the price tells -/
theorem st_conv {r : Row} (h : ROk r) {p x : Rat} (hx : FeR r x) : stv r (sizR r p) + 2 * p * (x - sizR r p) ≤ stv r x ∧ (x ≠ sizR r p → stv r (sizR r p) + 2 * p * (x - sizR r p) < stv r x) := by
  have hsz := fe_siz h p
  have w0 := h.w0
  have s0 := h.s0
  by_cases hp : p < 0
  · have hle := siz_le_b h hp
    by_cases hs : 0 < r.s
    · have hs' : (0 : Rat) < (r.s : Rat) := by exact Rat.intCast_lt_intCast.mpr hs
      rw [stv_dn h hsz hle hs]
      have ht : (r.b : Rat) - sizR r p ≤ (r.s : Rat) * (-p) := by
        rw [siz_neg hp]
        split <;> grind
      by_cases hb : x ≤ (r.b : Rat)
      · rw [stv_dn h hx hb hs]
        have hc : (r.b : Rat) - sizR r p = (r.s : Rat) * (-p) ∨ (r.b : Rat) - x ≤ (r.b : Rat) - sizR r p := by
          rw [siz_neg hp]
          split
          · have := hx.lo
            unfold endI at this
            rw [if_neg (by simp), if_pos hs] at this
            exact .inr (by grind)
          · exact .inl (by grind)
        obtain ⟨k1, k2⟩ := one_side hs' ht hc (show 0 ≤ (r.b : Rat) - x by grind) (show 0 ≤ (r.b : Rat) - sizR r p by grind)
        refine ⟨by grind, fun hn => ?_⟩
        have := k2 (by grind)
        grind
      · have hb' : (r.b : Rat) < x := by grind
        have f0 := stv_pos h hx (by grind)
        have k := far_side hs' ht (show 0 ≤ (r.b : Rat) - sizR r p by grind) (show 0 < x - (r.b : Rat) by grind) (show 0 ≤ -p by grind) f0
        exact ⟨by grind, fun _ => by grind⟩
    · have e0 : r.s = 0 := by omega
      have es : sizR r p = (r.b : Rat) := by
        have lb : (r.l : Rat) ≤ (r.b : Rat) := Rat.intCast_le_intCast.mpr h.lb
        rw [siz_neg hp, e0]
        split <;> grind
      rw [es, stv_b]
      have hxb : (r.b : Rat) ≤ x := by
        have := hx.lo
        unfold endI at this
        rw [if_neg (by simp), if_neg hs] at this
        exact this
      by_cases e : x = (r.b : Rat)
      · rw [e, stv_b]
        exact ⟨by grind, fun hn => absurd rfl hn⟩
      · have f0 := stv_pos h hx e
        have hm := Rat.mul_nonneg (a := -p) (b := x - r.b) (by grind) (by grind)
        exact ⟨by grind, fun _ => by grind⟩
  · have hle := b_le_siz h hp
    by_cases hw : 0 < r.w
    · have hw' : (0 : Rat) < (r.w : Rat) := by exact Rat.intCast_lt_intCast.mpr hw
      rw [stv_up h hsz hle hw]
      have ht : sizR r p - (r.b : Rat) ≤ (r.w : Rat) * p := by
        cases hg : r.g with
        | none => rw [siz_pos_none hp hg]; grind
        | some g => rw [siz_pos_some hp hg]; split <;> grind
      by_cases hb : (r.b : Rat) ≤ x
      · rw [stv_up h hx hb hw]
        have hc : sizR r p - (r.b : Rat) = (r.w : Rat) * p ∨ x - (r.b : Rat) ≤ sizR r p - (r.b : Rat) := by
          cases hg : r.g with
          | none => rw [siz_pos_none hp hg]; exact .inl (by grind)
          | some g =>
            have hgx := hx.hi g (by rw [if_pos hw, hg])
            rw [siz_pos_some hp hg]
            split
            · exact .inr (by grind)
            · exact .inl (by grind)
        obtain ⟨k1, k2⟩ := one_side hw' ht hc (show 0 ≤ x - (r.b : Rat) by grind) (show 0 ≤ sizR r p - (r.b : Rat) by grind)
        refine ⟨by grind, fun hn => ?_⟩
        have := k2 (by grind)
        grind
      · have hb' : x < (r.b : Rat) := by grind
        have f0 := stv_pos h hx (by grind)
        have k := far_side hw' ht (show 0 ≤ sizR r p - (r.b : Rat) by grind) (show 0 < (r.b : Rat) - x by grind) (show 0 ≤ p by grind) f0
        exact ⟨by grind, fun _ => by grind⟩
    · have e0 : r.w = 0 := by omega
      have es : sizR r p = (r.b : Rat) := by
        have := hsz.hi r.b (by rw [if_neg hw])
        grind
      rw [es, stv_b]
      have hxb : x ≤ (r.b : Rat) := hx.hi r.b (by rw [if_neg hw])
      by_cases e : x = (r.b : Rat)
      · rw [e, stv_b]
        exact ⟨by grind, fun hn => absurd rfl hn⟩
      · have f0 := stv_pos h hx e
        have hm := Rat.mul_nonneg (a := p) (b := r.b - x) (by grind) (by grind)
        exact ⟨by grind, fun _ => by grind⟩
/-- what is paired: rows and sizes -/
def stS (rows : List Row) (xs : List Rat) : Rat := rs ((rows.zip xs).map fun z => stv z.1 z.2)
def FeL (rows : List Row) (xs : List Rat) : Prop := xs.length = rows.length ∧ ∀ z ∈ rows.zip xs, FeR z.1 z.2
theorem stS_conv {rows : List Row} (ok : ∀ r ∈ rows, ROk r) {p : Rat} : ∀ {xs : List Rat}, xs.length = rows.length → (∀ z ∈ rows.zip xs, FeR z.1 z.2) →
    stS rows (rows.map (sizR · p)) + 2 * p * (rs xs - rs (rows.map (sizR · p))) ≤ stS rows xs ∧ (xs ≠ rows.map (sizR · p) → stS rows (rows.map (sizR · p)) + 2 * p * (rs xs - rs (rows.map (sizR · p))) < stS rows xs) := by
  induction rows with
  | nil =>
    intro xs hl _
    have : xs = [] := List.eq_nil_of_length_eq_zero (by simpa using hl)
    subst this
    exact ⟨by simp [stS, rs_nil]; grind, fun h => absurd rfl h⟩
  | cons r rows ih =>
    intro xs hl hf
    cases xs with
    | nil => cases hl
    | cons x xs =>
      obtain ⟨i1, i2⟩ := ih (fun r hr => ok r (List.mem_cons_of_mem _ hr)) (xs := xs) (by simpa using hl) (fun z hz => hf z (by rw [List.zip_cons_cons]; exact List.mem_cons_of_mem _ hz))
      obtain ⟨c1, c2⟩ := st_conv (ok r List.mem_cons_self) (p := p) (hf (r, x) (by rw [List.zip_cons_cons]; exact List.mem_cons_self))
      unfold stS at i1 i2 ⊢
      rw [List.map_cons, List.zip_cons_cons, List.zip_cons_cons, List.map_cons, List.map_cons, rs_cons, rs_cons, rs_cons, rs_cons]
      dsimp only at c1 c2 ⊢
      refine ⟨by grind, fun hn => ?_⟩
      by_cases e : x = sizR r p
      · have := i2 fun z => hn (by rw [e, z])
        grind
      · have := c2 e
        grind

/-! ### sums of strains: how long their numbers are -/
theorem prod_div {T t W w M : Int} (hW : W ≠ 0) (hw : w ≠ 0) : Rat.divInt T (M * W) + Rat.divInt t (M * w) = Rat.divInt (T * w + t * W) (M * (W * w)) := by
  have e1 : Rat.divInt T (M * W) = Rat.divInt (T * w) (M * (W * w)) := by rw [← Int.mul_assoc]; exact (Rat.divInt_mul_right hw).symm
  have e2 : Rat.divInt t (M * w) = Rat.divInt (t * W) (M * (W * w)) := by rw [Int.mul_comm W w, ← Int.mul_assoc]; exact (Rat.divInt_mul_right hW).symm
  rw [e1, e2, dv_add]
theorem rs_ofW {k : Nat} {M : Int} {qs : List Rat} (hM : M ≠ 0) (h : ∀ q ∈ qs, ∃ t w : Int, q = Rat.divInt t (M * w) ∧ w ≠ 0 ∧ Bd 10 w ∧ Bd k t) : ∀ i, i ≤ qs.length → ∃ T W : Int, rs (qs.take i) = Rat.divInt T (M * W) ∧ W ≠ 0 ∧ Bd (10 * i + 1) W ∧ Bd (k + 11 * i + 1) T
  | 0, _ => ⟨0, 1, by rw [Rat.zero_divInt]; rfl, by decide, Bd.of 1 (by decide) (by simp), Bd.of 0 (by decide) (Nat.pow_pos (by decide))⟩
  | i + 1, hi => by
    obtain ⟨T, W, e, hW, bW, bT⟩ := rs_ofW hM h i (by omega)
    have hq : qs[i]? = some qs[i] := List.getElem?_eq_getElem hi
    obtain ⟨t, w, e2, hw, bw, bt⟩ := h _ (List.getElem_mem hi)
    refine ⟨T * w + t * W, W * w, ?_, Int.mul_ne_zero hW hw, (bW.mul bw).mono (by omega), ?_⟩
    · rw [rs_take hq, e, e2, prod_div hW hw]
    · exact (Bd.add (k := k + 11 * i + 11) ((bT.mul bw).mono (by omega)) ((bt.mul bW).mono (by omega))).mono (by omega)
theorem EdgOk.ofW {j k : Nat} {M : Int} {qs : List Rat} (hM : M ≠ 0) (bM : Bd j M) (h : ∀ q ∈ qs, ∃ t w : Int, q = Rat.divInt t (M * w) ∧ w ≠ 0 ∧ Bd 10 w ∧ Bd k t) (hl : qs.length ≤ 61) (hj : j ≤ 3000) (hk : k ≤ 5000) : EdgOk qs where
  ln := by omega
  ok := fun i q hq => by
    have hi : i < qs.length := (List.getElem?_eq_some_iff.mp hq).1
    obtain ⟨T1, W1, e1, h1, b1, c1⟩ := rs_ofW hM h i (by omega)
    obtain ⟨T2, W2, e2, h2, b2, c2⟩ := rs_ofW hM h (i + 1) (by omega)
    obtain ⟨t, w, e3, h3, b3, c3⟩ := h q (List.mem_of_getElem? hq)
    have n1 := Int.mul_ne_zero hM h1
    have n2 := Int.mul_ne_zero hM h2
    have n3 := Int.mul_ne_zero hM h3
    have d1 : Bd (j + 620) (M * W1) := (bM.mul b1).mono (by omega)
    have d2 : Bd (j + 620) (M * W2) := (bM.mul b2).mono (by omega)
    have d3 : Bd (j + 10) (M * w) := bM.mul b3
    rw [e1, e2, e3]
    exact ⟨Sz.divInt n1 c1 d1 100000, Sz.divInt n3 c3 d3 100000, ((d1.le (den_le n1)).mul (d3.le (den_le n3))).mono (by omega), (d2.le (den_le n2)).mono (by omega)⟩
theorem rs_szW {j k : Nat} {M : Int} {qs : List Rat} (hM : M ≠ 0) (bM : Bd j M) (h : ∀ q ∈ qs, ∃ t w : Int, q = Rat.divInt t (M * w) ∧ w ≠ 0 ∧ Bd 10 w ∧ Bd k t) (hl : qs.length ≤ 60) : Sz2 (k + 661) (j + 601) (rs qs) := by
  obtain ⟨T, W, e, h1, b1, c1⟩ := rs_ofW hM h qs.length (Nat.le_refl _)
  rw [List.take_length] at e
  rw [e]
  have n1 := Int.mul_ne_zero hM h1
  exact ⟨(c1.le (num_le n1)).mono (by omega), ((bM.mul b1).le (den_le n1)).mono (by omega)⟩
/-- sizes over one bottom -/
def XOk (xs : List Rat) : Prop := ∃ N : Int, N ≠ 0 ∧ Bd 700 N ∧ ∀ x ∈ xs, ∃ y : Int, x = Rat.divInt y N ∧ Bd 800 y
theorem stv_dv {r : Row} (h : ROk r) {x : Rat} {N y : Int} (hN : N ≠ 0) (bN : Bd 700 N) (hx : x = Rat.divInt y N) (by' : Bd 800 y) : ∃ t w : Int, stv r x = Rat.divInt t (N * N * w) ∧ w ≠ 0 ∧ Bd 10 w ∧ Bd 1610 t := by
  have l0 := h.l0; have lb := h.lb
  have bB : Bd 40 r.b := bd12 (by omega) h.bm
  have hd : x - (r.b : Rat) = Rat.divInt (y - r.b * N) N := by rw [hx, dv_int (n := r.b) hN, dv_sub]
  have bt : Bd 1610 ((y - r.b * N) * (y - r.b * N)) := by
    have b1 : Bd 801 (y - r.b * N) := Bd.sub (k := 800) by' ((bB.mul bN).mono (by decide))
    exact (b1.mul b1).mono (by decide)
  have val : ∀ w : Int, w ≠ 0 → (x - (r.b : Rat)) * (x - r.b) / (w : Rat) = Rat.divInt ((y - r.b * N) * (y - r.b * N)) (N * N * w) := fun w _ => by rw [hd, sq_dv]
  have zero : ∃ t w : Int, (0 : Rat) = Rat.divInt t (N * N * w) ∧ w ≠ 0 ∧ Bd 10 w ∧ Bd 1610 t := ⟨0, 1, by rw [Rat.zero_divInt], by decide, bd1, Bd.of 0 (by decide) (Nat.pow_pos (by decide))⟩
  unfold stv stO
  split
  · exact zero
  · split
    · split
      · exact zero
      · rename_i hc
        have hw : r.w ≠ 0 := fun e => hc (.inl e)
        exact ⟨_, r.w, val r.w hw, hw, bd3 h.w0 h.w1, bt⟩
    · split
      · exact zero
      · rename_i hc
        have hw : r.s ≠ 0 := fun e => hc (.inl e)
        exact ⟨_, r.s, val r.s hw, hw, bd3 h.s0 h.s1, bt⟩
theorem st_edg {rows : List Row} (ok : ∀ r ∈ rows, ROk r) {xs : List Rat} (hx : XOk xs) (hl : rows.length ≤ 60) : EdgOk ((rows.zip xs).map fun z => stv z.1 z.2) ∧ Sz 2300 (stS rows xs) ∧ ∀ x ∈ xs, Sz 800 x := by
  obtain ⟨N, hN, bN, hy⟩ := hx
  have hNN := Int.mul_ne_zero hN hN
  have bNN : Bd 1400 (N * N) := bN.mul bN
  have h : ∀ q ∈ (rows.zip xs).map (fun z => stv z.1 z.2), ∃ t w : Int, q = Rat.divInt t (N * N * w) ∧ w ≠ 0 ∧ Bd 10 w ∧ Bd 1610 t := fun q hq => by
    obtain ⟨z, hz, rfl⟩ := List.mem_map.mp hq
    obtain ⟨y, e, b⟩ := hy z.2 (List.of_mem_zip hz).2
    exact stv_dv (ok z.1 (List.of_mem_zip hz).1) hN bN e b
  have hl' : ((rows.zip xs).map fun z => stv z.1 z.2).length ≤ 60 := by
    rw [List.length_map, List.length_zip]
    omega
  refine ⟨EdgOk.ofW hNN bNN h (by omega) (by decide) (by decide), (rs_szW hNN bNN h hl').sz (by decide) (by decide), fun x hx => ?_⟩
  obtain ⟨y, rfl, b⟩ := hy x hx
  exact Sz.divInt hN b bN 800
/-- the strain of sizes, none where one has none -/
def smO (rows : List Row) (xs : List Rat) : Option Rat := if ∀ z ∈ rows.zip xs, stO z.1 z.2 ≠ none then some (stS rows xs) else none
theorem st_D (r : Row) (x : Rat) : strD r.b r.l (oD r.g) r.w r.s x = shD (stO r x) := by
  have e : gOver (oD r.g) x = ovG r x := by
    unfold gOver ovG
    cases r.g <;> rfl
  unfold strD stO
  rw [e]
  split
  · rfl
  · split
    · split <;> rfl
    · split <;> rfl
theorem smO_fe {rows : List Row} (ok : ∀ r ∈ rows, ROk r) {xs : List Rat} (h : ∀ z ∈ rows.zip xs, FeR z.1 z.2) : smO rows xs = some (stS rows xs) := by
  unfold smO
  rw [if_pos]
  intro z hz
  exact fe_st (ok z.1 (List.of_mem_zip hz).1) (h z hz)

/-! ### some of a size moved to another one -/
def XJ (j m : Nat) (xs : List Rat) : Prop := ∃ N : Int, N ≠ 0 ∧ Bd j N ∧ ∀ x ∈ xs, ∃ y : Int, x = Rat.divInt y N ∧ Bd m y
theorem XJ.x {j m : Nat} {xs : List Rat} (h : XJ j m xs) (hj : j ≤ 700) (hm : m ≤ 800) : XOk xs := by
  obtain ⟨N, hN, bN, hy⟩ := h
  exact ⟨N, hN, bN.mono hj, fun x hx => by
    obtain ⟨y, e, b⟩ := hy x hx
    exact ⟨y, e, b.mono hm⟩⟩
def FeI (rows : List Row) (xs : List Rat) : Prop := xs.length = rows.length ∧ ∀ (i : Nat) r x, rows[i]? = some r → xs[i]? = some x → FeR r x
theorem FeI.z {rows : List Row} {xs : List Rat} (h : FeI rows xs) : ∀ z ∈ rows.zip xs, FeR z.1 z.2 := fun z hz => by
  obtain ⟨i, hi⟩ := List.mem_iff_getElem?.mp hz
  rw [List.getElem?_zip_eq_some] at hi
  exact h.2 i z.1 z.2 hi.1 hi.2
theorem rs_set {xs : List Rat} {i : Nat} {x v : Rat} (h : xs[i]? = some x) : rs (xs.set i v) = rs xs - x + v := by
  induction xs generalizing i with
  | nil => simp at h
  | cons a xs ih =>
    cases i with
    | zero =>
      cases h
      rw [List.set_cons_zero, rs_cons, rs_cons]
      grind
    | succ i =>
      have h' : xs[i]? = some x := by simpa using h
      rw [List.set_cons_succ, rs_cons, rs_cons, ih h']
      grind
def hiO (r : Row) : Option Int := if 0 < r.w then r.g else some r.b
theorem shift_ok {rows : List Row} {xs : List Rat} (fe : FeI rows xs) {i k : Nat} (hik : i ≠ k) {ri rk : Row} {xi xk S : Rat} (hri : rows[i]? = some ri) (hrk : rows[k]? = some rk) (hxi : xs[i]? = some xi) (hxk : xs[k]? = some xk)
    (s0 : 0 ≤ S) (s1 : (endI false ri : Rat) ≤ xi - S) (s2 : ∀ e, hiO rk = some e → xk + S ≤ (e : Rat)) : FeI rows ((xs.set i (xi - S)).set k (xk + S)) ∧ rs ((xs.set i (xi - S)).set k (xk + S)) = rs xs := by
  have hxk' : (xs.set i (xi - S))[k]? = some xk := by rw [List.getElem?_set_ne hik]; exact hxk
  have li : i < xs.length := (List.getElem?_eq_some_iff.mp hxi).1
  have lk : k < xs.length := (List.getElem?_eq_some_iff.mp hxk).1
  refine ⟨⟨by simp [fe.1], fun n r x hr hx => ?_⟩, ?_⟩
  · by_cases hn : n = k
    · subst hn
      rw [List.getElem?_set_self (by simpa using lk)] at hx
      cases hx
      rw [hrk] at hr
      cases hr
      have f := fe.2 n rk xk hrk hxk
      exact ⟨by have := f.lo; grind, fun e he => s2 e he⟩
    · rw [List.getElem?_set_ne (fun e => hn e.symm)] at hx
      by_cases hn2 : n = i
      · subst hn2
        rw [List.getElem?_set_self li] at hx
        cases hx
        rw [hri] at hr
        cases hr
        have f := fe.2 n ri xi hri hxi
        exact ⟨s1, fun e he => by have := f.hi e he; grind⟩
      · rw [List.getElem?_set_ne (fun e => hn2 e.symm)] at hx
        exact fe.2 n r x hr hx
  · rw [rs_set hxk', rs_set hxi]
    grind
/-- the new bottoms -/
theorem shift_XJ {j m : Nat} {xs : List Rat} (h : XJ j m xs) (hm : j + 40 ≤ m) {i k : Nat} {xi xk F : Rat} {pa kk : Int} (hxi : xs[i]? = some xi) (hxk : xs[k]? = some xk) (p0 : 0 < kk) (bp : Bd 5 pa) (bk : Bd 5 kk)
    (hF : (∃ l : Int, Bd 40 l ∧ F = xi - (l : Rat)) ∨ ∃ l : Int, Bd 40 l ∧ F = (l : Rat) - xk) : XJ (j + 5) (m + 7) ((xs.set i (xi - F * pa / kk)).set k (xk + F * pa / kk)) ∧ Bd (j + 5) ((F * pa / kk).den : Int) ∧ Bd (j + 5) (xk.den : Int) := by
  obtain ⟨N, hN, bN, hy⟩ := h
  obtain ⟨yi, ei, bi⟩ := hy xi (List.mem_of_getElem? hxi)
  obtain ⟨yk, ek, bk'⟩ := hy xk (List.mem_of_getElem? hxk)
  have hkk : kk ≠ 0 := by omega
  have hNk : N * kk ≠ 0 := Int.mul_ne_zero hN hkk
  have eF : ∃ f : Int, F = Rat.divInt f N ∧ Bd (m + 1) f := by
    rcases hF with ⟨l, bl, e⟩ | ⟨l, bl, e⟩
    · exact ⟨yi - l * N, by rw [e, ei, dv_int (n := l) hN, dv_sub], Bd.sub (k := m) bi ((bl.mul bN).mono (by omega))⟩
    · exact ⟨l * N - yk, by rw [e, ek, dv_int (n := l) hN, dv_sub], Bd.sub (k := m) ((bl.mul bN).mono (by omega)) bk'⟩
  obtain ⟨f, ef, bf⟩ := eF
  have eS : F * pa / kk = Rat.divInt (f * pa) (N * kk) := by
    rw [ef, Rat.divInt_eq_div, Rat.divInt_eq_div, Rat.intCast_mul, Rat.intCast_mul, Rat.div_def, Rat.div_def, Rat.div_def, Rat.inv_mul_rev]
    grind
  have sc : ∀ y : Int, Rat.divInt y N = Rat.divInt (y * kk) (N * kk) := fun y => (Rat.divInt_mul_right hkk).symm
  have bS : Bd (m + 6) (f * pa) := (bf.mul bp).mono (by omega)
  refine ⟨⟨N * kk, hNk, bN.mul bk, fun x hx => ?_⟩, by rw [eS]; exact (bN.mul bk).le (den_le hNk), by rw [ek]; exact (bN.le (den_le hN)).mono (by omega)⟩
  rcases List.mem_or_eq_of_mem_set hx with hx | rfl
  · rcases List.mem_or_eq_of_mem_set hx with hx | rfl
    · obtain ⟨y, e, b⟩ := hy x hx
      exact ⟨y * kk, by rw [e, sc], (b.mul bk).mono (by omega)⟩
    · exact ⟨yi * kk - f * pa, by rw [eS, ei, sc, dv_sub], (Bd.sub (k := m + 6) ((bi.mul bk).mono (by omega)) bS).mono (by omega)⟩
  · exact ⟨yk * kk + f * pa, by rw [eS, ek, sc, dv_add], (Bd.add (k := m + 6) ((bk'.mul bk).mono (by omega)) bS).mono (by omega)⟩
theorem frac_le {F : Rat} {pa kk : Int} (hF : 0 ≤ F) (p0 : 0 < pa) (pk : pa ≤ kk) : 0 ≤ F * pa / kk ∧ F * pa / kk ≤ F := by
  have hk0 : (0 : Int) < kk := by omega
  have hp0 : (0 : Int) ≤ pa := by omega
  have hk : (0 : Rat) < (kk : Rat) := by exact Rat.intCast_lt_intCast.mpr hk0
  have hp : (0 : Rat) ≤ (pa : Rat) := by exact Rat.intCast_le_intCast.mpr hp0
  have hpk : (pa : Rat) ≤ (kk : Rat) := Rat.intCast_le_intCast.mpr pk
  have hne : (kk : Rat) ≠ 0 := by grind
  have e : F * pa / kk * kk = F * pa := Rat.div_mul_cancel hne
  have h1 := Rat.mul_nonneg hF hp
  have h2 := Rat.mul_le_mul_of_nonneg_left hpk hF
  constructor
  · by_cases h : F * pa / kk < 0
    · have := Rat.mul_lt_mul_of_pos_right h hk
      grind
    · grind
  · by_cases h : F < F * pa / kk
    · have := Rat.mul_lt_mul_of_pos_right h hk
      grind
    · grind
theorem step_dv (F : Rat) {pa kk : Int} (hk : kk ≠ 0) : Rat.divInt (F.num * pa) (F.den * kk) = F * pa / kk := by
  have e := Rat.num_divInt_den F
  rw [Rat.divInt_eq_div, Rat.div_def] at e
  rw [Rat.divInt_eq_div, Rat.intCast_mul, Rat.intCast_mul, Rat.div_def, Rat.div_def, Rat.inv_mul_rev]
  conv => rhs; rw [← e]
  grind
theorem XJ.sz {j m : Nat} {xs : List Rat} (h : XJ j m xs) {x : Rat} (hx : x ∈ xs) : Sz (j + m) x := by
  obtain ⟨N, hN, bN, hy⟩ := h
  obtain ⟨y, rfl, b⟩ := hy x hx
  exact Sz.divInt hN b bN _

/-! ### what a run costs -/
theorem hi_fat {r : Row} (ok : ROk r) : fatD r.b (oD r.g) r.w = oD (if 0 < r.w then r.g else some r.b) := by
  have w0 := ok.w0
  unfold fatD
  by_cases h : r.w = 0
  · rw [if_pos h, if_neg (by omega)]; rfl
  · rw [if_neg h, if_pos (by omega)]
theorem end_lean {r : Row} (ok : ROk r) : endI false r = leanI r.b r.l r.s := by
  have s0 := ok.s0
  unfold endI leanI
  rw [if_neg (by simp)]
  by_cases h : r.s = 0
  · rw [if_pos h, if_neg (by omega)]
  · rw [if_neg h, if_pos (by omega)]
def shX (r : Row) (sp m : Int) : Rat := shQ sp m (fatD r.b (oD r.g) r.w)
theorem dv_mul {sp m : Int} (hm : 0 < m) : (m : Rat) * Rat.divInt sp m = (sp : Rat) := by
  rw [Rat.divInt_eq_div, Rat.div_def]
  have h : (m : Rat) ≠ 0 := by
    intro h
    have := Rat.intCast_inj.mp (h.trans Rat.intCast_zero.symm)
    omega
  rw [Rat.mul_comm (sp : Rat), ← Rat.mul_assoc, Rat.mul_inv_cancel _ h, Rat.one_mul]
theorem shX_or {r : Row} (ok : ROk r) (sp m : Int) : (∃ f, (if 0 < r.w then r.g else some r.b) = some f ∧ m * f < sp ∧ shX r sp m = (f : Rat)) ∨ ((∀ f, (if 0 < r.w then r.g else some r.b) = some f → sp ≤ m * f) ∧ shX r sp m = Rat.divInt sp m) := by
  unfold shX
  rw [hi_fat ok]
  cases (if 0 < r.w then r.g else some r.b) with
  | none => exact .inr ⟨fun f h => (nomatch h), rfl⟩
  | some f =>
    show (∃ f', some f = some f' ∧ m * f' < sp ∧ (if m * f < sp then (f : Rat) else Rat.divInt sp m) = (f' : Rat)) ∨ ((∀ f', some f = some f' → sp ≤ m * f') ∧ (if m * f < sp then (f : Rat) else Rat.divInt sp m) = Rat.divInt sp m)
    by_cases h : m * f < sp
    · exact .inl ⟨f, rfl, h, if_pos h⟩
    · exact .inr ⟨fun f' e => by cases e; omega, if_neg h⟩
theorem hi_b {r : Row} (ok : ROk r) {f : Int} (h : (if 0 < r.w then r.g else some r.b) = some f) : r.b ≤ f := by
  by_cases hw : 0 < r.w
  · rw [if_pos hw] at h
    exact (ok.g0 h).1
  · rw [if_neg hw] at h
    cases h
    exact Int.le_refl _
theorem rat_mul_le {m : Int} (hm : 0 < m) {x y : Rat} (h : (m : Rat) * x ≤ (m : Rat) * y) : x ≤ y := by
  have hm' : (0 : Rat) < (m : Rat) := Rat.intCast_lt_intCast.mpr hm
  by_cases hc : x ≤ y
  · exact hc
  · have h4 : 0 < (m : Rat) * (x - y) := Rat.mul_pos hm' (by grind)
    grind
theorem shX_fe {r : Row} (ok : ROk r) {sp m : Int} (hm : 0 < m) (hl : m * leanI r.b r.l r.s ≤ sp) : FeR r (shX r sp m) := by
  have lb : leanI r.b r.l r.s ≤ r.b := by
    have := ok.lb
    unfold leanI
    split <;> omega
  rcases shX_or ok sp m with ⟨f, hf, h1, e⟩ | ⟨h1, e⟩
  · have hb := hi_b ok hf
    rw [e]
    refine ⟨?_, fun g hg => ?_⟩
    · rw [end_lean ok]
      exact Rat.intCast_le_intCast.mpr (by omega)
    · rw [hf] at hg
      cases hg
      exact Rat.le_refl
  · rw [e]
    refine ⟨?_, fun g hg => ?_⟩
    · rw [end_lean ok]
      apply rat_mul_le hm
      rw [dv_mul hm, ← Rat.intCast_mul]
      exact Rat.intCast_le_intCast.mpr hl
    · apply rat_mul_le hm
      rw [dv_mul hm, ← Rat.intCast_mul]
      exact Rat.intCast_le_intCast.mpr (h1 g hg)
theorem stv_hi {r : Row} (ok : ROk r) {x : Rat} (fe : FeR r x) (h : (r.b : Rat) < x) : r.w ≠ 0 ∧ stv r x = (x - r.b) * (x - r.b) / (r.w : Rat) := by
  have h1 := fe_st ok fe
  unfold stv
  unfold stO at h1 ⊢
  rw [if_neg (by grind), if_pos h] at h1 ⊢
  by_cases hc : r.w = 0 ∨ ovG r x = true
  · rw [if_pos hc] at h1
    exact absurd rfl h1
  · rw [if_neg hc]
    exact ⟨fun e => hc (.inl e), rfl⟩
theorem stv_lo {r : Row} (ok : ROk r) {x : Rat} (fe : FeR r x) (h : x < (r.b : Rat)) : r.s ≠ 0 ∧ stv r x = (x - r.b) * (x - r.b) / (r.s : Rat) := by
  have h1 := fe_st ok fe
  unfold stv
  unfold stO at h1 ⊢
  rw [if_neg (by grind), if_neg (by grind)] at h1 ⊢
  by_cases hc : r.s = 0 ∨ x < (r.l : Rat)
  · rw [if_pos hc] at h1
    exact absurd rfl h1
  · rw [if_neg hc]
    exact ⟨fun e => hc (.inl e), rfl⟩
theorem stv_at {r : Row} {x : Rat} (h : x = (r.b : Rat)) : stv r x = 0 := by
  unfold stv stO
  rw [if_pos h]
  rfl
/-- what m blanks cost that share a space -/
def shcQ (r : Row) (sp m : Int) : Rat := if m = 0 then ((sp * sp : Int) : Rat) else m * stv r (shX r sp m) + (sp - m * shX r sp m) * (sp - m * shX r sp m)
def wtI (r : Row) (gap : Int) : Int := if 1 < (if gap < 0 then r.s else r.w) then (if gap < 0 then r.s else r.w) else 1
theorem wt_pos (r : Row) (gap : Int) : 0 < wtI r gap := by
  unfold wtI
  split <;> split <;> omega
theorem frac_add {G L m W : Rat} (hm : m ≠ 0) (hW : W ≠ 0) : (G + L * m * W) / (m * W) = G / (m * W) + L := by
  grind
theorem frac_sq {d m W : Rat} (hm : m ≠ 0) (hW : W ≠ 0) : m * (d * d / W) = (m * d) * (m * d) / (m * W) := by
  grind
theorem shc_gen {r : Row} (ok : ROk r) {m gap left : Int} {x : Rat} (hm : 0 < m) (fe : FeR r x) (hx : (m : Rat) * (x - r.b) = (gap : Rat)) : (m : Rat) * stv r x + (left : Rat) * (left : Rat) = Rat.divInt (gap * gap + left * left * m * wtI r gap) (m * wtI r gap) := by
  have w0 := ok.w0
  have s0 := ok.s0
  have hm' : (0 : Rat) < (m : Rat) := Rat.intCast_lt_intCast.mpr hm
  have hW := wt_pos r gap
  have hW' : (0 : Rat) < (wtI r gap : Rat) := Rat.intCast_lt_intCast.mpr hW
  have n1 : (m : Rat) ≠ 0 := by grind
  have n2 : (wtI r gap : Rat) ≠ 0 := by grind
  rw [Rat.divInt_eq_div, Rat.intCast_add, Rat.intCast_mul, Rat.intCast_mul, Rat.intCast_mul, Rat.intCast_mul, Rat.intCast_mul, frac_add n1 n2]
  have key : (m : Rat) * stv r x = (gap : Rat) * (gap : Rat) / ((m : Rat) * (wtI r gap : Rat)) := by
    by_cases h1 : x = (r.b : Rat)
    · have g0 : (gap : Rat) = 0 := by rw [← hx, h1]; grind
      rw [stv_at h1, g0]
      grind
    by_cases h2 : (r.b : Rat) < x
    · obtain ⟨hw, e⟩ := stv_hi ok fe h2
      have gp : ¬ gap < 0 := fun h => by
        have h3 : (gap : Rat) < 0 := Rat.intCast_lt_intCast.mpr h
        have h4 : 0 < (m : Rat) * (x - r.b) := Rat.mul_pos hm' (by grind)
        grind
      have ew : wtI r gap = r.w := by
        unfold wtI
        rw [if_neg gp]
        split <;> omega
      have n3 : (r.w : Rat) ≠ 0 := by rw [← ew]; exact n2
      rw [e, ew, frac_sq n1 n3, hx]
    · have h3 : x < (r.b : Rat) := by grind
      obtain ⟨hw, e⟩ := stv_lo ok fe h3
      have gp : gap < 0 := by
        have h4 : 0 < (m : Rat) * (r.b - x) := Rat.mul_pos hm' (by grind)
        have h5 : (gap : Rat) < ((0 : Int) : Rat) := by
          show (gap : Rat) < 0
          rw [← hx]
          grind
        exact Rat.intCast_lt_intCast.mp h5
      have ew : wtI r gap = r.s := by
        unfold wtI
        rw [if_pos gp]
        split <;> omega
      have n3 : (r.s : Rat) ≠ 0 := by rw [← ew]; exact n2
      rw [e, ew, frac_sq n1 n3, hx]
  rw [key]
theorem shc_fat {r : Row} (ok : ROk r) {sp m f : Int} (hm : 0 < m) (hl : m * leanI r.b r.l r.s ≤ sp) (hf : (if 0 < r.w then r.g else some r.b) = some f) (h : m * f < sp) : shcQ r sp m = Rat.divInt (m * (f - r.b) * (m * (f - r.b)) + (sp - m * f) * (sp - m * f) * m * wtI r (m * (f - r.b))) (m * wtI r (m * (f - r.b))) := by
  have e : shX r sp m = (f : Rat) := by
    rcases shX_or ok sp m with ⟨f', hf', h1, e⟩ | ⟨h1, e⟩
    · rw [hf] at hf'
      cases hf'
      exact e
    · have := h1 f hf
      omega
  have fe := shX_fe ok hm hl
  rw [e] at fe
  rw [← shc_gen ok (left := sp - m * f) hm fe (by rw [Rat.intCast_mul, Rat.intCast_sub])]
  unfold shcQ
  rw [if_neg (by omega), e, Rat.intCast_sub, Rat.intCast_mul]
theorem shc_even {r : Row} (ok : ROk r) {sp m : Int} (hm : 0 < m) (hl : m * leanI r.b r.l r.s ≤ sp) (h : ∀ f, (if 0 < r.w then r.g else some r.b) = some f → sp ≤ m * f) : shcQ r sp m = Rat.divInt ((sp - m * r.b) * (sp - m * r.b) + 0 * 0 * m * wtI r (sp - m * r.b)) (m * wtI r (sp - m * r.b)) := by
  have e : shX r sp m = Rat.divInt sp m := by
    rcases shX_or ok sp m with ⟨f', hf', h1, e⟩ | ⟨h1, e⟩
    · have := h f' hf'
      omega
    · exact e
  have fe := shX_fe ok hm hl
  rw [e] at fe
  have hd := dv_mul (sp := sp) hm
  rw [← shc_gen ok (left := 0) hm fe (by rw [Rat.intCast_sub, Rat.intCast_mul]; grind)]
  unfold shcQ
  rw [if_neg (by omega), e, hd]
  show _ = _ + (0 : Rat) * 0
  grind
theorem shX_sz {r : Row} (ok : ROk r) {sp m : Int} (hm : 0 < m) (hm2 : m ≤ 200) (h0 : 0 ≤ sp) (h1 : sp ≤ 1000000000000000) : Sz2 60 8 (shX r sp m) := shQ_sz hm hm2 (by omega) h1 (fat_or ok)
theorem stv_sz {r : Row} (ok : ROk r) {x : Rat} (sx : Sz 700 x) : Sz 1620 (stv r x) := by
  obtain ⟨t, w, e, hw, bw, bt⟩ := stv_dv ok (den_ne x) sx.d (Rat.num_divInt_den x).symm (sx.n.mono (by decide))
  have hn : (x.den : Int) * x.den * w ≠ 0 := Int.mul_ne_zero (Int.mul_ne_zero (den_ne x) (den_ne x)) hw
  rw [e]
  exact ⟨Bd.le (bt.mono (by decide)) (num_le hn), Bd.le (((sx.d.mul sx.d).mul bw).mono (by decide)) (den_le hn)⟩
theorem left_sz {r : Row} (ok : ROk r) {sp m : Int} (hm : 0 < m) (hm2 : m ≤ 200) (h0 : 0 ≤ sp) (h1 : sp ≤ 1000000000000000) : Sz 8 (m : Rat) ∧ Sz 60 (shX r sp m) ∧ Sz 70 ((m : Rat) * shX r sp m) ∧ Sz 60 (sp : Rat) ∧ Sz 140 ((sp : Rat) - m * shX r sp m) ∧ Sz 1620 (stv r (shX r sp m)) ∧ Sz 1630 (m * stv r (shX r sp m)) := by
  have a : Sz 8 (m : Rat) := Sz.int (Bd.of 200 (by omega))
  have b : Sz 60 (shX r sp m) := (shX_sz ok hm hm2 h0 h1).sz (by decide) (by decide)
  have c : Sz 70 ((m : Rat) * shX r sp m) := (a.mul b).mono (by decide)
  have d : Sz 60 (sp : Rat) := Sz.int (Bd.of 1000000000000000 (by omega))
  have f : Sz 1620 (stv r (shX r sp m)) := stv_sz ok (b.mono (by decide))
  exact ⟨a, b, c, d, (d.sub c).mono (by decide), f, (a.mul f).mono (by decide)⟩
theorem shc_sz {r : Row} (ok : ROk r) {sp m : Int} (hm : 0 ≤ m) (hm2 : m ≤ 200) (h0 : 0 ≤ sp) (h1 : sp ≤ 1000000000000000) : Sz 2000 (shcQ r sp m) := by
  unfold shcQ
  by_cases h : m = 0
  · rw [if_pos h]
    have d : Bd 60 sp := Bd.of 1000000000000000 (by omega)
    exact (Sz.int (d.mul d)).mono (by decide)
  · rw [if_neg h]
    obtain ⟨_, _, _, _, e, _, g⟩ := left_sz ok (by omega) hm2 h0 h1
    exact (g.add (e.mul e)).mono (by decide)
/-- what a run costs -/
def cstO (r : Row) (so m room : Int) (last alone : Bool) : Option Rat :=
  if last = true ∧ so + m * r.b ≤ room then some 0
  else if so + m * leanI r.b r.l r.s ≤ room then some (shcQ r (room - so) m)
  else if alone = true then some ((10000000000000000000000000000000000000000 + (so + m * leanI r.b r.l r.s - room) * (so + m * leanI r.b r.l r.s - room) : Int) : Rat) else none

/-! ### ways: nodes, steps, prices -/
abbrev Nd := Int × Int
structure Wgr where
  st : Nd → List (Rat × Nd)
  fin : Nd → Bool
  rk : Nd → Int := fun n => n.1
def stD (s : Rat × Nd) : D := .tup [frq s.1, nD s.2]
def oqD : Option Rat → D
  | none => .non
  | some q => frq q
def bestO : Option Rat → Option Rat → Option Rat
  | b, none => b
  | none, some x => some x
  | some y, some x => if x < y then some x else some y
def leastP (l : List (Option Rat)) : Option Rat := l.foldl bestO none
def addO (c : Rat) (o : Option Rat) : Option Rat := o.map (c + ·)
def prF (g : Wgr) : Nat → Nd → Option Rat
  | 0, n => if g.fin n then some 0 else none
  | k + 1, n => if g.fin n then some 0 else leastP ((g.st n).map fun s => addO s.1 (prF g k s.2))
inductive Reach (g : Wgr) : Nd → Prop
  | z : Reach g (0, 0)
  | s {n : Nd} {s : Rat × Nd} : Reach g n → g.fin n = false → s ∈ g.st n → Reach g s.2
structure WgOk (g : Wgr) (U : List Nd) (M k : Nat) : Prop where
  u0 : (0, 0) ∈ U
  go : ∀ n ∈ U, g.fin n = false → ∀ s ∈ g.st n, s.2 ∈ U ∧ n.1 < s.2.1
  up : ∀ n ∈ U, g.fin n = false → ∀ s ∈ g.st n, g.rk n < g.rk s.2
  lo : ∀ n ∈ U, 0 ≤ g.rk n ∧ g.rk n ≤ M
  sz : ∀ n ∈ U, ∀ s ∈ g.st n, Sz2 2000 k s.1
  tot : (U.map fun n => (g.st n).length).sum ≤ 5000000
  ul : U.length ≤ 90000
  hk : (k + 1) * (M + 2) ≤ 3500
theorem Reach.inU {g : Wgr} {U : List Nd} {M k : Nat} (ok : WgOk g U M k) {n : Nd} (h : Reach g n) : n ∈ U := by
  induction h with
  | z => exact ok.u0
  | s _ h1 h2 ih => exact (ok.go _ ih h1 _ h2).1
/-! the least of some -/
theorem leastP_snoc (l : List (Option Rat)) (o : Option Rat) : leastP (l ++ [o]) = bestO (leastP l) o := by simp [leastP, List.foldl_append]
theorem leastP_or : ∀ (l : List (Option Rat)) (b : Option Rat), (∀ q, l.foldl bestO b = some q → some q ∈ l ∨ b = some q) ∧ (∀ x, (some x ∈ l ∨ b = some x) → ∃ q, l.foldl bestO b = some q ∧ q ≤ x)
  | [], b => ⟨fun q h => .inr h, fun x h => by
      rcases h with h | h
      · cases h
      · exact ⟨x, h, Rat.le_refl⟩⟩
  | o :: l, b => by
    obtain ⟨i1, i2⟩ := leastP_or l (bestO b o)
    rw [List.foldl_cons]
    refine ⟨fun q h => ?_, fun x h => ?_⟩
    · rcases i1 q h with h | h
      · exact .inl (List.mem_cons_of_mem _ h)
      · cases o with
        | none => cases b <;> exact .inr h
        | some y =>
          cases b with
          | none => exact .inl (by rw [show some y = some q from h]; exact List.mem_cons_self)
          | some z =>
            by_cases c : y < z
            · have : some y = some q := by simpa [bestO, c] using h
              exact .inl (by rw [this]; exact List.mem_cons_self)
            · have : some z = some q := by simpa [bestO, c] using h
              exact .inr this
    · have key : ∀ y, bestO b o = some y → y ≤ x → ∃ q, l.foldl bestO (bestO b o) = some q ∧ q ≤ x := fun y e hy => by
        obtain ⟨q, h1, h2⟩ := i2 y (.inr e)
        exact ⟨q, h1, Rat.le_trans h2 hy⟩
      rcases h with h | h
      · rcases List.mem_cons.mp h with h | h
        · cases o with
          | none => cases h
          | some y =>
            cases h
            cases b with
            | none => exact key x rfl Rat.le_refl
            | some z =>
              by_cases c : x < z
              · exact key x (by simp [bestO, c]) Rat.le_refl
              · exact key z (by simp [bestO, c]) (by grind)
        · exact i2 x (.inl h)
      · subst h
        cases o with
        | none => exact key x rfl Rat.le_refl
        | some y =>
          by_cases c : y < x
          · exact key y (by simp [bestO, c]) (by grind)
          · exact key x (by simp [bestO, c]) Rat.le_refl
theorem leastP_mem {l : List (Option Rat)} {q : Rat} (h : leastP l = some q) : some q ∈ l := by
  rcases (leastP_or l none).1 q h with h | h
  · exact h
  · cases h
theorem leastP_le {l : List (Option Rat)} {x : Rat} (h : some x ∈ l) : ∃ q, leastP l = some q ∧ q ≤ x := (leastP_or l none).2 x (.inl h)
section
variable {g : Wgr} {U : List Nd} {M k : Nat}
theorem prF_fuel (ok : WgOk g U M k) : ∀ (i j : Nat) {n : Nd}, n ∈ U → (M : Int) - g.rk n < i → (M : Int) - g.rk n < j → prF g i n = prF g j n
  | 0, j, n, hn, h1, h2 => by have := ok.lo n hn; omega
  | i + 1, 0, n, hn, h1, h2 => by have := ok.lo n hn; omega
  | i + 1, j + 1, n, hn, h1, h2 => by
    unfold prF
    by_cases hf : g.fin n = true
    · rw [if_pos hf, if_pos hf]
    · rw [if_neg hf, if_neg hf]
      congr 1
      apply List.map_congr_left
      intro s hs
      have := ok.go n hn (by simpa using hf) s hs
      have h5 := ok.up n hn (by simpa using hf) s hs
      rw [prF_fuel ok i j this.1 (by omega) (by omega)]
/-- the price of a node -/
def prc (g : Wgr) (M : Nat) (n : Nd) : Option Rat := prF g (M + 1) n
theorem prc_end {n : Nd} (h : g.fin n = true) : prc g M n = some 0 := by unfold prc prF; rw [if_pos h]
theorem prc_eq (ok : WgOk g U M k) {n : Nd} (hn : n ∈ U) (h : g.fin n = false) : prc g M n = leastP ((g.st n).map fun s => addO s.1 (prc g M s.2)) := by
  show prF g (M + 1) n = _
  unfold prF
  rw [if_neg (by simp [h])]
  congr 1
  apply List.map_congr_left
  intro s hs
  have h1 := ok.go n hn h s hs
  have h2 := ok.lo n hn
  have h3 := ok.up n hn h s hs
  show addO s.1 (prF g M s.2) = addO s.1 (prF g (M + 1) s.2)
  rw [prF_fuel ok M (M + 1) h1.1 (by omega) (by omega)]
theorem Sz2.zero {j k : Nat} (hj : 0 < j) (hk : 0 < k) : Sz2 j k 0 := ⟨Bd.of 0 (by simp) (Nat.two_pow_pos _), Bd.of 1 (by simp) (by
  have : 2 ^ 1 ≤ 2 ^ k := Nat.pow_le_pow_right (by decide) hk
  omega)⟩
theorem prF_sz (ok : WgOk g U M k) : ∀ (i : Nat) {n : Nd} {q : Rat}, n ∈ U → prF g i n = some q → Sz2 (2002 + (k + 1) * i) (k * i + 1) q
  | 0, n, q, hn, h => by
    unfold prF at h
    split at h
    · cases h; exact Sz2.zero (by omega) (by omega)
    · cases h
  | i + 1, n, q, hn, h => by
    unfold prF at h
    split at h
    · cases h; exact Sz2.zero (by omega) (by omega)
    · rename_i hf
      have hm := leastP_mem h
      obtain ⟨s, hs, e⟩ := List.mem_map.mp hm
      cases hp : prF g i s.2 with
      | none => rw [hp] at e; cases e
      | some p =>
        rw [hp] at e
        cases e
        have h1 := ok.go n hn (by simpa using hf) s hs
        have h2 := prF_sz ok i h1.1 hp
        have h3 := ok.sz n hn s hs
        have e1 : (k + 1) * (i + 1) = (k + 1) * i + k + 1 := by rw [Nat.mul_add]; omega
        have e2 : k * (i + 1) = k * i + k := by rw [Nat.mul_add]; omega
        have e3 : k * i ≤ (k + 1) * i := Nat.mul_le_mul_right _ (by omega)
        exact (h3.add h2 (2002 + (k + 1) * (i + 1)) (by omega) (by omega)).mono (Nat.le_refl _) (by omega)
theorem prc_sz (ok : WgOk g U M k) {n : Nd} {q : Rat} (hn : n ∈ U) (h : prc g M n = some q) : Sz2 6000 3600 q := by
  have h1 := prF_sz ok _ hn h
  have h2 := ok.hk
  have e3 : k * (M + 1) ≤ (k + 1) * (M + 1) := Nat.mul_le_mul_right _ (by omega)
  have e4 : (k + 1) * (M + 1) ≤ (k + 1) * (M + 2) := Nat.mul_le_mul_left _ (by omega)
  exact h1.mono (by omega) (by omega)
theorem WgOk.N_le (ok : WgOk g U M k) : M ≤ 3500 := by
  have h := ok.hk
  have : 1 * (M + 2) ≤ (k + 1) * (M + 2) := Nat.mul_le_mul_right _ (by omega)
  omega
theorem WgOk.k_le (ok : WgOk g U M k) : k ≤ 3500 := by
  have h := ok.hk
  have : (k + 1) * 1 ≤ (k + 1) * (M + 2) := Nat.mul_le_mul_left _ (by omega)
  omega
end
/-! tables by nodes -/
def tabN (f : Nd → D) (ns : List Nd) : List (List Key × D) := ns.map fun n => (ndK n, f n)
theorem ndK_inj {a b : Nd} (h : ndK a = ndK b) : a = b := by
  obtain ⟨a1, a2⟩ := a
  obtain ⟨b1, b2⟩ := b
  unfold ndK at h
  injection h with h1 h2
  injection h2 with h2 _
  cases h1
  cases h2
  rfl
theorem tab_get {f : Nd → D} {ns : List Nd} {n : Nd} : getP (tabN f ns) (ndK n) = if n ∈ ns then some (f n) else none := by
  induction ns with
  | nil => rfl
  | cons m ns ih =>
    unfold getP tabN at *
    rw [List.map_cons, List.find?_cons]
    by_cases e : m = n
    · subst e
      simp
    · have : ¬ ndK m = ndK n := fun h => e (ndK_inj h)
      simp only [this, decide_false, ih]
      by_cases hm : n ∈ ns
      · simp [hm]
      · simp [hm, Ne.symm e]
theorem tab_in {f : Nd → D} {ns : List Nd} {n : Nd} (h : n ∈ ns) : getP (tabN f ns) (ndK n) = some (f n) := by rw [tab_get, if_pos h]
theorem tab_any {f : Nd → D} {ns : List Nd} {n : Nd} (h : n ∉ ns) : ((tabN f ns).any fun kv => decide (kv.1 = ndK n)) = false := by
  unfold tabN
  rw [List.any_map, List.any_eq_false]
  intro m hm
  have : ¬ ndK m = ndK n := fun e => h (ndK_inj e ▸ hm)
  simp [Function.comp, this]
theorem tab_new {f : Nd → D} {ns : List Nd} {n : Nd} {d : D} (h : n ∉ ns) : putP (tabN f ns) (ndK n) d = tabN f ns ++ [(ndK n, d)] := by
  unfold putP
  rw [tab_any h]
  simp
theorem tab_again {f : Nd → D} {ns : List Nd} {n : Nd} {d d0 : D} (h : n ∉ ns) : putP (tabN f ns ++ [(ndK n, d0)]) (ndK n) d = tabN f ns ++ [(ndK n, d)] := by
  unfold putP
  rw [List.any_append, tab_any h]
  simp only [List.any_cons, decide_true, List.any_nil, Bool.or_false, Bool.false_or, if_true, List.map_append, List.map_cons, List.map_nil]
  congr 1
  unfold tabN
  rw [List.map_map]
  apply List.map_congr_left
  intro m hm
  have : ¬ ndK m = ndK n := fun e => h (ndK_inj e ▸ hm)
  simp [Function.comp, this]
theorem tab_snoc {f : Nd → D} {ns : List Nd} {n : Nd} : tabN f (ns ++ [n]) = tabN f ns ++ [(ndK n, f n)] := by unfold tabN; rw [List.map_append]; rfl
theorem tab_keys {f : Nd → D} {ns : List Nd} : (tabN f ns).map (·.1) = ns.map ndK := by unfold tabN; rw [List.map_map]; rfl
theorem tab_len {f : Nd → D} {ns : List Nd} : (tabN f ns).length = ns.length := by unfold tabN; rw [List.length_map]
/-! which nodes are reached -/
def fdD (g : Wgr) (n : Nd) : D := if g.fin n = true then .non else .lst ((g.st n).map stD)
structure StK (g : Wgr) (U ns wt : List Nd) : Prop where
  nd : ns.Nodup
  rn : ∀ n ∈ ns, Reach g n
  rw : ∀ n ∈ wt, Reach g n
  cl : ∀ n ∈ ns, g.fin n = false → ∀ s ∈ g.st n, s.2 ∈ ns ∨ s.2 ∈ wt
  z : (0, 0) ∈ ns ∨ (0, 0) ∈ wt
def restN (g : Wgr) (U ns : List Nd) : Nat := ((U.filter fun n => decide (n ∉ ns)).map fun n => (g.st n).length).sum
section
variable {g : Wgr} {U ns wt : List Nd} {M k : Nat} {n : Nd}
theorem StK.start : StK g U [] [(0, 0)] := ⟨List.nodup_nil, fun _ h => (nomatch h), fun n h => by rw [List.mem_singleton.mp h]; exact .z, fun _ h => (nomatch h), .inr List.mem_cons_self⟩
theorem StK.skip (h : StK g U ns (wt ++ [n])) (hn : n ∈ ns) : StK g U ns wt := ⟨h.nd, h.rn, fun m hm => h.rw m (List.mem_append_left _ hm), fun m hm hf s hs => by
  rcases h.cl m hm hf s hs with q | q
  · exact .inl q
  · rcases List.mem_append.mp q with q | q
    · exact .inr q
    · exact .inl (List.mem_singleton.mp q ▸ hn), by
  rcases h.z with q | q
  · exact .inl q
  · rcases List.mem_append.mp q with q | q
    · exact .inr q
    · exact .inl (List.mem_singleton.mp q ▸ hn)⟩
theorem StK.more {es : List Nd} (h : StK g U ns (wt ++ [n])) (hn : n ∉ ns) (he : ∀ m ∈ es, Reach g m) (hc : g.fin n = false → ∀ s ∈ g.st n, s.2 ∈ es) : StK g U (ns ++ [n]) (wt ++ es) := ⟨List.nodup_append.mpr ⟨h.nd, by simp, fun a ha b hb e => hn (by rw [List.mem_singleton.mp hb] at e; exact e ▸ ha)⟩, fun m hm => by
  rcases List.mem_append.mp hm with hm | hm
  · exact h.rn m hm
  · rw [List.mem_singleton.mp hm]; exact h.rw n (List.mem_append_right _ List.mem_cons_self), fun m hm => by
  rcases List.mem_append.mp hm with hm | hm
  · exact h.rw m (List.mem_append_left _ hm)
  · exact he m hm, fun m hm hf s hs => by
  rcases List.mem_append.mp hm with hm | hm
  · rcases h.cl m hm hf s hs with q | q
    · exact .inl (List.mem_append_left _ q)
    · rcases List.mem_append.mp q with q | q
      · exact .inr (List.mem_append_left _ q)
      · exact .inl (List.mem_append_right _ q)
  · rw [List.mem_singleton.mp hm] at hf hs
    exact .inr (List.mem_append_right _ (hc hf s hs)), by
  rcases h.z with q | q
  · exact .inl (List.mem_append_left _ q)
  · rcases List.mem_append.mp q with q | q
    · exact .inr (List.mem_append_left _ q)
    · exact .inl (List.mem_append_right _ q)⟩
theorem StK.all (h : StK g U ns []) : ∀ n, n ∈ ns ↔ Reach g n := fun n => ⟨h.rn n, fun r => by
  induction r with
  | z => exact h.z.resolve_right fun q => nomatch q
  | s _ h1 h2 ih => exact (h.cl _ ih h1 _ h2).resolve_right fun q => nomatch q⟩
theorem rest_all : restN g U [] = (U.map fun n => (g.st n).length).sum := by
  unfold restN
  congr 2
  rw [List.filter_eq_self]
  intro n _
  simp
theorem rest_less (hu : n ∈ U) (hn : n ∉ ns) : restN g U (ns ++ [n]) + (g.st n).length ≤ restN g U ns := by
  unfold restN
  induction U with
  | nil => cases hu
  | cons m U ih =>
    have mono : ∀ V : List Nd, ((V.filter fun x => decide (x ∉ ns ++ [n])).map fun x => (g.st x).length).sum ≤ ((V.filter fun x => decide (x ∉ ns)).map fun x => (g.st x).length).sum := fun V => by
      induction V with
      | nil => simp
      | cons y V ihV =>
        rw [List.filter_cons, List.filter_cons]
        by_cases h1 : y ∈ ns
        · simp [h1] at ihV ⊢; exact ihV
        · by_cases h2 : y = n
          · subst h2; simp [h1] at ihV ⊢; omega
          · simp [h1, h2] at ihV ⊢; exact ihV
    by_cases e : m = n
    · subst e
      have := mono U
      rw [List.filter_cons, List.filter_cons]
      simp [hn] at this ⊢
      omega
    · have hu' : n ∈ U := (List.mem_cons.mp hu).resolve_left fun z => e z.symm
      have := ih hu'
      rw [List.filter_cons, List.filter_cons]
      by_cases h1 : m ∈ ns
      · simp [h1] at this ⊢; exact this
      · simp [h1, e] at this ⊢; omega
theorem len_sub : ∀ {l m : List Nd}, l.Nodup → (∀ x ∈ l, x ∈ m) → l.length ≤ m.length
  | [], _, _, _ => Nat.zero_le _
  | x :: l, m, h, hs => by
    have h1 := List.nodup_cons.mp h
    have h2 := len_sub (l := l) (m := m.erase x) h1.2 fun y hy => (List.mem_erase_of_ne fun e => h1.1 (by rw [← e]; exact hy)).mpr (hs y (List.mem_cons_of_mem _ hy))
    have h3 := List.length_erase_of_mem (hs x List.mem_cons_self)
    have h4 := List.length_pos_of_mem (hs x List.mem_cons_self)
    rw [List.length_cons]
    omega
theorem StK.len (ok : WgOk g U M k) (h : StK g U ns wt) : ns.length ≤ 90000 := by
  have : ns.length ≤ U.length := len_sub h.nd fun n hn => (h.rn n hn).inU ok
  have := ok.ul
  omega
end
/-! the cheapest way -/
def nxtN (g : Wgr) (pr : Nd → Option Rat) (n : Nd) : Option Nd := ((g.st n).find? fun s => decide (addO s.1 (pr s.2) = pr n)).map (·.2)
def pathF (g : Wgr) (pr : Nd → Option Rat) : Nat → Nd → List Nd
  | 0, n => [n]
  | i + 1, n => if g.fin n = true then [n] else match nxtN g pr n with
    | none => [n]
    | some m => n :: pathF g pr i m
theorem nxt_some {g : Wgr} {U : List Nd} {M k : Nat} (ok : WgOk g U M k) {n : Nd} {q : Rat} (hn : n ∈ U) (hf : g.fin n = false) (h : prc g M n = some q) : ∃ s ∈ g.st n, nxtN g (prc g M) n = some s.2 ∧ addO s.1 (prc g M s.2) = some q := by
  have h1 := prc_eq ok hn hf
  rw [h] at h1
  obtain ⟨s0, hs0, e0⟩ := List.mem_map.mp (leastP_mem h1.symm)
  cases hfd : (g.st n).find? (fun s => decide (addO s.1 (prc g M s.2) = prc g M n)) with
  | none =>
    have := List.find?_eq_none.mp hfd s0 hs0
    simp [h, e0] at this
  | some s =>
    have h2 := List.find?_some hfd
    have h3 := List.mem_of_find?_eq_some hfd
    refine ⟨s, h3, by unfold nxtN; rw [hfd]; rfl, ?_⟩
    have := of_decide_eq_true h2
    rw [this, h]
theorem pathF_head (g : Wgr) (pr : Nd → Option Rat) : ∀ (i : Nat) (n : Nd), ∃ t, pathF g pr i n = n :: t
  | 0, n => ⟨[], rfl⟩
  | i + 1, n => by
    unfold pathF
    split
    · exact ⟨[], rfl⟩
    · split
      · exact ⟨[], rfl⟩
      · exact ⟨_, rfl⟩
theorem pathF_end {g : Wgr} {pr : Nd → Option Rat} {i : Nat} {n : Nd} (h : g.fin n = true) : pathF g pr i n = [n] := by
  cases i with
  | zero => rfl
  | succ i => unfold pathF; rw [if_pos h]
theorem pathF_step {g : Wgr} {pr : Nd → Option Rat} {i : Nat} {n m : Nd} (h : g.fin n = false) (hm : nxtN g pr n = some m) : pathF g pr (i + 1) n = n :: pathF g pr i m := by
  rw [pathF, if_neg (by rw [h]; simp), hm]
/-- the nodes of the cheapest way -/
def wayN (g : Wgr) (N : Nat) : List Nd := pathF g (prc g N) (N + 1) (0, 0)

/-! ### lines as ways -/
theorem shc_sz2 {r : Row} (ok : ROk r) {sp m : Int} (hm : 0 ≤ m) (hm2 : m ≤ 200) (hl : m * leanI r.b r.l r.s ≤ sp) (h0 : 0 ≤ sp) (h1 : sp ≤ 1000000000000000) : Sz2 2000 18 (shcQ r sp m) := by
  by_cases h : m = 0
  · unfold shcQ
    rw [if_pos h]
    have d : Bd 60 sp := Bd.of 1000000000000000 (by omega)
    refine ⟨(d.mul d).mono (by decide), bd1⟩
  · have hm0 : 0 < m := by omega
    have w0 := ok.w0; have w1 := ok.w1; have s0 := ok.s0; have s1 := ok.s1
    have b0 := ok.l0; have b1 := ok.lb; have b2 := ok.bm
    have wt : ∀ gap, 0 < wtI r gap ∧ wtI r gap ≤ 1000 := fun gap => ⟨wt_pos r gap, by unfold wtI; split <;> split <;> omega⟩
    have key : ∀ gap left : Int, -1000000000000000 ≤ gap → gap ≤ 1000000000000000 → -1000000000000000 ≤ left → left ≤ 1000000000000000 → Sz2 2000 18 (Rat.divInt (gap * gap + left * left * m * wtI r gap) (m * wtI r gap)) := fun gap left g0 g1 l0 l1 => by
      obtain ⟨t0, t1⟩ := wt gap
      have e1 : Bd 50 gap := Bd.of 1000000000000000 (by omega)
      have e2 : Bd 50 left := Bd.of 1000000000000000 (by omega)
      have e3 : Bd 8 m := Bd.of 200 (by omega)
      have e4 : Bd 10 (wtI r gap) := Bd.of 1000 (by omega)
      have ne : m * wtI r gap ≠ 0 := Int.mul_ne_zero (by omega) (by omega)
      exact ⟨Bd.le ((((e1.mul e1).mono (by decide)).add (((e2.mul e2).mul e3).mul e4)).mono (by decide)) (num_le ne), Bd.le ((e3.mul e4).mono (by decide)) (den_le ne)⟩
    cases hf : (if 0 < r.w then r.g else some r.b) with
    | none =>
      have m0 : 0 ≤ m * r.b := Int.mul_nonneg hm (by omega)
      have m1 : m * r.b ≤ 200 * 1000000000000 := Int.mul_le_mul hm2 b2 (by omega) (by decide)
      rw [shc_even ok hm0 hl fun f e => by rw [hf] at e; cases e]
      exact key _ 0 (by omega) (by omega) (by decide) (by decide)
    | some f =>
      have hfb : r.b ≤ f := hi_b ok hf
      have hf1 : f ≤ 1000000000000 := by
        by_cases hw : 0 < r.w
        · rw [if_pos hw] at hf
          exact (ok.g0 hf).2
        · rw [if_neg hw] at hf
          cases hf
          exact b2
      have m0 : 0 ≤ m * r.b := Int.mul_nonneg hm (by omega)
      have m1 : m * r.b ≤ 200 * 1000000000000 := Int.mul_le_mul hm2 b2 (by omega) (by decide)
      have m2 : 0 ≤ m * f := Int.mul_nonneg hm (by omega)
      have m3 : m * f ≤ 200 * 1000000000000 := Int.mul_le_mul hm2 hf1 (by omega) (by decide)
      by_cases hc : m * f < sp
      · rw [shc_fat ok hm0 hl hf hc]
        have m4 : m * (f - r.b) = m * f - m * r.b := Int.mul_sub ..
        rw [m4]
        exact key _ _ (by omega) (by omega) (by omega) (by omega)
      · rw [shc_even ok hm0 hl fun f' e => by rw [hf] at e; cases e; omega]
        exact key _ 0 (by omega) (by omega) (by decide) (by decide)
theorem cst_sz2 {r : Row} (ok : ROk r) {so m room : Int} {la al : Bool} (s0 : 0 ≤ so) (s1 : so ≤ 1000000000000000) (m0 : 0 ≤ m) (m1 : m ≤ 200) (r0 : 0 ≤ room) (r1 : room ≤ 1000000000000) {p : Rat} (h : cstO r so m room la al = some p) : Sz2 2000 18 p := by
  obtain ⟨l0, l1⟩ := lean_bd ok
  have p0 : 0 ≤ m * leanI r.b r.l r.s := Int.mul_nonneg m0 l0
  have p1 : m * leanI r.b r.l r.s ≤ 200 * 1000000000000 := Int.mul_le_mul m1 l1 l0 (by decide)
  unfold cstO at h
  split at h
  · cases h
    exact Sz2.zero (by decide) (by decide)
  split at h
  · cases h
    exact shc_sz2 ok m0 m1 (by omega) (by omega) (by omega)
  split at h
  · cases h
    have g : Bd 60 (so + m * leanI r.b r.l r.s - room) := Bd.of 10000000000000000 (by omega)
    have h0 : Bd 140 (10000000000000000000000000000000000000000 : Int) := Bd.of 10000000000000000000000000000000000000000 (by decide)
    exact ⟨(h0.add ((g.mul g).mono (by decide))).mono (by decide), bd1⟩
  · cases h
/-- some steps, up to the first that is none -/
def upS (f : Nat → Option Rat) (mk : Nat → Nd) : Nat → Nat → List (Rat × Nd)
  | _, 0 => []
  | i, j + 1 => match f i with
    | none => []
    | some c => (c, mk i) :: upS f mk (i + 1) j
theorem upS_mem {f : Nat → Option Rat} {mk : Nat → Nd} : ∀ {j i : Nat} {s : Rat × Nd}, s ∈ upS f mk i j → ∃ t, i ≤ t ∧ t < i + j ∧ f t = some s.1 ∧ s.2 = mk t
  | 0, i, s, h => nomatch h
  | j + 1, i, s, h => by
    unfold upS at h
    cases hf : f i with
    | none => rw [hf] at h; cases h
    | some c =>
      rw [hf] at h
      rcases List.mem_cons.mp h with rfl | h
      · exact ⟨i, Nat.le_refl _, by omega, hf, rfl⟩
      · obtain ⟨t, h1, h2, h3, h4⟩ := upS_mem h
        exact ⟨t, by omega, by omega, h3, h4⟩
theorem upS_len {f : Nat → Option Rat} {mk : Nat → Nd} : ∀ (j i : Nat), (upS f mk i j).length ≤ j
  | 0, _ => Nat.le_refl _
  | j + 1, i => by
    unfold upS
    cases f i with
    | none => exact Nat.zero_le _
    | some c => exact Nat.succ_le_succ (upS_len j (i + 1))
theorem upS_some {f : Nat → Option Rat} {mk : Nat → Nd} {i j : Nat} {c : Rat} (h : f i = some c) : upS f mk i (j + 1) = (c, mk i) :: upS f mk (i + 1) j := by rw [upS, h]
theorem upS_none {f : Nat → Option Rat} {mk : Nat → Nd} {i j : Nat} (h : f i = none) : upS f mk i (j + 1) = [] := by rw [upS, h]
/-- the room of a line -/
def lnRm (rooms : List Int) (rest c : Int) : Int := if c < rooms.length then rooms.getD c.toNat 0 else rest
def lnC (ws : List Int) (r : Row) (room : Int) (b i : Nat) : Option Rat := cstO r ((ws.drop b).take (i + 1)).sum i room (b + i + 1 == ws.length) (i == 0)
def lnMk (L : Nat) (n : Nd) (i : Nat) : Nd := (n.1 + (i : Int) + 1, if n.2 + 1 < L then n.2 + 1 else L)
def lnG (ws : List Int) (r : Row) (rooms : List Int) (rest : Int) : Wgr where
  st := fun n => (upS (lnC ws r (lnRm rooms rest n.2) n.1.toNat) (lnMk rooms.length n) 0 (ws.length - n.1.toNat)).reverse
  fin := fun n => n.1 == (ws.length : Int)
def lnU (m L : Nat) : List Nd := (List.range (m + 1)).flatMap fun b : Nat => (List.range (L + 1)).map fun c : Nat => (((b : Nat) : Int), ((c : Nat) : Int))
theorem mem_lnU {m L : Nat} {n : Nd} : n ∈ lnU m L ↔ 0 ≤ n.1 ∧ n.1 ≤ m ∧ 0 ≤ n.2 ∧ n.2 ≤ L := by
  unfold lnU
  rw [List.mem_flatMap]
  constructor
  · rintro ⟨b, hb, h⟩
    obtain ⟨c, hc, rfl⟩ := List.mem_map.mp h
    have := List.mem_range.mp hb
    have := List.mem_range.mp hc
    simp only
    omega
  · rintro ⟨h1, h2, h3, h4⟩
    refine ⟨n.1.toNat, List.mem_range.mpr (by omega), List.mem_map.mpr ⟨n.2.toNat, List.mem_range.mpr (by omega), ?_⟩⟩
    ext <;> simp <;> omega
theorem lnU_len (m L : Nat) : (lnU m L).length = (m + 1) * (L + 1) := by
  unfold lnU
  generalize m + 1 = a
  induction a with
  | zero => simp
  | succ a ih =>
    rw [show List.range (a + 1) = List.range a ++ [a] from List.range_succ, List.flatMap_append, List.length_append, ih, Nat.add_mul]
    simp
structure LnOk (ws : List Int) (r : Row) (rooms : List Int) (rest : Int) : Prop where
  ok : ROk r
  w1 : 1 ≤ ws.length
  w60 : ws.length ≤ 60
  wb : ∀ w ∈ ws, 1 ≤ w ∧ w ≤ 1000000
  l60 : rooms.length ≤ 60
  rb : ∀ x ∈ rooms, 0 ≤ x ∧ x ≤ 1000000000000
  r0 : 0 ≤ rest
  r1 : rest ≤ 1000000000000
theorem sum_bound {l : List Int} {m : Int} (h : ∀ x ∈ l, 0 ≤ x ∧ x ≤ m) : 0 ≤ l.sum ∧ l.sum ≤ (l.length : Int) * m := by
  induction l with
  | nil => simp
  | cons y ys ih =>
    have h1 := h y List.mem_cons_self
    have h2 := ih fun z hz => h z (List.mem_cons_of_mem _ hz)
    rw [List.sum_cons, List.length_cons, Int.natCast_add, Int.add_mul]
    omega
section
variable {ws : List Int} {r : Row} {rooms : List Int} {rest : Int}
theorem LnOk.sum (h : LnOk ws r rooms rest) (b i : Nat) : 0 ≤ ((ws.drop b).take i).sum ∧ ((ws.drop b).take i).sum ≤ 60000000 := by
  have h1 := sum_bound (l := (ws.drop b).take i) (m := 1000000) fun x hx => by
    have := h.wb x (List.mem_of_mem_drop (List.mem_of_mem_take hx))
    omega
  have h2 : ((ws.drop b).take i).length ≤ 60 := by
    have := h.w60
    rw [List.length_take, List.length_drop]
    omega
  omega
theorem LnOk.rm (h : LnOk ws r rooms rest) {c : Int} (c0 : 0 ≤ c) : 0 ≤ lnRm rooms rest c ∧ lnRm rooms rest c ≤ 1000000000000 := by
  unfold lnRm
  split
  · have hl : c.toNat < rooms.length := by omega
    rw [List.getD_eq_getElem?_getD, List.getElem?_eq_getElem hl]
    exact h.rb _ (List.getElem_mem hl)
  · exact ⟨h.r0, h.r1⟩
theorem ln_ok (h : LnOk ws r rooms rest) : WgOk (lnG ws r rooms rest) (lnU ws.length rooms.length) ws.length 18 where
  u0 := mem_lnU.mpr ⟨by simp, by simp, by simp, by simp⟩
  go := fun n hn hf s hs => by
    have h1 := mem_lnU.mp hn
    have hf' : n.1 ≠ ws.length := by simpa [lnG] using hf
    obtain ⟨t, _, h3, _, e⟩ := upS_mem (List.mem_reverse.mp hs)
    rw [e]
    refine ⟨mem_lnU.mpr ?_, ?_⟩
    · unfold lnMk
      simp only
      refine ⟨by omega, by omega, ?_, ?_⟩ <;> split <;> omega
    · unfold lnMk
      simp only
      omega
  up := fun n hn hf s hs => by
    obtain ⟨t, _, h3, _, e⟩ := upS_mem (List.mem_reverse.mp hs)
    rw [e]
    show n.1 < n.1 + (t : Int) + 1
    omega
  lo := fun n hn => show 0 ≤ n.1 ∧ n.1 ≤ (ws.length : Int) by have := mem_lnU.mp hn; omega
  sz := fun n hn s hs => by
    have h1 := mem_lnU.mp hn
    obtain ⟨t, _, h3, e, _⟩ := upS_mem (List.mem_reverse.mp hs)
    have h4 := h.sum n.1.toNat (t + 1)
    have h5 := h.rm h1.2.2.1
    have h6 := h.w60
    exact cst_sz2 h.ok h4.1 (by omega) (by omega) (by omega) h5.1 h5.2 e
  tot := by
    have h1 : ((lnU ws.length rooms.length).map fun n => ((lnG ws r rooms rest).st n).length).sum ≤ (lnU ws.length rooms.length).length * 60 := by
      generalize lnU ws.length rooms.length = l
      induction l with
      | nil => simp
      | cons n l ih =>
        have : ((lnG ws r rooms rest).st n).length ≤ 60 := by
          show (upS _ _ 0 _).reverse.length ≤ 60
          rw [List.length_reverse]
          have := upS_len (f := lnC ws r (lnRm rooms rest n.2) n.1.toNat) (mk := lnMk rooms.length n) (ws.length - n.1.toNat) 0
          have := h.w60
          omega
        rw [List.map_cons, List.sum_cons, List.length_cons, Nat.add_mul]
        omega
    have h2 : (lnU ws.length rooms.length).length ≤ 61 * 61 := by
      rw [lnU_len]
      exact Nat.mul_le_mul (by have := h.w60; omega) (by have := h.l60; omega)
    omega
  ul := by
    rw [lnU_len]
    have : (ws.length + 1) * (rooms.length + 1) ≤ 61 * 61 := Nat.mul_le_mul (by have := h.w60; omega) (by have := h.l60; omega)
    omega
  hk := by
    have : (18 + 1) * (ws.length + 2) ≤ (18 + 1) * 62 := Nat.mul_le_mul_left _ (by have := h.w60; omega)
    omega
end
abbrev lnO (C CP : Addr) (ws : List Int) (r : Row) (rooms : List Int) (rest : Int) : D := .obj C [("widths", .lst (ws.map D.int)), ("blank", prtR CP r), ("rooms", .lst (rooms.map D.int)), ("rest", .int rest)]

/-! ### lines: always a way; the words behind a node by themselves -/
def shN (b c : Nat) (n : Nd) : Nd := (n.1 + (b : Int), n.2 + (c : Int))
section
variable {ws : List Int} {r : Row} {rooms : List Int} {rest : Int}
theorem lnC_alone {room : Int} {b : Nat} : ∃ q, lnC ws r room b 0 = some q := by
  unfold lnC cstO
  split
  · exact ⟨_, rfl⟩
  · split
    · exact ⟨_, rfl⟩
    · exact ⟨_, if_pos rfl⟩
/-- the word alone -/
theorem ln_first {n : Nd} (hn : n ∈ lnU ws.length rooms.length) (hf : (lnG ws r rooms rest).fin n = false) : ∃ q, (q, lnMk rooms.length n 0) ∈ (lnG ws r rooms rest).st n := by
  have h1 := mem_lnU.mp hn
  have hf' : n.1 ≠ ws.length := by simpa [lnG] using hf
  obtain ⟨q, hq⟩ := lnC_alone (ws := ws) (r := r) (room := lnRm rooms rest n.2) (b := n.1.toNat)
  obtain ⟨j, hj⟩ : ∃ j, ws.length - n.1.toNat = j + 1 := ⟨ws.length - n.1.toNat - 1, by omega⟩
  refine ⟨q, List.mem_reverse.mpr ?_⟩
  rw [hj, upS_some hq]
  exact List.mem_cons_self
theorem ln_some (ok : LnOk ws r rooms rest) : ∀ (i : Nat) {n : Nd}, n ∈ lnU ws.length rooms.length → (ws.length : Int) - n.1 ≤ i → ∃ q, prF (lnG ws r rooms rest) i n = some q
  | 0, n, hn, h => by
    have h1 := mem_lnU.mp hn
    have : (lnG ws r rooms rest).fin n = true := by simp [lnG]; omega
    exact ⟨0, by unfold prF; rw [if_pos this]⟩
  | i + 1, n, hn, h => by
    unfold prF
    cases hf : (lnG ws r rooms rest).fin n with
    | true => exact ⟨0, by simp⟩
    | false =>
      obtain ⟨q, hq⟩ := ln_first hn hf
      have h2 := (ln_ok ok).go n hn hf _ hq
      obtain ⟨p, hp⟩ := ln_some ok i h2.1 (by have := h2.2; simp only at this; omega)
      have hm : some (q + p) ∈ ((lnG ws r rooms rest).st n).map fun s => addO s.1 (prF (lnG ws r rooms rest) i s.2) := List.mem_map.mpr ⟨_, hq, by rw [hp]; rfl⟩
      obtain ⟨x, hx, _⟩ := leastP_le hm
      exact ⟨x, by simpa using hx⟩
theorem ln_prc (ok : LnOk ws r rooms rest) {n : Nd} (hn : n ∈ lnU ws.length rooms.length) : ∃ q, prc (lnG ws r rooms rest) ws.length n = some q := ln_some ok _ hn (by have := mem_lnU.mp hn; omega)
theorem upS_map {f : Nat → Option Rat} {mk mk' : Nat → Nd} {h : Nd → Nd} (e : ∀ i, mk' i = h (mk i)) : ∀ (j i : Nat), upS f mk' i j = (upS f mk i j).map fun s => (s.1, h s.2)
  | 0, _ => rfl
  | j + 1, i => by
    unfold upS
    cases f i with
    | none => rfl
    | some c => rw [upS_map e j (i + 1), e]; rfl
theorem LnOk.drop (ok : LnOk ws r rooms rest) {b c : Nat} (hb : b < ws.length) : LnOk (ws.drop b) r (rooms.drop c) rest := ⟨ok.ok, by rw [List.length_drop]; omega, by rw [List.length_drop]; have := ok.w60; omega, fun w hw => ok.wb w (List.mem_of_mem_drop hw), by rw [List.length_drop]; have := ok.l60; omega, fun w hw => ok.rb w (List.mem_of_mem_drop hw), ok.r0, ok.r1⟩
theorem lnRm_sh {b : Int} {c : Nat} (hc : c ≤ rooms.length) (b0 : 0 ≤ b) : lnRm rooms rest (b + c) = lnRm (rooms.drop c) rest b := by
  unfold lnRm
  rw [List.length_drop]
  by_cases h : b + (c : Int) < rooms.length
  · rw [if_pos h, if_pos (by omega), List.getD_eq_getElem?_getD, List.getD_eq_getElem?_getD, List.getElem?_drop, show (b + (c : Int)).toNat = c + b.toNat by omega]
  · rw [if_neg h, if_neg (by omega)]
theorem st_sh {b c : Nat} (hb : b ≤ ws.length) (hc : c ≤ rooms.length) {n : Nd} (hn : n ∈ lnU (ws.length - b) (rooms.length - c)) : (lnG ws r rooms rest).st (shN b c n) = ((lnG (ws.drop b) r (rooms.drop c) rest).st n).map fun s => (s.1, shN b c s.2) := by
  have h1 := mem_lnU.mp hn
  show (upS (lnC ws r (lnRm rooms rest (n.2 + (c : Int))) (n.1 + (b : Int)).toNat) (lnMk rooms.length (shN b c n)) 0 (ws.length - (n.1 + (b : Int)).toNat)).reverse = ((upS (lnC (ws.drop b) r (lnRm (rooms.drop c) rest n.2) n.1.toNat) (lnMk (rooms.drop c).length n) 0 ((ws.drop b).length - n.1.toNat)).reverse).map _
  rw [List.map_reverse, ← upS_map (mk' := lnMk rooms.length (shN b c n)) (fun i => ?_), lnRm_sh hc h1.2.2.1, List.length_drop, show (n.1 + (b : Int)).toNat = b + n.1.toNat by omega, show ws.length - (b + n.1.toNat) = ws.length - b - n.1.toNat by omega]
  · have e : lnC ws r (lnRm (rooms.drop c) rest n.2) (b + n.1.toNat) = lnC (ws.drop b) r (lnRm (rooms.drop c) rest n.2) n.1.toNat := by
      funext i
      unfold lnC
      rw [List.drop_drop, List.length_drop]
      congr 1
      rw [Bool.eq_iff_iff, beq_iff_eq, beq_iff_eq]
      omega
    rw [e]
  · unfold lnMk shN
    rw [List.length_drop]
    simp only
    refine Prod.ext ?_ ?_
    · simp only; omega
    · simp only; split <;> split <;> omega
theorem fin_sh {b c : Nat} (hb : b ≤ ws.length) {n : Nd} : (lnG ws r rooms rest).fin (shN b c n) = (lnG (ws.drop b) r (rooms.drop c) rest).fin n := by
  show (n.1 + (b : Int) == (ws.length : Int)) = (n.1 == ((ws.drop b).length : Int))
  rw [List.length_drop, Bool.eq_iff_iff, beq_iff_eq, beq_iff_eq]
  omega
theorem prF_sh (ok : LnOk ws r rooms rest) {b c : Nat} (hb : b < ws.length) (hc : c ≤ rooms.length) : ∀ (i : Nat) {n : Nd}, n ∈ lnU (ws.length - b) (rooms.length - c) → prF (lnG ws r rooms rest) i (shN b c n) = prF (lnG (ws.drop b) r (rooms.drop c) rest) i n
  | 0, n, hn => by unfold prF; rw [fin_sh (by omega)]
  | i + 1, n, hn => by
    unfold prF
    rw [fin_sh (by omega)]
    cases hf : (lnG (ws.drop b) r (rooms.drop c) rest).fin n with
    | true => rfl
    | false =>
      rw [if_neg (by simp), if_neg (by simp), st_sh (by omega) hc hn, List.map_map]
      congr 1
      apply List.map_congr_left
      intro s hs
      have hn' : n ∈ lnU (ws.drop b).length (rooms.drop c).length := by rw [List.length_drop, List.length_drop]; exact hn
      have := ((ln_ok (ok.drop (c := c) hb)).go n hn' hf s hs).1
      rw [List.length_drop, List.length_drop] at this
      show addO s.1 (prF _ i (shN b c s.2)) = _
      rw [prF_sh ok hb hc i this]
theorem shU {b c : Nat} (hb : b ≤ ws.length) (hc : c ≤ rooms.length) {n : Nd} (hn : n ∈ lnU (ws.length - b) (rooms.length - c)) : shN b c n ∈ lnU ws.length rooms.length := by
  have h1 := mem_lnU.mp hn
  refine mem_lnU.mpr ?_
  unfold shN
  simp only
  omega
/-- the price of a node is that of the words behind it by themselves -/
theorem prc_sh (ok : LnOk ws r rooms rest) {b c : Nat} (hb : b < ws.length) (hc : c ≤ rooms.length) {n : Nd} (hn : n ∈ lnU (ws.length - b) (rooms.length - c)) : prc (lnG ws r rooms rest) ws.length (shN b c n) = prc (lnG (ws.drop b) r (rooms.drop c) rest) (ws.drop b).length n := by
  have h1 := mem_lnU.mp hn
  unfold prc
  rw [← prF_sh ok hb hc _ hn, List.length_drop]
  refine prF_fuel (ln_ok ok) _ _ (shU (by omega) hc hn) ?_ ?_ <;> show (ws.length : Int) - (n.1 + (b : Int)) < _ <;> omega
theorem nxt_sh (ok : LnOk ws r rooms rest) {b c : Nat} (hb : b < ws.length) (hc : c ≤ rooms.length) {n : Nd} (hn : n ∈ lnU (ws.length - b) (rooms.length - c)) (hf : (lnG (ws.drop b) r (rooms.drop c) rest).fin n = false) : nxtN (lnG ws r rooms rest) (prc (lnG ws r rooms rest) ws.length) (shN b c n) = (nxtN (lnG (ws.drop b) r (rooms.drop c) rest) (prc (lnG (ws.drop b) r (rooms.drop c) rest) (ws.drop b).length) n).map (shN b c) := by
  have hn' : n ∈ lnU (ws.drop b).length (rooms.drop c).length := by rw [List.length_drop, List.length_drop]; exact hn
  unfold nxtN
  rw [st_sh (by omega) hc hn, List.find?_map, prc_sh ok hb hc hn]
  have key : ∀ l : List (Rat × Nd), (∀ s ∈ l, s.2 ∈ lnU (ws.length - b) (rooms.length - c)) → l.find? ((fun s : Rat × Nd => decide (addO s.1 (prc (lnG ws r rooms rest) ws.length s.2) = prc (lnG (ws.drop b) r (rooms.drop c) rest) (ws.drop b).length n)) ∘ fun s => (s.1, shN b c s.2)) = l.find? fun s => decide (addO s.1 (prc (lnG (ws.drop b) r (rooms.drop c) rest) (ws.drop b).length s.2) = prc (lnG (ws.drop b) r (rooms.drop c) rest) (ws.drop b).length n) := fun l => by
    induction l with
    | nil => exact fun _ => rfl
    | cons s l ih =>
      intro hl
      rw [List.find?_cons, List.find?_cons, ih fun t ht => hl t (List.mem_cons_of_mem _ ht)]
      simp only [Function.comp]
      rw [prc_sh ok hb hc (hl s List.mem_cons_self)]
  rw [key _ fun s hs => by
    have := ((ln_ok (ok.drop (c := c) hb)).go n hn' hf s hs).1
    rw [List.length_drop, List.length_drop] at this
    exact this]
  cases List.find? _ ((lnG (ws.drop b) r (rooms.drop c) rest).st n) <;> rfl
theorem path_sh (ok : LnOk ws r rooms rest) {b c : Nat} (hb : b < ws.length) (hc : c ≤ rooms.length) : ∀ (i : Nat) {n : Nd}, n ∈ lnU (ws.length - b) (rooms.length - c) → pathF (lnG ws r rooms rest) (prc (lnG ws r rooms rest) ws.length) i (shN b c n) = (pathF (lnG (ws.drop b) r (rooms.drop c) rest) (prc (lnG (ws.drop b) r (rooms.drop c) rest) (ws.drop b).length) i n).map (shN b c)
  | 0, n, hn => rfl
  | i + 1, n, hn => by
    have hn' : n ∈ lnU (ws.drop b).length (rooms.drop c).length := by rw [List.length_drop, List.length_drop]; exact hn
    cases hf : (lnG (ws.drop b) r (rooms.drop c) rest).fin n with
    | true => rw [pathF_end hf, pathF_end (by rw [fin_sh (by omega)]; exact hf)]; rfl
    | false =>
      have hnx := nxt_sh ok hb hc hn hf
      obtain ⟨q, hq⟩ := ln_prc (ok.drop (c := c) hb) hn'
      obtain ⟨s, hs, e1, _⟩ := nxt_some (ln_ok (ok.drop (c := c) hb)) hn' hf hq
      rw [e1] at hnx
      have h2 := ((ln_ok (ok.drop (c := c) hb)).go n hn' hf s hs).1
      rw [List.length_drop, List.length_drop] at h2
      rw [pathF_step hf e1, pathF_step (by rw [fin_sh (by omega)]; exact hf) hnx, List.map_cons, path_sh ok hb hc i h2]
/-- a path that is long enough comes to an end, one line a node -/
theorem path_at (ok : LnOk ws r rooms rest) : ∀ (i : Nat) {n : Nd} (k : Nat), n ∈ lnU ws.length rooms.length → (ws.length : Int) - n.1 < i → k < (pathF (lnG ws r rooms rest) (prc (lnG ws r rooms rest) ws.length) i n).length → ∃ m, m ∈ lnU ws.length rooms.length ∧ k ≤ i ∧ (ws.length : Int) - m.1 < ((i - k : Nat) : Int) ∧ (pathF (lnG ws r rooms rest) (prc (lnG ws r rooms rest) ws.length) i n).drop k = pathF (lnG ws r rooms rest) (prc (lnG ws r rooms rest) ws.length) (i - k) m ∧ (m.2 = n.2 + k ∨ (m.2 = rooms.length ∧ (rooms.length : Int) ≤ n.2 + k))
  | 0, n, k, hn, h, hk => by have := mem_lnU.mp hn; omega
  | i + 1, n, 0, hn, h, hk => ⟨n, hn, Nat.zero_le _, by simpa using h, rfl, .inl (by simp)⟩
  | i + 1, n, k + 1, hn, h, hk => by
    cases hf : (lnG ws r rooms rest).fin n with
    | true => rw [pathF_end hf] at hk; simp at hk
    | false =>
      obtain ⟨q, hq⟩ := ln_prc ok hn
      obtain ⟨s, hs, e1, _⟩ := nxt_some (ln_ok ok) hn hf hq
      rw [pathF_step hf e1] at hk ⊢
      have h2 := (ln_ok ok).go n hn hf s hs
      obtain ⟨m, a1, a2, a3, a4, a5⟩ := path_at ok i k h2.1 (by omega) (by simpa using hk)
      obtain ⟨t, _, _, _, e2⟩ := upS_mem (List.mem_reverse.mp hs)
      have h3 := mem_lnU.mp hn
      have e3 : s.2.2 = if n.2 + 1 < (rooms.length : Int) then n.2 + 1 else (rooms.length : Int) := by rw [e2]; rfl
      refine ⟨m, a1, by omega, by rw [show i + 1 - (k + 1) = i - k by omega]; exact a3, by rw [List.drop_succ_cons, a4, show i + 1 - (k + 1) = i - k by omega], ?_⟩
      rw [e3] at a5
      have h5 := mem_lnU.mp a1
      split at a5 <;> omega
theorem path_last (ok : LnOk ws r rooms rest) : ∀ (i : Nat) {n : Nd}, n ∈ lnU ws.length rooms.length → (ws.length : Int) - n.1 < i → ∃ pre m, pathF (lnG ws r rooms rest) (prc (lnG ws r rooms rest) ws.length) i n = pre ++ [m] ∧ m.1 = (ws.length : Int) ∧ (n.1 < (ws.length : Int) → pre ≠ [])
  | 0, n, hn, h => by have := mem_lnU.mp hn; omega
  | i + 1, n, hn, h => by
    cases hf : (lnG ws r rooms rest).fin n with
    | true =>
      have : n.1 = ws.length := by simpa [lnG] using hf
      exact ⟨[], n, pathF_end hf, this, fun q => by omega⟩
    | false =>
      obtain ⟨q, hq⟩ := ln_prc ok hn
      obtain ⟨s, hs, e1, _⟩ := nxt_some (ln_ok ok) hn hf hq
      have h2 := (ln_ok ok).go n hn hf s hs
      obtain ⟨pre, m, a1, a2, _⟩ := path_last ok i h2.1 (by omega)
      exact ⟨n :: pre, m, by rw [pathF_step hf e1, a1]; rfl, a2, fun _ => by simp⟩
end
/-- the lines between neighbouring nodes -/
def wyL : List Nd → List Nd
  | a :: b :: t => (a.1, b.1) :: wyL (b :: t)
  | _ => []
theorem wyL_len : ∀ l : List Nd, (wyL l).length = l.length - 1
  | [] => rfl
  | [_] => rfl
  | a :: b :: t => by rw [wyL, List.length_cons, wyL_len (b :: t)]; rfl
theorem wyL_get : ∀ {l : List Nd} {k : Nat}, k + 1 < l.length → (wyL l)[k]? = some ((l.getD k (0, 0)).1, (l.getD (k + 1) (0, 0)).1)
  | [], k, h => by simp at h
  | [_], k, h => by simp at h
  | a :: b :: t, 0, h => rfl
  | a :: b :: t, k + 1, h => by
    rw [wyL, List.getElem?_cons_succ, wyL_get (by simpa using h)]
    rfl
theorem wyL_drop : ∀ (l : List Nd) (k : Nat), (wyL l).drop k = wyL (l.drop k)
  | _, 0 => rfl
  | [], k + 1 => by simp [wyL]
  | [a], k + 1 => by simp [wyL]
  | a :: b :: t, k + 1 => by rw [wyL, List.drop_succ_cons, List.drop_succ_cons, wyL_drop (b :: t) k]
theorem wyL_sh (b c : Nat) : ∀ l : List Nd, wyL (l.map (shN b c)) = (wyL l).map fun p => (p.1 + (b : Int), p.2 + (b : Int))
  | [] => rfl
  | [_] => rfl
  | x :: y :: t => by
    rw [List.map_cons, List.map_cons, wyL, wyL, List.map_cons, ← wyL_sh b c (y :: t)]
    rfl
section
variable {ws : List Int} {r : Row} {rooms : List Int} {rest : Int}
theorem path_fuel (ok : LnOk ws r rooms rest) : ∀ (i j : Nat) {n : Nd}, n ∈ lnU ws.length rooms.length → (ws.length : Int) - n.1 < i → (ws.length : Int) - n.1 < j → pathF (lnG ws r rooms rest) (prc (lnG ws r rooms rest) ws.length) i n = pathF (lnG ws r rooms rest) (prc (lnG ws r rooms rest) ws.length) j n
  | 0, j, n, hn, h1, h2 => by have := mem_lnU.mp hn; omega
  | i + 1, 0, n, hn, h1, h2 => by have := mem_lnU.mp hn; omega
  | i + 1, j + 1, n, hn, h1, h2 => by
    cases hf : (lnG ws r rooms rest).fin n with
    | true => rw [pathF_end hf, pathF_end hf]
    | false =>
      obtain ⟨q, hq⟩ := ln_prc ok hn
      obtain ⟨s, hs, e1, _⟩ := nxt_some (ln_ok ok) hn hf hq
      have h3 := (ln_ok ok).go n hn hf s hs
      rw [pathF_step hf e1, pathF_step hf e1, path_fuel ok i j h3.1 (by omega) (by omega)]
/-- behind the k-th line -/
theorem way_drop (ok : LnOk ws r rooms rest) {k : Nat} (hk : k + 1 < (wayN (lnG ws r rooms rest) ws.length).length) : ∃ b : Nat, b < ws.length ∧ ((wayN (lnG ws r rooms rest) ws.length).getD k (0, 0)).1 = (b : Int) ∧ ∀ c : Nat, (c : Int) = (if (rooms.length : Int) < k then (rooms.length : Int) else (k : Int)) → c ≤ rooms.length ∧ (wayN (lnG ws r rooms rest) ws.length).drop k = (wayN (lnG (ws.drop b) r (rooms.drop c) rest) (ws.drop b).length).map (shN b c) := by
  obtain ⟨m, h1, h2, h3, h4, h5⟩ := path_at ok (ws.length + 1) (n := (0, 0)) k (ln_ok ok).u0 (by simp; omega) (by unfold wayN at hk; omega)
  have hm := mem_lnU.mp h1
  have hd : (wayN (lnG ws r rooms rest) ws.length).drop k = pathF (lnG ws r rooms rest) (prc (lnG ws r rooms rest) ws.length) (ws.length + 1 - k) m := h4
  obtain ⟨t, ht⟩ := pathF_head (lnG ws r rooms rest) (prc (lnG ws r rooms rest) ws.length) (ws.length + 1 - k) m
  have hg : (wayN (lnG ws r rooms rest) ws.length).getD k (0, 0) = m := by
    have : ((wayN (lnG ws r rooms rest) ws.length).drop k)[0]? = some m := by rw [hd, ht]; rfl
    rw [List.getElem?_drop, Nat.add_zero] at this
    rw [List.getD_eq_getElem?_getD, this]
    rfl
  have hlt : m.1 < ws.length := by
    apply Classical.byContradiction
    intro hc
    have hf : (lnG ws r rooms rest).fin m = true := by simp [lnG]; omega
    have : ((wayN (lnG ws r rooms rest) ws.length).drop k).length = 1 := by rw [hd, pathF_end hf]; rfl
    rw [List.length_drop] at this
    omega
  obtain ⟨b, hb⟩ : ∃ b : Nat, m.1 = b := ⟨m.1.toNat, by omega⟩
  refine ⟨b, by omega, by rw [hg]; exact hb, fun c hc => ?_⟩
  have hcl : c ≤ rooms.length := by split at hc <;> omega
  refine ⟨hcl, ?_⟩
  have hmc : m = shN b c (0, 0) := by
    refine Prod.ext ?_ ?_
    · show m.1 = 0 + (b : Int); omega
    · show m.2 = 0 + (c : Int)
      rw [hc]
      simp only at h5
      split <;> omega
  have hz : ((0, 0) : Nd) ∈ lnU (ws.length - b) (rooms.length - c) := mem_lnU.mpr ⟨by simp, by simp, by simp, by simp⟩
  have hz' : ((0, 0) : Nd) ∈ lnU (ws.drop b).length (rooms.drop c).length := by rw [List.length_drop, List.length_drop]; exact hz
  rw [hd, hmc, path_sh ok (by omega) hcl _ hz]
  unfold wayN
  rw [path_fuel (ok.drop (c := c) (by omega)) (ws.length + 1 - k) ((ws.drop b).length + 1) hz' (by rw [List.length_drop]; simp; omega) (by simp; omega)]
theorem wyL_snoc : ∀ (l : List Nd) (x m : Nd), wyL (l ++ [x] ++ [m]) = wyL (l ++ [x]) ++ [(x.1, m.1)]
  | [], x, m => rfl
  | [a], x, m => rfl
  | a :: b :: l, x, m => by
    have := wyL_snoc (b :: l) x m
    simp only [List.cons_append] at this ⊢
    rw [wyL, this, wyL]
    rfl
/-- what is reached, moved -/
theorem reach_sh (ok : LnOk ws r rooms rest) {b c : Nat} (hb : b < ws.length) (hc : c ≤ rooms.length) (h0 : Reach (lnG ws r rooms rest) (shN b c (0, 0))) {n : Nd} (h : Reach (lnG (ws.drop b) r (rooms.drop c) rest) n) : Reach (lnG ws r rooms rest) (shN b c n) := by
  induction h with
  | z => exact h0
  | @s n s h1 h2 h3 ih =>
    have hn := h1.inU (ln_ok (ok.drop (c := c) hb))
    rw [List.length_drop, List.length_drop] at hn
    refine .s (s := (s.1, shN b c s.2)) ih (by rw [fin_sh (by omega)]; exact h2) ?_
    rw [st_sh (by omega) hc hn]
    exact List.mem_map_of_mem h3
/-- a word a line -/
theorem reach_diag (ok : LnOk ws r rooms rest) : ∀ j : Nat, j < ws.length → j ≤ rooms.length → Reach (lnG ws r rooms rest) ((j : Int), (j : Int))
  | 0, _, _ => .z
  | j + 1, h1, h2 => by
    have ih := reach_diag ok j (by omega) (by omega)
    have hf : (lnG ws r rooms rest).fin ((j : Int), (j : Int)) = false := by simp [lnG]; omega
    obtain ⟨q, hq⟩ := ln_first (ih.inU (ln_ok ok)) hf
    have := Reach.s ih hf hq
    have e : lnMk rooms.length ((j : Int), (j : Int)) 0 = (((j + 1 : Nat) : Int), ((j + 1 : Nat) : Int)) := by
      unfold lnMk
      refine Prod.ext ?_ ?_
      · simp
      · simp only; split <;> omega
    rw [← e]
    exact this
end
theorem Rk.subF {F F' : List (V × D)} {M : List ME} {v : V} {d : D} (h : Rk F M v d) (s : KS F F') (hd : ((∃ n, d = .ref n) ∨ ∃ n, d = .ty n) → False) : Rk F' M v d := by
  cases h with
  | mem h => exact Rk.of (s _ h) hd
  | int n => exact .int n
  | bl n => exact .bl n
  | str n => exact .str n
  | non => exact .non
  | ml h => exact .ml h
  | mi h => exact .mi h
theorem notRef_lst {ds : List D} : ((∃ n, D.lst ds = .ref n) ∨ ∃ n, D.lst ds = .ty n) → False := fun h => by rcases h with ⟨n, e⟩ | ⟨n, e⟩ <;> cases e
theorem tab_at {f : Nd → D} {ms : List Nd} {i : Nat} {k : List Key} {e : D} (h : (tabN f ms)[i]? = some (k, e)) : ∃ n ∈ ms, k = ndK n ∧ e = f n := by
  unfold tabN at h
  rw [List.getElem?_map] at h
  cases hm : ms[i]? with
  | none => rw [hm] at h; cases h
  | some n =>
    rw [hm] at h
    cases h
    exact ⟨n, List.mem_of_getElem? hm, rfl, rfl⟩

theorem frq_nb2 (q : Rat) : NB 2 (frq q) := NB.tup (k := 1) fun d hd => by
  simp only [List.mem_cons, List.not_mem_nil, or_false] at hd
  rcases hd with rfl | rfl <;> exact .int _
theorem frq_nb (q : Rat) : NB 60 (frq q) := (frq_nb2 q).mono (by decide)
theorem frqs_nb (qs : List Rat) : NB 60 (.lst (qs.map frq)) := (NB.lst (k := 2) fun d hd => by
  obtain ⟨q, _, rfl⟩ := List.mem_map.mp hd
  exact frq_nb2 q).mono (by decide)
theorem found_nb (qs : List Rat) (o : Option Rat) (l : Rat) : NB 60 (.tup [.lst (qs.map frq), shD o, frq l]) := (NB.tup (k := 3) fun d hd => by
  simp only [List.mem_cons, List.not_mem_nil, or_false] at hd
  rcases hd with rfl | rfl | rfl
  · exact .lst (k := 2) fun d hd => by
      obtain ⟨q, _, rfl⟩ := List.mem_map.mp hd
      exact frq_nb2 q
  · cases o with
    | none => exact .non
    | some p => exact (frq_nb2 p).mono (by decide)
  · exact (frq_nb2 l).mono (by decide)).mono (by decide)
/-- a tuple of a list that stays by now -/
theorem Wf.up3 {F : List (V × D)} {H : Hp} {M : List ME} {t : V} {p : Addr} {ds : List D} {d1 d2 : D} (w : Wf F H M) (h : Kn F t (.tup [.ref p, d1, d2])) (h2 : Kn F (.ref p) (.lst ds)) : Wf ((t, .tup [.lst ds, d1, d2]) :: F) H M := by
  obtain ⟨I, Mc, w, ac, hF⟩ := w.ex
  have e := h.is hF
  have e2 := h2.is hF
  refine ⟨I, Mc, w, ac, fun f hf => ?_⟩
  rcases List.mem_cons.mp hf with rfl | hf
  · cases e with
    | tup ht ha =>
      cases ha with
      | cons h1 ha =>
        cases h1
        exact .tup ht (.cons e2 ha)
  · exact hF f hf
/-- of a list of references that stays: what they are -/
theorem Wf.addL {F : List (V × D)} {H : Hp} {M : List ME} {p : Addr} {rf : List Addr} {es : List D} (w : Wf F H M) (h : Kn F (.ref p) (.lst (rf.map D.ref))) (hk : KnA F (rf.map V.ref) es) : Wf ((.ref p, .lst es) :: F) H M := by
  obtain ⟨I, Mc, w, ac, hF⟩ := w.ex
  have e := h.is hF
  refine ⟨I, Mc, w, ac, fun f hf => ?_⟩
  rcases List.mem_cons.mp hf with rfl | hf
  · cases e with
    | lst hp ha =>
      rw [isA_refs ha] at hp
      exact .lst hp (hk.is hF)
  · exact hF f hf
theorem KnA.more {F : List (V × D)} {f : V × D} : ∀ {vs : List V} {ds : List D}, KnA F vs ds → KnA (f :: F) vs ds
  | _, _, .nil => .nil
  | _, _, .cons h a => .cons h.more (KnA.more a)
theorem refs_rigid (rf : List Addr) : ∀ d ∈ rf.map D.ref, ∃ v, rigid d = some v := fun d hd => by
  obtain ⟨a, _, rfl⟩ := List.mem_map.mp hd
  exact ⟨_, rfl⟩

/-! ### rows of nodes by steps of any ways whose steps are told apart by where they end -/
theorem filter_one {α : Type} {k : α → Int} : ∀ {l : List α}, l.Pairwise (fun a b => k a ≠ k b) → ∀ {x : α}, x ∈ l → l.filter (fun y => decide (k y = k x)) = [x]
  | [], _, x, h => by cases h
  | a :: l, hp, x, h => by
    obtain ⟨h1, h2⟩ := List.pairwise_cons.mp hp
    rw [List.filter_cons]
    rcases List.mem_cons.mp h with rfl | h
    · rw [if_pos (decide_eq_true rfl), List.filter_eq_nil_iff.mpr fun y hy => by
        have := h1 y hy
        simp only [decide_eq_true_eq]
        exact fun e => this e.symm]
    · have := h1 x h
      rw [if_neg (by simp only [decide_eq_true_eq]; exact this), filter_one h2 h]
def Apart (g : Wgr) : Prop := ∀ n, (g.st n).Pairwise fun s t => s.2.1 ≠ t.2.1
theorem Apart.one {g : Wgr} (ap : Apart g) {n : Nd} {s : Rat × Nd} (h : s ∈ g.st n) : (g.st n).filter (fun t => decide (t.2.1 = s.2.1)) = [s] := filter_one (k := fun t : Rat × Nd => t.2.1) (ap n) h
def stepQ (g : Wgr) (a b : Nd) : Rat := (((g.st a).filter fun t => decide (t.2.1 = b.1)).headD (0, (0, 0))).1
def totQ (g : Wgr) (L : List Nd) : Nat → Rat
  | 0 => 0
  | i + 1 => totQ g L i + stepQ g (L.getD i (0, 0)) (L.getD (i + 1) (0, 0))
theorem Apart.step {g : Wgr} (ap : Apart g) {n : Nd} {s : Rat × Nd} (h : s ∈ g.st n) : stepQ g n s.2 = s.1 := by
  unfold stepQ
  rw [ap.one h]
  rfl
theorem getD_l {l : List Nd} {m : List Nd} {i : Nat} (h : i < l.length) : (l ++ m).getD i (0, 0) = l.getD i (0, 0) := by
  rw [List.getD_eq_getElem?_getD, List.getD_eq_getElem?_getD, List.getElem?_append_left h]
theorem getD_e {l : List Nd} {x : Nd} : (l ++ [x]).getD l.length (0, 0) = x := by
  rw [List.getD_eq_getElem?_getD, List.getElem?_append_right (Nat.le_refl _), Nat.sub_self]
  rfl
/-- L is a row of steps, j of them -/
def RowOf (g : Wgr) (U : List Nd) (L : List Nd) (j : Nat) : Prop := ∀ i, i < j → L.getD i (0, 0) ∈ U ∧ g.fin (L.getD i (0, 0)) = false ∧ ∃ s ∈ g.st (L.getD i (0, 0)), s.2 = L.getD (i + 1) (0, 0) ∧ stepQ g (L.getD i (0, 0)) (L.getD (i + 1) (0, 0)) = s.1
inductive GWay (g : Wgr) : List Nd → Nd → Prop
  | one : GWay g [] (0, 0)
  | snoc {l : List Nd} {n : Nd} {s : Rat × Nd} : GWay g l n → g.fin n = false → s ∈ g.st n → GWay g (l ++ [n]) s.2
section
variable {g : Wgr} {U : List Nd} {M k : Nat} {l : List Nd} {n : Nd}
theorem GWay.inU (ok : WgOk g U M k) (h : GWay g l n) : n ∈ U := by
  induction h with
  | one => exact ok.u0
  | @snoc l n s _ h1 h2 ih => exact (ok.go _ ih h1 s h2).1
theorem GWay.reach (h : GWay g l n) : Reach g n := by
  induction h with
  | one => exact .z
  | @snoc l n s _ h1 h2 ih => exact .s ih h1 h2
theorem GWay.len (ok : WgOk g U M k) (h : GWay g l n) : (l.length : Int) ≤ n.1 := by
  induction h with
  | one => exact Int.le_refl _
  | @snoc l n s h0 h1 h2 ih =>
    have := (ok.go _ (h0.inU ok) h1 s h2).2
    rw [List.length_append, List.length_singleton]
    omega
theorem GWay.zero (h : GWay g l n) : (l ++ [n]).getD 0 (0, 0) = (0, 0) := by
  induction h with
  | one => rfl
  | @snoc l n s h0 h1 h2 ih => rw [getD_l (by rw [List.length_append]; simp)]; exact ih
theorem GWay.row (ok : WgOk g U M k) (ap : Apart g) (h : GWay g l n) : RowOf g U (l ++ [n]) l.length := by
  induction h with
  | one => exact fun i hi => absurd hi (by simp)
  | @snoc l n s h0 h1 h2 ih =>
    intro i hi
    rw [List.length_append, List.length_singleton] at hi
    rw [getD_l (i := i) (by rw [List.length_append, List.length_singleton]; omega)]
    rcases Nat.lt_or_ge i l.length with c | c
    · have e : (l ++ [n] ++ [s.2]).getD (i + 1) (0, 0) = (l ++ [n]).getD (i + 1) (0, 0) := getD_l (by rw [List.length_append, List.length_singleton]; omega)
      rw [e]
      exact ih i c
    · have e : i = l.length := by omega
      subst e
      have z := getD_e (l := l ++ [n]) (x := s.2)
      rw [List.length_append, List.length_singleton] at z
      rw [getD_e, z]
      exact ⟨h0.inU ok, h1, s, h2, rfl, ap.step h2⟩
theorem GWay.reachAt (h : GWay g l n) : ∀ i, i ≤ l.length → Reach g ((l ++ [n]).getD i (0, 0)) := by
  induction h with
  | one =>
    intro i hi
    obtain rfl : i = 0 := by simpa using hi
    exact .z
  | @snoc l n s h0 h1 h2 ih =>
    intro i hi
    rw [List.length_append, List.length_singleton] at hi
    rcases Nat.lt_or_ge i (l.length + 1) with c | c
    · rw [getD_l (i := i) (by rw [List.length_append, List.length_singleton]; omega)]
      exact ih i (by omega)
    · obtain rfl : i = l.length + 1 := by omega
      have z := getD_e (l := l ++ [n]) (x := s.2)
      rw [List.length_append, List.length_singleton] at z
      rw [z]
      exact .s h0.reach h1 h2
theorem totQ_sz (ok : WgOk g U M k) {L : List Nd} {j : Nat} (h : RowOf g U L j) : ∀ i, i ≤ j → Sz2 (2002 + (k + 1) * i) (k * i + 1) (totQ g L i)
  | 0, _ => Sz2.zero (by omega) (by omega)
  | i + 1, hi => by
    obtain ⟨a, _, s, hs, _, e⟩ := h i (by omega)
    have ih := totQ_sz ok h i (by omega)
    have b3 := ok.sz _ a s hs
    have c1 : (k + 1) * (i + 1) = (k + 1) * i + k + 1 := by rw [Nat.mul_add]; omega
    have c2 : k * (i + 1) = k * i + k := by rw [Nat.mul_add]; omega
    have c3 : k * i ≤ (k + 1) * i := Nat.mul_le_mul_right _ (by omega)
    show Sz2 _ _ (totQ g L i + stepQ g _ _)
    rw [e, Rat.add_comm]
    exact (b3.add ih (2002 + (k + 1) * (i + 1)) (by omega) (by omega)).mono (Nat.le_refl _) (by omega)
theorem row_cost (ok : WgOk g U M k) {L : List Nd} {j : Nat} (h : RowOf g U L j) {q0 : Rat} (h0 : prc g M (L.getD 0 (0, 0)) = some q0) (hp : ∀ n ∈ U, ∃ q, prc g M n = some q) : ∀ i, i ≤ j → ∀ q, prc g M (L.getD i (0, 0)) = some q → q0 ≤ totQ g L i + q
  | 0, _, q, hq => by
    have e := Option.some.inj (h0.symm.trans hq)
    rw [← e]
    show q0 ≤ 0 + q0
    rw [Rat.zero_add]
    exact Rat.le_refl
  | i + 1, hi, q, hq => by
    obtain ⟨a, hf, s, hs, e1, e2⟩ := h i (by omega)
    have h1 := prc_eq ok a hf
    have hm : some (s.1 + q) ∈ (g.st (L.getD i (0, 0))).map fun s => addO s.1 (prc g M s.2) := List.mem_map.mpr ⟨s, hs, by rw [e1, hq]; rfl⟩
    obtain ⟨x, hx, hle⟩ := leastP_le hm
    rw [hx] at h1
    have ih := row_cost ok h h0 hp i (by omega) x h1
    show q0 ≤ totQ g L i + stepQ g _ _ + q
    rw [e2]
    grind
theorem GWay.least (ok : WgOk g U M k) (ap : Apart g) (h : GWay g l n) (hf : g.fin n = true) {q0 : Rat} (h0 : prc g M (0, 0) = some q0) (hp : ∀ n ∈ U, ∃ q, prc g M n = some q) : q0 ≤ totQ g (l ++ [n]) l.length := by
  have := row_cost ok (h.row ok ap) (by rw [h.zero]; exact h0) hp l.length (Nat.le_refl _) 0 (by rw [getD_e]; exact prc_end hf)
  rwa [Rat.add_zero] at this
theorem totQ_cons (g : Wgr) (a : Nd) (L : List Nd) : ∀ i, totQ g (a :: L) (i + 1) = stepQ g a (L.getD 0 (0, 0)) + totQ g L i
  | 0 => by
    show 0 + stepQ g a _ = stepQ g a _ + 0
    rw [Rat.zero_add, Rat.add_zero]
    rfl
  | i + 1 => by
    have ih := totQ_cons g a L i
    show totQ g (a :: L) (i + 1) + stepQ g ((a :: L).getD (i + 1) (0, 0)) ((a :: L).getD (i + 2) (0, 0)) = _
    rw [ih]
    show _ + stepQ g (L.getD i (0, 0)) (L.getD (i + 1) (0, 0)) = stepQ g a (L.getD 0 (0, 0)) + (totQ g L i + stepQ g (L.getD i (0, 0)) (L.getD (i + 1) (0, 0)))
    rw [Rat.add_assoc]
theorem path_gway (ok : WgOk g U M k) (ap : Apart g) : ∀ (i : Nat) {l : List Nd} {n : Nd} {q : Rat}, GWay g l n → prc g M n = some q → (M : Int) - g.rk n < i →
    ∃ pre z, pathF g (prc g M) i n = pre ++ [z] ∧ GWay g (l ++ pre) z ∧ g.fin z = true ∧ totQ g (pre ++ [z]) pre.length = q
  | 0, l, n, q, hw, hq, hi => by
    have := ok.lo n (hw.inU ok)
    omega
  | i + 1, l, n, q, hw, hq, hi => by
    have hU := hw.inU ok
    cases hf : g.fin n with
    | true =>
      rw [prc_end hf] at hq
      exact ⟨[], n, pathF_end hf, by rw [List.append_nil]; exact hw, hf, Option.some.inj hq⟩
    | false =>
      obtain ⟨s, hs, e1, e2⟩ := nxt_some ok hU hf hq
      have hgo := ok.go n hU hf s hs
      have hup := ok.up n hU hf s hs
      have hw2 := hw.snoc hf hs
      cases hp : prc g M s.2 with
      | none => rw [hp] at e2; cases e2
      | some p =>
        rw [hp] at e2
        have eq := Option.some.inj (show some (s.1 + p) = some q from e2)
        obtain ⟨pre, z, h1, h2, h3, h4⟩ := path_gway ok ap i hw2 hp (by omega)
        obtain ⟨t, ht⟩ := pathF_head g (prc g M) i s.2
        have hd : (pre ++ [z]).getD 0 (0, 0) = s.2 := by rw [← h1, ht]; rfl
        refine ⟨n :: pre, z, by rw [pathF_step hf e1, h1]; rfl, by rw [List.append_assoc] at h2; exact h2, h3, ?_⟩
        show totQ _ (n :: (pre ++ [z])) (pre.length + 1) = q
        rw [totQ_cons, h4, hd, ← eq, ap.step hs]
theorem path_nxt {pr : Nd → Option Rat} : ∀ (i : Nat) {n : Nd} (j : Nat), j + 1 < (pathF g pr i n).length → g.fin ((pathF g pr i n).getD j (0, 0)) = false ∧ nxtN g pr ((pathF g pr i n).getD j (0, 0)) = some ((pathF g pr i n).getD (j + 1) (0, 0))
  | 0, n, j, h => by simp [pathF] at h
  | i + 1, n, j, h => by
    cases hf : g.fin n with
    | true => rw [pathF_end hf] at h; simp at h
    | false =>
      cases hm : nxtN g pr n with
      | none =>
        have e : pathF g pr (i + 1) n = [n] := by rw [pathF, if_neg (by rw [hf]; simp), hm]
        rw [e] at h
        simp at h
      | some m =>
        rw [pathF_step hf hm] at h ⊢
        cases j with
        | zero =>
          obtain ⟨t, ht⟩ := pathF_head g pr i m
          refine ⟨hf, ?_⟩
          rw [ht]
          exact hm
        | succ j =>
          rw [List.length_cons] at h
          exact path_nxt i j (by omega)
/-- the way that is told: l, then z -/
structure GTold (g : Wgr) (M : Nat) (c : Rat) (l : List Nd) (z : Nd) : Prop where
  way : wayN g M = l ++ [z]
  nw : GWay g l z
  fin : g.fin z = true
  tot : totQ g (l ++ [z]) l.length = c
theorem gtold (ok : WgOk g U M k) (ap : Apart g) {c : Rat} (hc : prc g M (0, 0) = some c) : ∃ l z, GTold g M c l z := by
  obtain ⟨pre, z, h1, h2, h3, h4⟩ := path_gway ok ap (M + 1) .one hc (by have := ok.lo _ ok.u0; omega)
  exact ⟨pre, z, h1, by simpa using h2, h3, h4⟩
theorem GTold.nxt {c : Rat} {z : Nd} (t : GTold g M c l z) {i : Nat} (hi : i < l.length) : g.fin ((l ++ [z]).getD i (0, 0)) = false ∧ nxtN g (prc g M) ((l ++ [z]).getD i (0, 0)) = some ((l ++ [z]).getD (i + 1) (0, 0)) := by
  have h := path_nxt (g := g) (pr := prc g M) (M + 1) (n := (0, 0)) i
  have e : pathF g (prc g M) (M + 1) (0, 0) = l ++ [z] := t.way
  rw [e] at h
  exact h (by rw [List.length_append, List.length_singleton]; omega)
end
/-! ### .. of lines -/
theorem upS_inc {f : Nat → Option Rat} {L : Nat} {n : Nd} : ∀ {j i : Nat}, (upS f (lnMk L n) i j).Pairwise fun s t => s.2.1 < t.2.1
  | 0, _ => List.Pairwise.nil
  | j + 1, i => by
    unfold upS
    cases f i with
    | none => exact List.Pairwise.nil
    | some c =>
      refine List.pairwise_cons.mpr ⟨fun t ht => ?_, upS_inc⟩
      obtain ⟨u, h1, _, _, e⟩ := upS_mem ht
      rw [e]
      unfold lnMk
      show n.1 + (i : Int) + 1 < n.1 + (u : Int) + 1
      omega
theorem ln_apart (ws : List Int) (r : Row) (rooms : List Int) (rest : Int) : Apart (lnG ws r rooms rest) := fun n => List.pairwise_reverse.mpr (upS_inc.imp fun {s t} h => by omega)
section
variable {ws : List Int} {r : Row} {rooms : List Int} {rest : Int} {l : List Nd} {n : Nd}
/-- the i-th step of a row of lines -/
theorem GWay.line (ok : LnOk ws r rooms rest) (h : GWay (lnG ws r rooms rest) l n) {i : Nat} (hi : i < l.length) : ∃ b t : Nat, (l ++ [n]).getD i (0, 0) = ((b : Int), if (i : Int) < rooms.length then (i : Int) else (rooms.length : Int)) ∧ b + t < ws.length ∧ (l ++ [n]).getD (i + 1) (0, 0) = (((b + t + 1 : Nat) : Int), if ((i + 1 : Nat) : Int) < rooms.length then ((i + 1 : Nat) : Int) else (rooms.length : Int)) ∧ lnC ws r (lnRm rooms rest (if (i : Int) < rooms.length then (i : Int) else (rooms.length : Int))) b t = some (stepQ (lnG ws r rooms rest) ((l ++ [n]).getD i (0, 0)) ((l ++ [n]).getD (i + 1) (0, 0))) := by
  have hrow := h.row (ln_ok ok) (ln_apart ws r rooms rest)
  have key : ∀ j, j ≤ l.length → ((l ++ [n]).getD j (0, 0)).2 = if (j : Int) < rooms.length then (j : Int) else (rooms.length : Int) := by
    intro j
    induction j with
    | zero =>
      intro _
      rw [h.zero]
      show (0 : Int) = _
      split <;> omega
    | succ j ih =>
      intro hj
      obtain ⟨_, _, s, hs, e, _⟩ := hrow j (by omega)
      obtain ⟨t, _, _, _, e2⟩ := upS_mem (List.mem_reverse.mp hs)
      rw [← e, e2]
      show (if ((l ++ [n]).getD j (0, 0)).2 + 1 < (rooms.length : Int) then ((l ++ [n]).getD j (0, 0)).2 + 1 else (rooms.length : Int)) = _
      rw [ih (by omega)]
      split <;> split <;> split <;> omega
  obtain ⟨a, _, s, hs, e, e3⟩ := hrow i hi
  obtain ⟨t, _, h2, h3, e2⟩ := upS_mem (List.mem_reverse.mp hs)
  have hb := mem_lnU.mp a
  have k1 := key i (by omega)
  have k2 := key (i + 1) (by omega)
  refine ⟨((l ++ [n]).getD i (0, 0)).1.toNat, t, Prod.ext (by simp only; omega) k1, by omega, Prod.ext ?_ k2, ?_⟩
  · rw [← e, e2]
    show _ + (t : Int) + 1 = _
    simp only
    omega
  · rw [e3, ← h3, k1]
end
/-- the room of a line, read off the rooms with the rest behind them -/
theorem rm_at (rooms : List Int) (rest : Int) {c : Int} (c0 : 0 ≤ c) : (rooms ++ [rest]).getD (if ((rooms.length : Nat) : Int) < c then ((rooms.length : Nat) : Int) else c).toNat 0 = lnRm rooms rest c := by
  unfold lnRm
  by_cases h : c < rooms.length
  · rw [if_pos h, if_neg (by omega), List.getD_eq_getElem?_getD, List.getD_eq_getElem?_getD, List.getElem?_append_left (by omega)]
  · rw [if_neg h]
    have e : (if ((rooms.length : Nat) : Int) < c then ((rooms.length : Nat) : Int) else c).toNat = rooms.length := by split <;> omega
    rw [e, List.getD_eq_getElem?_getD, List.getElem?_append_right (Nat.le_refl _), Nat.sub_self]
    rfl
theorem lnRm_cut (rooms : List Int) (rest : Int) {c : Int} (c0 : 0 ≤ c) : lnRm rooms rest (if c < (rooms.length : Int) then c else (rooms.length : Int)) = lnRm rooms rest c := by
  unfold lnRm
  by_cases h : c < rooms.length
  · rw [if_pos h]
  · rw [if_neg h, if_neg (by omega), if_neg (by omega)]
theorem cut_int (ws : List Int) (b t : Nat) (h : b + t < ws.length) : cutD (ws.map D.int) (some (b : Int)) (some (((b + t + 1 : Nat) : Int))) = ((ws.drop b).take (t + 1)).map D.int := by
  unfold cutD
  rw [List.map_take, List.map_drop, List.length_map, HT.sIx_nat, HT.sIx_nat, Nat.min_eq_left (by omega), Nat.min_eq_left (by omega), show b + t + 1 - b = t + 1 by omega]
theorem ln_stfin {ws : List Int} {r : Row} {rooms : List Int} {rest : Int} {n : Nd} {s : Rat × Nd} (hn : n ∈ lnU ws.length rooms.length) (h : s ∈ (lnG ws r rooms rest).st n) : (lnG ws r rooms rest).fin n = false := by
  obtain ⟨t, _, h2, _, _⟩ := upS_mem (List.mem_reverse.mp h)
  have := mem_lnU.mp hn
  simp only [lnG, beq_eq_false_iff_ne]
  omega
theorem st_le {g : Wgr} {U : List Nd} {N k : Nat} (ok : WgOk g U N k) {n : Nd} (hn : n ∈ U) {s : Rat × Nd} (hs : s ∈ g.st n) (hf : g.fin n = false) {p q : Rat} (hp : prc g N s.2 = some p) (hq : prc g N n = some q) : ¬ s.1 + p < q := by
  have hmm : some (s.1 + p) ∈ (g.st n).map fun s => addO s.1 (prc g N s.2) := List.mem_map.mpr ⟨s, hs, by rw [hp]; rfl⟩
  obtain ⟨y, hy, hyl⟩ := leastP_le hmm
  rw [← prc_eq ok hn hf, hq] at hy
  cases hy
  exact Rat.not_lt.mpr hyl
theorem s_midW {t : TS} {G : Ends} {σ : L2.St} {H : Hp} (Mid : L2.St → Hp → Prop) (k : ∀ σ H, Mid σ H → G.nx σ H) (h : ∀ N : L2.St → Hp → Prop, (∀ σ' H', Mid σ' H' → N σ' H') → t { G with nx := N } σ H) : t G σ H := h _ k
/-- comparing what is made of things that may be changed -/
theorem n_neH {K : PySem.W.Frag} {H : Hp} {x y : V} {d : D} {Q : VK} (hx : Is H x d) (hy : Is H y d) (n : NB 60 d) (q : Q (.bl false) H) : rNeU K x y H Q := by
  have w : Wf [(x, d), (y, d)] H [] := ⟨H, [], W.self, .nil, fun f hf => by
    simp only [List.mem_cons, List.not_mem_nil, or_false] at hf
    rcases hf with rfl | rfl
    · exact hx
    · exact hy⟩
  exact n_neT w (.mem (by simp)) (.mem (by simp)) n q
theorem n_eqH {K : PySem.W.Frag} {H : Hp} {x y : V} {d : D} {Q : VK} (hx : Is H x d) (hy : Is H y d) (n : NB 60 d) (q : Q (.bl true) H) : rEqU K x y H Q := by
  have w : Wf [(x, d), (y, d)] H [] := ⟨H, [], W.self, .nil, fun f hf => by
    simp only [List.mem_cons, List.not_mem_nil, or_false] at hf
    rcases hf with rfl | rfl
    · exact hx
    · exact hy⟩
  exact n_eqT w (.mem (by simp)) (.mem (by simp)) n q
theorem Wf.deepQ {F : List (V × D)} {H : Hp} {M : List ME} {t : V} {p : Addr} {d : D} {ds : List D} (w : Wf F H M) (h : Rk F M t (.tup [d, .ref p])) (hm : .ml p ds ∈ M) : Is H t (.tup [d, .lst ds]) := by
  obtain ⟨I, Mc, w, ac, hF⟩ := w.ex
  obtain ⟨a, vs, rfl, ht, ha⟩ := h.tup w ac hF
  have hl : Is H (.ref p) (.lst ds) := (Rk.ml (F := F) hm).rd w ac hF
  cases ha with
  | cons h1 ha =>
    cases ha with
    | cons h2 ha =>
      cases ha
      cases h2
      exact .tup ht (.cons (h1.mono w.imm) (.cons hl .nil))
theorem lx_nbG (ns : List Nd) (c : Rat) : NB 4 (.tup [frq c, .lst (ns.map nD)]) := .tup fun d hd => by
  simp only [List.mem_cons, List.not_mem_nil, or_false] at hd
  rcases hd with rfl | rfl
  · exact .tup fun d hd => by simp only [List.mem_cons, List.not_mem_nil, or_false] at hd; rcases hd with rfl | rfl <;> exact .int _
  · exact .lst fun d hd => by
      obtain ⟨n, _, rfl⟩ := List.mem_map.mp hd
      exact .tup fun d hd => by simp only [List.mem_cons, List.not_mem_nil, or_false] at hd; rcases hd with rfl | rfl <;> exact .int _

/-! ### listed ways -/
abbrev Mv := Nd × Rat × Nd
def mvD (m : Mv) : D := .tup [nD m.1, frq m.2.1, nD m.2.2]
def NdOk (n : Nd) : Prop := 0 ≤ n.1 ∧ 0 ≤ n.2 ∧ n.1 ≤ 1000000000000000000000 ∧ n.2 ≤ 1000000000000000000000
structure NsOk (ns : List Nd) : Prop where
  ne : 1 ≤ ns.length
  le : ns.length ≤ 61
  z : ns.getD 0 (0, 0) = (0, 0)
  ok : ∀ n ∈ ns, NdOk n
structure MvOk (ns : List Nd) (m : Mv) : Prop where
  a : m.1 ∈ ns
  b : m.2.2 ∈ ns
  up : m.1.1 < m.2.2.1
  nn : 0 ≤ m.2.1
  sz : Sz2 140 32 m.2.1
structure GrOk (ns : List Nd) (ms : List Mv) (es : List Nd) : Prop where
  n : NsOk ns
  m : ∀ x ∈ ms, MvOk ns x
  ml : ms.length ≤ 400
  e : ∀ x ∈ es, 0 ≤ x.1 ∧ 0 ≤ x.2
  el : es.length ≤ 100
def mvF (ms : List Mv) (n : Nd) : List (Rat × Nd) := (ms.filter fun m => decide (m.1 = n)).map (·.2)
def rkN (ns : List Nd) (n : Nd) : Int := ((ns.filter fun m => decide (m.1 < n.1)).length : Nat)
def liG (ns : List Nd) (ms : List Mv) (es : List Nd) : Wgr where
  st := mvF ms
  fin := fun n => decide (n ∈ es)
  rk := rkN ns
theorem mem_mvF {ms : List Mv} {n : Nd} {s : Rat × Nd} : s ∈ mvF ms n ↔ (n, s) ∈ ms := by
  unfold mvF
  rw [List.mem_map]
  constructor
  · rintro ⟨m, hm, rfl⟩
    obtain ⟨h1, h2⟩ := List.mem_filter.mp hm
    obtain rfl := of_decide_eq_true h2
    exact h1
  · intro h
    exact ⟨(n, s), List.mem_filter.mpr ⟨h, decide_eq_true rfl⟩, rfl⟩
theorem filt_lt {α : Type} {p q : α → Bool} : ∀ {l : List α}, (∀ x ∈ l, p x = true → q x = true) → (∃ x ∈ l, q x = true ∧ p x = false) → (l.filter p).length < (l.filter q).length
  | [], _, ⟨_, h, _⟩ => nomatch h
  | y :: l, h, ⟨x, hx, h1, h2⟩ => by
    have le : ∀ l' : List α, (∀ x ∈ l', p x = true → q x = true) → (l'.filter p).length ≤ (l'.filter q).length := fun l' => by
      induction l' with
      | nil => simp
      | cons z l' ih =>
        intro hl
        have := ih fun x hx => hl x (List.mem_cons_of_mem _ hx)
        have hz := hl z List.mem_cons_self
        rw [List.filter_cons, List.filter_cons]
        cases hp : p z with
        | true => rw [if_pos rfl, hz hp, if_pos rfl]; simp only [List.length_cons]; omega
        | false => rw [if_neg (by decide)]; split <;> (try simp only [List.length_cons]) <;> omega
    have hl : ∀ x ∈ l, p x = true → q x = true := fun x hx => h x (List.mem_cons_of_mem _ hx)
    rw [List.filter_cons, List.filter_cons]
    rcases List.mem_cons.mp hx with rfl | hx
    · rw [h1, h2, if_neg (by decide), if_pos rfl, List.length_cons]
      have := le l hl
      omega
    · have := filt_lt hl ⟨x, hx, h1, h2⟩
      have hy := h y List.mem_cons_self
      cases hp : p y with
      | true => rw [if_pos rfl, hy hp, if_pos rfl]; simp only [List.length_cons]; omega
      | false => rw [if_neg (by decide)]; split <;> (try simp only [List.length_cons]) <;> omega
section
variable {ns : List Nd} {ms : List Mv} {es : List Nd}
theorem mvF_len (n : Nd) : (mvF ms n).length ≤ ms.length := by
  unfold mvF
  rw [List.length_map]
  exact List.length_filter_le _ _
theorem NsOk.z0 (h : NsOk ns) : (0, 0) ∈ ns := by
  have h1 := h.z
  have h2 := h.ne
  rw [← h1, List.getD_eq_getElem?_getD, List.getElem?_eq_getElem (by omega)]
  exact List.getElem_mem _
theorem li_ok (h : GrOk ns ms es) : WgOk (liG ns ms es) ns 61 32 where
  u0 := h.n.z0
  go := fun n hn hf s hs => ⟨(h.m _ (mem_mvF.mp hs)).b, (h.m _ (mem_mvF.mp hs)).up⟩
  up := fun n hn hf s hs => by
    have hup := (h.m _ (mem_mvF.mp hs)).up
    show ((ns.filter _).length : Int) < ((ns.filter _).length : Int)
    have := filt_lt (p := fun m : Nd => decide (m.1 < n.1)) (q := fun m : Nd => decide (m.1 < s.2.1)) (l := ns) (fun x _ hx => by
      have := of_decide_eq_true hx
      simp only at hup
      exact decide_eq_true (by omega)) ⟨n, hn, decide_eq_true hup, decide_eq_false (by omega)⟩
    omega
  lo := fun n hn => by
    show 0 ≤ ((ns.filter _).length : Int) ∧ ((ns.filter _).length : Int) ≤ ((61 : Nat) : Int)
    have := List.length_filter_le (fun m : Nd => decide (m.1 < n.1)) ns
    have := h.n.le
    omega
  sz := fun n hn s hs => (h.m _ (mem_mvF.mp hs)).sz.mono (by decide) (by decide)
  tot := by
    have h1 : ∀ l : List Nd, (l.map fun n => ((liG ns ms es).st n).length).sum ≤ l.length * 400 := fun l => by
      induction l with
      | nil => simp
      | cons n l ih =>
        have : ((liG ns ms es).st n).length ≤ 400 := Nat.le_trans (mvF_len n) h.ml
        rw [List.map_cons, List.sum_cons, List.length_cons, Nat.add_mul]
        omega
    have := h1 ns
    have := h.n.le
    omega
  ul := by have := h.n.le; omega
  hk := by decide
end
theorem mvF_snoc (ms : List Mv) (m : Mv) (n : Nd) : mvF (ms ++ [m]) n = if m.1 = n then mvF ms n ++ [m.2] else mvF ms n := by
  unfold mvF
  rw [List.filter_append, List.map_append]
  by_cases h : m.1 = n
  · rw [if_pos h, List.filter_cons, if_pos (decide_eq_true h)]
    rfl
  · rw [if_neg h, List.filter_cons, if_neg (by simp [h])]
    simp
/-! the shelf -/
abbrev Sh := Nd × Addr × List (Rat × Nd)
def shKv (x : Sh) : List Key × D := (ndK x.1, .ref x.2.1)
def shKd (x : Sh) : List Key × D := (ndK x.1, .lst (x.2.2.map stD))
def shMl (x : Sh) : ME := .ml x.2.1 (x.2.2.map stD)
structure GrpOk (ms : List Mv) (L : List Sh) : Prop where
  nd : (L.map (·.1)).Nodup
  is : ∀ x ∈ L, x.2.2 = mvF ms x.1
  all : ∀ n, n ∈ L.map (·.1) ↔ mvF ms n ≠ []
def ShOk (ms : List Mv) (kvs : List (List Key × D)) : Prop := ∀ n, getP kvs (ndK n) = if mvF ms n = [] then none else some (.lst ((mvF ms n).map stD))
theorem sh_none {f : Sh → D} {n : Nd} : ∀ {L : List Sh}, n ∉ L.map (·.1) → getP (L.map fun x => (ndK x.1, f x)) (ndK n) = none
  | [], _ => rfl
  | x :: L, h => by
    rw [List.map_cons, List.mem_cons, not_or] at h
    have e : ¬ ndK x.1 = ndK n := fun e => h.1 (ndK_inj e).symm
    have ih := sh_none (f := f) h.2
    unfold getP at *
    rw [List.map_cons, List.find?_cons]
    simp only [e, decide_false]
    exact ih
theorem sh_some {f : Sh → D} {n : Nd} : ∀ {L : List Sh}, n ∈ L.map (·.1) → ∃ A x B, L = A ++ x :: B ∧ x.1 = n ∧ n ∉ A.map (·.1) ∧ getP (L.map fun x => (ndK x.1, f x)) (ndK n) = some (f x)
  | [], h => nomatch h
  | x :: L, h => by
    by_cases e : x.1 = n
    · refine ⟨[], x, L, rfl, e, by simp, ?_⟩
      unfold getP
      rw [List.map_cons, List.find?_cons]
      simp [e]
    · have e' : ¬ ndK x.1 = ndK n := fun q => e (ndK_inj q)
      obtain ⟨A, y, B, h1, h2, h3, h4⟩ := sh_some (f := f) (L := L) (by
        rw [List.map_cons, List.mem_cons] at h
        exact h.resolve_left fun q => e q.symm)
      refine ⟨x :: A, y, B, by rw [h1]; rfl, h2, by rw [List.map_cons, List.mem_cons, not_or]; exact ⟨fun q => e q.symm, h3⟩, ?_⟩
      unfold getP at *
      rw [List.map_cons, List.find?_cons]
      simp only [e', decide_false]
      exact h4
theorem sh_put {n : Nd} {d : D} {L : List Sh} (h : n ∉ L.map (·.1)) : putP (L.map shKv) (ndK n) d = L.map shKv ++ [(ndK n, d)] := by
  unfold putP
  rw [show ((L.map shKv).any fun kv => decide (kv.1 = ndK n)) = false from by
    rw [List.any_map, List.any_eq_false]
    intro x hx
    have : ¬ ndK x.1 = ndK n := fun e => h (ndK_inj e ▸ List.mem_map_of_mem hx)
    show ¬ decide (ndK x.1 = ndK n) = true
    rw [decide_eq_false this]
    decide]
  simp
section
variable {ms : List Mv} {L : List Sh}
theorem GrpOk.nil : GrpOk [] [] := ⟨List.nodup_nil, fun _ h => (nomatch h), fun n => by simp [mvF]⟩
theorem GrpOk.old {A B : List Sh} {n : Nd} {a : Addr} {l : List (Rat × Nd)} (h : GrpOk ms (A ++ (n, a, l) :: B)) (s : Rat × Nd) : GrpOk (ms ++ [(n, s)]) (A ++ (n, a, l ++ [s]) :: B) := by
  have hnd := h.nd
  rw [List.map_append, List.map_cons] at hnd
  have hA : n ∉ A.map (·.1) := fun q => (List.nodup_append.mp hnd).2.2 _ q _ List.mem_cons_self rfl
  have hB : n ∉ B.map (·.1) := (List.nodup_cons.mp (List.nodup_append.mp hnd).2.1).1
  refine ⟨by rw [List.map_append, List.map_cons]; exact hnd, fun x hx => ?_, fun m => ?_⟩
  · rw [mvF_snoc]
    rcases List.mem_append.mp hx with hx | hx
    · rw [if_neg (fun e : n = x.1 => hA (e ▸ List.mem_map_of_mem hx))]
      exact h.is x (List.mem_append_left _ hx)
    · rcases List.mem_cons.mp hx with rfl | hx
      · rw [if_pos rfl, ← h.is (n, a, l) (List.mem_append_right _ List.mem_cons_self)]
      · rw [if_neg (fun e : n = x.1 => hB (e ▸ List.mem_map_of_mem hx))]
        exact h.is x (List.mem_append_right _ (List.mem_cons_of_mem _ hx))
  · have h1 := h.all m
    rw [List.map_append, List.map_cons] at h1 ⊢
    rw [h1, mvF_snoc]
    by_cases e : n = m
    · rw [if_pos e]
      have : m ∈ (A ++ (n, a, l) :: B).map (·.1) := by rw [List.map_append, List.map_cons, e]; simp
      have := (h.all m).mp this
      simp [this]
    · rw [if_neg e]
theorem GrpOk.new {n : Nd} {a : Addr} (h : GrpOk ms L) (hn : n ∉ L.map (·.1)) (s : Rat × Nd) : GrpOk (ms ++ [(n, s)]) (L ++ [(n, a, [s])]) := by
  have hz : mvF ms n = [] := Classical.byContradiction fun q => hn ((h.all n).mpr q)
  refine ⟨by rw [List.map_append]; exact List.nodup_append.mpr ⟨h.nd, by simp, fun x hx y hy e => hn (by simp only [List.map_cons, List.map_nil, List.mem_singleton] at hy; rw [← hy, ← e]; exact hx)⟩, fun x hx => ?_, fun m => ?_⟩
  · rw [mvF_snoc]
    rcases List.mem_append.mp hx with hx | hx
    · rw [if_neg (fun e : n = x.1 => hn (e ▸ List.mem_map_of_mem hx))]
      exact h.is x hx
    · rw [List.mem_singleton.mp hx, if_pos rfl, hz]
      rfl
  · rw [List.map_append, List.mem_append, h.all m, mvF_snoc]
    by_cases e : n = m
    · rw [if_pos e]
      simp [e]
    · rw [if_neg e]
      simp only [List.map_cons, List.map_nil, List.mem_singleton]
      exact ⟨fun o => o.elim id fun q => absurd q.symm e, .inl⟩
theorem GrpOk.sh (h : GrpOk ms L) : ShOk ms (L.map shKd) := fun n => by
  by_cases hn : n ∈ L.map (·.1)
  · obtain ⟨A, x, B, e, h1, _, h2⟩ := sh_some (f := fun x => .lst (x.2.2.map stD)) hn
    rw [show L.map shKd = L.map (fun x => (ndK x.1, .lst (x.2.2.map stD))) from rfl, h2, if_neg ((h.all n).mp hn), h.is x (by rw [e]; simp), h1]
  · rw [show L.map shKd = L.map (fun x => (ndK x.1, .lst (x.2.2.map stD))) from rfl, sh_none (f := fun x => .lst (x.2.2.map stD)) hn, if_pos (Classical.byContradiction fun q => hn ((h.all n).mpr q))]
end
def ShF (ms : List Mv) : V → Hp → Prop := fun v J => ∃ kvs, ShOk ms kvs ∧ DtF kvs v J
def liO (C : Addr) (ms : List Mv) (es : List Nd) : D := .obj C [("moves", .lst (ms.map mvD)), ("ends", .lst (es.map nD)), ("shelf", .fact (ShF ms))]
theorem Wf.shOpen {F : List (V × D)} {H : Hp} {M : List ME} {v : V} {ms : List Mv} (w : Wf F H M) (h : Kn F v (.fact (ShF ms))) : ∃ kvs, ShOk ms kvs ∧ Wf ((v, .fact (DtF kvs)) :: F) H M := by
  obtain ⟨I, Mc, w, a, hF⟩ := w.ex
  have h2 := h.is hF
  cases h2 with
  | fact s q =>
    obtain ⟨kvs, h3, h4⟩ := q
    exact ⟨kvs, h3, I, Mc, w, a, fun f hf => by
      rcases List.mem_cons.mp hf with rfl | hf
      · exact .fact s h4
      · exact hF f hf⟩
/-- the shelf is shut with its lists -/
theorem Wf.shShut {F : List (V × D)} {H : Hp} {M : List ME} {p : Addr} {ms : List Mv} {L : List Sh} (w : Wf F H (.dt p (L.map shKv) :: (L.map shMl ++ M))) (g : GrpOk ms L) : Wf ((.ref p, .fact (ShF ms)) :: F) H M := by
  have w1 : Wf F H (L.map shMl ++ (.dt p (L.map shKv) :: M)) := w.perm List.perm_middle.symm
  have w2 := Wf.frzLs (L.map fun x => (x.2.1, x.2.2.map stD)) (F := F) (M := .dt p (L.map shKv) :: M) (by rw [List.map_map]; exact w1)
  rw [List.map_map] at w2
  have hup : ∀ L' : List Sh, (∀ x ∈ L', x ∈ L) → KvUp (L.map ((fun x => (V.ref x.1, D.lst x.2)) ∘ fun x : Sh => (x.2.1, x.2.2.map stD)) ++ F) (L'.map shKv) (L'.map shKd) := fun L' => by
    induction L' with
    | nil => exact fun _ => .nil
    | cons x L' ih =>
      intro hx
      refine .cons (.mem (List.mem_append_left _ (List.mem_map.mpr ⟨x, hx x List.mem_cons_self, rfl⟩))) (ih fun y hy => hx y (List.mem_cons_of_mem _ hy))
  have w3 := (w2.dtUp (hup L fun _ h => h)).frzT .here
  obtain ⟨I, Mc, w, a, hF⟩ := w3.ex
  refine ⟨I, Mc, w, a, fun f hf => ?_⟩
  rcases List.mem_cons.mp hf with rfl | hf
  · have h2 := hF _ List.mem_cons_self
    cases h2 with
    | fact s q => exact .fact s ⟨_, g.sh, q⟩
  · exact hF f (List.mem_cons_of_mem _ (List.mem_append_right _ hf))
local macro_rules | `(tactic| ktn_call "n2" 0) => `(tactic| with_reducible refine s_dset ?_)
local macro_rules | `(tactic| ktn_call "n2" 0) => `(tactic| with_reducible refine s_dgetT2 ?_)
theorem getD_snd {l : List Nd} {x : Nd} : (l ++ [x]).getD l.length (0, 0) = x := by
  rw [List.getD_eq_getElem?_getD, List.getElem?_append_right (Nat.le_refl _), Nat.sub_self]
  rfl
theorem ndD_inj {a b : Nd} (h : nD a = nD b) : a = b := by
  obtain ⟨a1, a2⟩ := a
  obtain ⟨b1, b2⟩ := b
  unfold nD at h
  simp only [D.tup.injEq, List.cons.injEq, D.int.injEq, and_true] at h
  rw [h.1, h.2]
theorem nb_ndD (n : Nd) : NB 1 (nD n) := .tup fun d hd => by
  simp only [List.mem_cons, List.not_mem_nil, or_false] at hd
  rcases hd with rfl | rfl <;> exact .int _
theorem nD_mem {n : Nd} {l : List Nd} : decide (n ∈ l) = true ↔ nD n ∈ l.map nD := by
  rw [decide_eq_true_iff, List.mem_map]
  exact ⟨fun h => ⟨n, h, rfl⟩, fun ⟨m, h, e⟩ => ndD_inj e ▸ h⟩
theorem n_inN {K : PySem.W.Frag} {F : List (V × D)} {H : Hp} {M : List ME} {x y : V} {n : Nd} {l : List Nd} {Q : VK} (w : Wf F H M) (hx : Rk F M x (nD n)) (hy : Rk F M y (.lst (l.map nD))) (q : Q (.bl (decide (n ∈ l))) H) : rInD K x y H Q :=
  n_inD w hx hy (nb_ndD n) (fun e he => by obtain ⟨m, _, rfl⟩ := List.mem_map.mp he; exact nb_ndD m) (by decide) nD_mem q
theorem n_notinN {K : PySem.W.Frag} {F : List (V × D)} {H : Hp} {M : List ME} {x y : V} {n : Nd} {l : List Nd} {Q : VK} (w : Wf F H M) (hx : Rk F M x (nD n)) (hy : Rk F M y (.lst (l.map nD))) (q : Q (.bl (!decide (n ∈ l))) H) : rNotInD K x y H Q :=
  n_notinD w hx hy (nb_ndD n) (fun e he => by obtain ⟨m, _, rfl⟩ := List.mem_map.mp he; exact nb_ndD m) (by decide) nD_mem q
theorem Wf.miUp {F : List (V × D)} {H : Hp} {M : List ME} {x C p : Addr} {f1 f2 f3 : Str} {d1 d2 d : D} (w : Wf F H (.mi x C [(f1, d1), (f2, d2), (f3, .ref p)] :: M)) (h : Kn F (.ref p) d) : Wf F H (.mi x C [(f1, d1), (f2, d2), (f3, d)] :: M) := by
  obtain ⟨I, Mc, w, a, hF⟩ := w.ex
  cases a with
  | cons h1 a =>
    cases h1 with
    | mi b =>
      cases b with
      | cons b1 b =>
        cases b with
        | cons b2 b =>
          cases b with
          | cons b3 b =>
            cases b
            rw [b3.ref_eq] at w
            exact ⟨I, _, w, .cons (.mi (.cons b1 (.cons b2 (.cons (h.is hF) .nil)))) a, hF⟩
abbrev mv0 : Mv := ((0, 0), 0, (0, 0))
theorem getD_mem {α : Type} {l : List α} {i : Nat} (z : α) (h : i < l.length) : l.getD i z ∈ l := by
  rw [List.getD_eq_getElem?_getD, List.getElem?_eq_getElem h]
  exact List.getElem_mem h
theorem NsOk.nn {ns : List Nd} (h : NsOk ns) {n : Nd} (hn : n ∈ ns) : 0 ≤ n.1 ∧ 0 ≤ n.2 := ⟨(h.ok n hn).1, (h.ok n hn).2.1⟩
theorem Rem.ofMem {M : List ME} {e : ME} (h : e ∈ M) : ∃ M0, Rem M e M0 ∧ List.Perm M (e :: M0) := by
  induction M with
  | nil => cases h
  | cons x M ih =>
    rcases List.mem_cons.mp h with rfl | h
    · exact ⟨M, .here, .refl _⟩
    · obtain ⟨M0, h1, h2⟩ := ih h
      exact ⟨x :: M0, .there h1, (h2.cons x).trans (List.Perm.swap _ _ _)⟩
theorem Kn.ks {F FX : List (V × D)} {v : V} {ds : List D} (h : Kn F v (.lst ds)) (k : KS F FX) : Kn FX v (.lst ds) := by
  cases h with
  | mem h => exact k _ h

abbrev s_is_node : Stmt := top 16
theorem sc_is_node : FnScope ["thing", "number"] ["thing"] (defScope s_is_node) := ⟨rfl, rfl, rfl, by decide +kernel, rfl, by decide +kernel, by decide +kernel⟩
def sp_is_node : Sp := fun vs H Q _ => ∃ F M v, ∃ n : Nd, vs = [v] ∧ Wf F H M ∧ Rk F M v (nD n) ∧ 0 ≤ n.1 ∧ 0 ≤ n.2 ∧ ∀ H', Wf F H' M → Q (.bl true) H'
theorem n_isnode {F : List (V × D)} {H : Hp} {M : List ME} {v : V} {n : Nd} {Q : VK} {E : XK} (w : Wf F H M) (hv : Rk F M v (nD n)) (h : 0 ≤ n.1 ∧ 0 ≤ n.2) (q : ∀ H', Wf F H' M → Q (.bl true) H') : sp_is_node ([v] ++ []) H Q E := ⟨F, M, v, n, rfl, w, hv, h.1, h.2, q⟩

theorem ok_is_node {f : Addr} {fd : FuncData} (F : Fun K "is_node" "is_node" s_is_node f fd) (B : Bn mg) (c_is_whole : Cal P wd K mg base "is_whole" 1 ["thing"] [] (sp_is_whole K))  : FnOk P wd K mg base CX0 2 f fd ["thing"] sp_is_node := by
  refine F.ok sc_is_node (fun vs H Q E h => ?_) (fun cdv A outer s H vs Q E hr h => ?_)
  · obtain ⟨F, M, v, n, rfl, w, hv, h0, h1, k⟩ := h
    all_goals rfl
  · obtain ⟨F, M, v, n, rfl, w, hv, h0, h1, k⟩ := h
    refine ⟨_, (pss_cons (ps_if (pw_or (pt_not (pt_val (pe_callB (k_isi (K := K) rfl) (by rfl) B.isinstance_ (by decide +kernel) (pa_cons (pv 0) (pa_cons (pe_bltn (v := .ty "tuple") (by rfl) B.tuple_ (by decide +kernel) rfl) pa_nil))))) (pw_or1 (pt_cmpR (k_ne (K := K) rfl hr.units) (pe_callB (k_len (K := K) rfl) (by rfl) B.len_ (by decide +kernel) (pa_cons (pv 0) pa_nil)) pe_int (nomark _)))).pt (pss_one (ps_ret pe_bl)) pss_nil)
      (pss_cons (ps_for PassesOwn.never rfl (kpi_tup (K := K) rfl (pv 0)) (pg_name (i := 1) sc_is_node.nd rfl (Or.inl rfl)) (pss_one (ps_if (pw_or (pt_not (pt_val (pe_cal c_is_whole (hr.mono (by decide)) (by rfl) (pa_cons (pv 1) pa_nil)))) (pw_or1 (pt_cmpR op_lt (pv 1) pe_int (nomark _)))).pt (pss_one (ps_ret pe_bl)) pss_nil)))
      (pss_one (ps_ret pe_bl)))), ?_⟩
    try dsimp only [cxOf, Cx.nox, Cx.wish, Cx.blk]
    have hv : Rk F M v (.tup [.int n.1, .int n.2]) := hv
    rw [show L2.start (["thing", "number"] : List Str) [v] = [some v, none] from rfl]
    wtm_at "n"
    refine n_forT w (fun i σ' F' M' => ∃ x1, σ' = [some v, x1] ∧ F = F' ∧ M = M') (by rintro i σ' F' M' ⟨_, rfl, rfl, rfl⟩; exact hv) ⟨_, rfl, rfl, rfl⟩ ?_ ?_
    · clear w
      rintro i d z σ' H' F' M' hd ⟨x1, rfl, rfl, rfl⟩ w
      obtain ⟨m, hm, rfl⟩ : ∃ m : Int, 0 ≤ m ∧ d = .int m := by
        cases i with
        | zero => cases hd; exact ⟨_, h0, rfl⟩
        | succ i =>
          cases i with
          | zero => cases hd; exact ⟨_, h1, rfl⟩
          | succ i => cases hd
      obtain ⟨rfl, w1⟩ := w.eq0
      clear w
      wtm_at "no"
      exact ⟨_, _, ⟨_, rfl, rfl, rfl⟩, w1⟩
    clear w
    rintro σ' H' F' M' ⟨x1, rfl, rfl, rfl⟩ w
    wtm_at "n"
    exact k _ w
abbrev s_is_move : Stmt := top 17
theorem sc_is_move : FnScope ["thing", "node", "cost", "after"] ["thing"] (defScope s_is_move) := ⟨rfl, rfl, rfl, by decide +kernel, rfl, by decide +kernel, by decide +kernel⟩
theorem n_isfrqM {F : List (V × D)} {H : Hp} {M : List ME} {v : V} {p : Rat} {Q : VK} {E : XK} (w : Wf F H M) (h : Kn F v (frq p)) (q : Q (.bl true) H) : sp_is_fraction ([v] ++ []) H Q E := by
  refine use_isfr (I := H) (M := []) Fs.W.self (w.rd (M := M) h.rkT) (Ask.two ⟨_, rfl⟩ ⟨_, rfl⟩) ?_
  rw [show (frq p).isfr = true from decide_eq_true ⟨by have := den_pos' p; omega, gcd_q p⟩]
  exact q
def sp_is_move : Sp := fun vs H Q _ => ∃ F M v, ∃ m : Mv, vs = [v] ∧ Wf F H M ∧ Rk F M v (mvD m) ∧ (0 ≤ m.1.1 ∧ 0 ≤ m.1.2) ∧ (0 ≤ m.2.2.1 ∧ 0 ≤ m.2.2.2) ∧ m.1.1 < m.2.2.1 ∧ 0 ≤ m.2.1 ∧ ∀ H', Wf F H' M → Q (.bl true) H'
theorem n_ismove {F : List (V × D)} {H : Hp} {M : List ME} {v : V} {m : Mv} {Q : VK} {E : XK} (w : Wf F H M) (hv : Rk F M v (mvD m)) (h1 : 0 ≤ m.1.1 ∧ 0 ≤ m.1.2) (h2 : 0 ≤ m.2.2.1 ∧ 0 ≤ m.2.2.2) (h3 : m.1.1 < m.2.2.1) (h4 : 0 ≤ m.2.1) (q : ∀ H', Wf F H' M → Q (.bl true) H') : sp_is_move ([v] ++ []) H Q E := ⟨F, M, v, m, rfl, w, hv, h1, h2, h3, h4, q⟩

theorem ok_is_move {f : Addr} {fd : FuncData} (F : Fun K "is_move" "is_move" s_is_move f fd) (B : Bn mg) (c_is_node : Cal P wd K mg base "is_node" 2 ["thing"] [] sp_is_node) (c_is_fraction : Cal P wd K mg base "is_fraction" 2 ["thing"] [] sp_is_fraction)  : FnOk P wd K mg base CX0 3 f fd ["thing"] sp_is_move := by
  refine F.ok sc_is_move (fun vs H Q E h => ?_) (fun cdv A outer s H vs Q E hr h => ?_)
  · obtain ⟨F, M, v, m, rfl, w, hv, h1, h2, h3, h4, k⟩ := h
    all_goals rfl
  · obtain ⟨F, M, v, m, rfl, w, hv, h1, h2, h3, h4, k⟩ := h
    refine ⟨_, (pss_cons (ps_if (pw_or (pt_not (pt_val (pe_callB (k_isi (K := K) rfl) (by rfl) B.isinstance_ (by decide +kernel) (pa_cons (pv 0) (pa_cons (pe_bltn (v := .ty "tuple") (by rfl) B.tuple_ (by decide +kernel) rfl) pa_nil))))) (pw_or1 (pt_cmpR (k_ne (K := K) rfl hr.units) (pe_callB (k_len (K := K) rfl) (by rfl) B.len_ (by decide +kernel) (pa_cons (pv 0) pa_nil)) pe_int (nomark _)))).pt (pss_one (ps_ret pe_bl)) pss_nil)
      (pss_cons (ps_asg (pv 0) (kpg_tup (K := K) (n := 3) rfl rfl (pgs_cons (pg_name (i := 1) sc_is_move.nd rfl (Or.inl rfl)) (pgs_cons (pg_name (i := 2) sc_is_move.nd rfl (Or.inl rfl)) (pgs_cons (pg_name (i := 3) sc_is_move.nd rfl (Or.inl rfl)) pgs_nil)))))
      (pss_cons (ps_if (pw_or (pt_not (pt_val (pe_cal c_is_node (hr.mono (by decide)) (by rfl) (pa_cons (pv 1) pa_nil)))) (pw_or (pt_not (pt_val (pe_cal c_is_node (hr.mono (by decide)) (by rfl) (pa_cons (pv 3) pa_nil)))) (pw_or1 (pt_cmpR op_le (pe_ix (k_ix (K := K) rfl) (pv 3) pe_int (fun _ _ => rfl)) (pe_ix (k_ix (K := K) rfl) (pv 1) pe_int (fun _ _ => rfl)) (nomark _))))).pt (pss_one (ps_ret pe_bl)) pss_nil)
      (pss_one (ps_ret (pe_and (pe_cal c_is_fraction (hr.mono (by decide)) (by rfl) (pa_cons (pv 2) pa_nil)) (pe_one (pe_cmpR op_ge (pe_ix (k_ix (K := K) rfl) (pv 2) pe_int (fun _ _ => rfl)) pe_int (nomark _))))))))), ?_⟩
    try dsimp only [cxOf, Cx.nox, Cx.wish, Cx.blk]
    have hv : Rk F M v (.tup [nD m.1, frq m.2.1, nD m.2.2]) := hv
    rw [show L2.start (["thing", "node", "cost", "after"] : List Str) [v] = [some v, none, none, none] from rfl]
    wtm_at "n"
    rename_i a b c w1
    clear w
    refine n_isnode w1 (.mem (by simp)) h1 fun H1 w => ?_
    clear w1
    wtm_at "n"
    refine n_isnode w (.mem (by simp)) h2 fun H2 w2 => ?_
    clear w
    have w : Wf ((a, .tup [.int m.1.1, .int m.1.2]) :: (b, .tup [.int m.2.1.num, .int (m.2.1.den : Int)]) :: (c, .tup [.int m.2.2.1, .int m.2.2.2]) :: F) H2 M := w2
    clear w2
    wtm_at "no"
    refine n_isfrqM (p := m.2.1) w (.mem (by simp [frq])) ?_
    wtm_at "n"
    rw [decide_eq_true (show (0 : Int) ≤ m.2.1.num from Rat.num_nonneg.mpr h4)]
    exact k _ (w.sub (fun f hf => .mem (by simp [hf])) (.refl _))
abbrev s_Listed___init__ : Stmt := inClass (top 19) 0
theorem sc_Listed___init__ : FnScope ["self", "moves", "ends", "k", "node", "cost", "after"] ["self", "moves", "ends"] (defScope s_Listed___init__) := ⟨rfl, rfl, rfl, by decide +kernel, rfl, by decide +kernel, by decide +kernel⟩
def sp_Listed___init__ (C : Addr) : Sp := fun vs H Q _ => ∃ F M x v u, ∃ (ns : List Nd) (ms : List Mv) (es : List Nd), vs = [.ref x, v, u] ∧ Wf F H (.mi x C [] :: M) ∧ Rk F (.mi x C [] :: M) v (.lst (ms.map mvD)) ∧ Rk F (.mi x C [] :: M) u (.lst (es.map nD)) ∧ GrOk ns ms es ∧ ∀ H', Wf ((.ref x, liO C ms es) :: F) H' M → Q .non H'
theorem n_mkLi {C : Addr} {F : List (V × D)} {H : Hp} {M : List ME} {v u : V} {ns : List Nd} {ms : List Mv} {es : List Nd} {Q : VK} {E : XK} (w : Wf F H M) (hv : Rk F M v (.lst (ms.map mvD))) (hu : Rk F M u (.lst (es.map nD))) (ok : GrOk ns ms es) (q : ∀ p H', Wf ((.ref p, liO C ms es) :: F) H' M → Q (.ref p) H') : MakeQ C (sp_Listed___init__ C) E Q [v, u] H := fun x dx hx hd ne => by
  have w1 : Wf F (upd H dx (.own x)) M := w.more (same_new hd)
  have hx1 : upd H dx (.own x) x = none := by rw [upd_ne ne.symm]; exact hx
  obtain ⟨I, Mc, w1, ac, hF⟩ := w1.ex
  exact ⟨F, M, x, v, u, ns, ms, es, rfl, ⟨I, (x, .ins C dx []) :: Mc, w1.newM hx1, .cons (.mi .nil) ac, hF⟩, hv.more, hu.more, ok, fun H' w' => ⟨rfl, q x H' w'⟩⟩

theorem ok_Listed___init__ {f : Addr} {fd : FuncData} (F : Fun K "__init__" "Listed.__init__" s_Listed___init__ f fd) (B : Bn mg) (c_look_list : Cal P wd K mg base "look_list" 1 ["things", "place", "least", "most"] [] sp_look_list) (c_is_move : Cal P wd K mg base "is_move" 3 ["thing"] [] sp_is_move) (c_is_node : Cal P wd K mg base "is_node" 2 ["thing"] [] sp_is_node) (o_Listed : OwnC K C_Listed) (n_Listed : ∀ f ∈ (["moves", "ends", "shelf"] : List Str), NoAttr K C_Listed f) (g_MOST_LISTED : ∃ t, mg "MOST_LISTED" = some (.int 400 t))  : FnOk P wd K mg base CX0 4 f fd ["self", "moves", "ends"] (sp_Listed___init__ C_Listed) := by
  refine F.ok sc_Listed___init__ (fun vs H Q E h => ?_) (fun cdv A outer s H vs Q E hr h => ?_)
  · obtain ⟨F, M, x, v, u, ns, ms, es, rfl, w, hv, hu, ok, k⟩ := h
    all_goals rfl
  · obtain ⟨F, M, x, v, u, ns, ms, es, rfl, w, hv, hu, ok, k⟩ := h
    refine ⟨_, (pss_cons (ps_expr (pe_cal c_look_list (hr.mono (by decide)) (by rfl) (pa_cons (pv 1) (pa_cons pe_int (pa_cons pe_int (pa_cons (pe_globI (by rfl) g_MOST_LISTED) pa_nil))))))
      (pss_cons (ps_for PassesOwn.never rfl (pi_range1 (by rfl) B.range_ (pa_cons (pe_callB (k_len (K := K) rfl) (by rfl) B.len_ (by decide +kernel) (pa_cons (pv 1) pa_nil)) pa_nil)) (pg_name (i := 3) sc_Listed___init__.nd rfl (Or.inl rfl)) (pss_one (ps_if (pt_not (pt_val (pe_cal c_is_move (hr.mono (by decide)) (by rfl) (pa_cons (pe_ix (k_ix (K := K) rfl) (pv 1) (pv 3) (fun _ _ => rfl)) pa_nil)))) pss_never pss_nil)))
      (pss_cons (ps_expr (pe_cal c_look_list (hr.mono (by decide)) (by rfl) (pa_cons (pv 2) (pa_cons pe_int (pa_cons pe_int (pa_cons (pe_globI (by rfl) g_MOST_LISTED) pa_nil))))))
      (pss_cons (ps_for PassesOwn.never rfl (pi_range1 (by rfl) B.range_ (pa_cons (pe_callB (k_len (K := K) rfl) (by rfl) B.len_ (by decide +kernel) (pa_cons (pv 2) pa_nil)) pa_nil)) (pg_name (i := 3) sc_Listed___init__.nd rfl (Or.inl rfl)) (pss_one (ps_if (pt_not (pt_val (pe_cal c_is_node (hr.mono (by decide)) (by rfl) (pa_cons (pe_ix (k_ix (K := K) rfl) (pv 2) (pv 3) (fun _ _ => rfl)) pa_nil)))) pss_never pss_nil)))
      (pss_cons (kps_fld (K := K) rfl (pv 0) (pe_callTy (k_list (K := K) rfl) (by rfl) B.list_ (by decide +kernel) (pa_cons (pv 1) pa_nil)) rfl)
      (pss_cons (kps_fld (K := K) rfl (pv 0) (pe_callTy (k_list (K := K) rfl) (by rfl) B.list_ (by decide +kernel) (pa_cons (pv 2) pa_nil)) rfl)
      (pss_cons (kps_fld (K := K) rfl (pv 0) pe_dnewT rfl)
      (pss_one (ps_for PassesOwn.never rfl (kpi_list (K := K) rfl (pv 1)) (kpg_tup (K := K) (n := 3) rfl rfl (pgs_cons (pg_name (i := 4) sc_Listed___init__.nd rfl (Or.inl rfl)) (pgs_cons (pg_name (i := 5) sc_Listed___init__.nd rfl (Or.inl rfl)) (pgs_cons (pg_name (i := 6) sc_Listed___init__.nd rfl (Or.inl rfl)) pgs_nil)))) (pss_one (ps_expr (pe_bm PySem.F.plainAttrs_list PySem.F.slot_list_append PySem.F.type_list_append mt_append (pe_dsetT (hu1 hr.units) (kpe_fld (K := K) rfl (pv 0) rfl) (pv 4) (pe_lst pa_nil) ⟨rfl, rfl, rfl, rfl⟩) (pa_cons (pe_tup (pa_cons (pv 5) (pa_cons (pv 6) pa_nil))) pa_nil))))))))))))), ?_⟩
    try dsimp only [cxOf, Cx.nox, Cx.wish, Cx.blk]
    rw [show L2.start (["self", "moves", "ends", "k", "node", "cost", "after"] : List Str) [.ref x, v, u] = [some (.ref x), some v, some u, none, none, none, none] from rfl]
    wtm_at "n"
    refine n_looklist w hv (by omega) (by rw [List.length_map]; have := ok.ml; omega) ?_
    wtm_at "n"
    rw [List.length_map]
    refine s_rng1' (by omega) (by have := ok.ml; omega) ?_
    rw [Int.toNat_natCast]
    refine n_forR w (fun i σ' F' M' => ∃ x3, σ' = [some (.ref x), some v, some u, x3, none, none, none] ∧ F = F' ∧ M' = .mi x C_Listed [] :: M) ⟨_, rfl, rfl, rfl⟩ ?_ ?_
    · clear w
      rintro i σ' H' F' M' hi ⟨x3, rfl, rfl, rfl⟩ w
      wtm_at "n"
      refine n_ixM (f := mvD) (z := mv0) (j := i) w hv (by omega) hi fun y w => ?_
      have hm := ok.m _ (getD_mem mv0 hi)
      wtm_at "n"
      refine n_ismove w (.mem List.mem_cons_self) (ok.n.nn hm.a) (ok.n.nn hm.b) hm.up hm.nn fun H2 w => ?_
      wtm_at "n"
      exact ⟨_, _, ⟨_, rfl, rfl, rfl⟩, w.tail⟩
    clear w
    rintro σ' H' F' M' ⟨x3, rfl, rfl, rfl⟩ w
    wtm_at "n"
    refine n_looklist w hu (by omega) (by rw [List.length_map]; have := ok.el; omega) ?_
    wtm_at "n"
    rw [List.length_map]
    refine s_rng1' (by omega) (by have := ok.el; omega) ?_
    rw [Int.toNat_natCast]
    refine n_forR w (fun i σ' F' M' => ∃ x3, σ' = [some (.ref x), some v, some u, x3, none, none, none] ∧ F = F' ∧ M' = .mi x C_Listed [] :: M) ⟨_, rfl, rfl, rfl⟩ ?_ ?_
    · clear w
      rintro i σ' H' F' M' hi ⟨x3, rfl, rfl, rfl⟩ w
      wtm_at "n"
      refine n_ixM (f := nD) (z := (0, 0)) (j := i) w hu (by omega) hi fun y w => ?_
      wtm_at "n"
      refine n_isnode w (.mem List.mem_cons_self) (ok.e _ (getD_mem (0, 0) hi)) fun H2 w => ?_
      wtm_at "n"
      exact ⟨_, _, ⟨_, rfl, rfl, rfl⟩, w.tail⟩
    clear w
    rintro σ' H' F' M' ⟨x3, rfl, rfl, rfl⟩ w
    repeat (first | tbr_iter "f1" | wtm_at "e1" | wtm_at "s1" | wtm_at "b1")
    refine n_list w hv fun pw H2 w => ?_
    have w := w.frzL .here
    repeat (first | tbr_iter "f1" | wtm_at "e1" | wtm_at "s1" | wtm_at "b1")
    refine n_sf (f := "moves") (d := .lst (ms.map mvD)) w (by ktf_call "foc") (.mem List.mem_cons_self) o_Listed.cl n_Listed (by decide) (by decide) fun H3 w => ?_
    rw [putD_new (by (try simp only [List.nil_append, List.cons_append, List.map_cons, List.map_nil]); decide)] at w
    repeat (first | tbr_iter "f1" | wtm_at "e1" | wtm_at "s1" | wtm_at "b1")
    have gen : ∀ {F2 : List (V × D)} {fs : List (Str × D)} {A : List ME} {y : V} {ds : List D}, (∀ f ∈ F, f ∈ F2) → Rk F (.mi x C_Listed [] :: M) y (.lst ds) → Rk F2 (.mi x C_Listed fs :: (A ++ M)) y (.lst ds) := by
      intro F2 fs A y ds hF h
      cases h with
      | mem h => exact .mem (hF _ h)
      | ml h => exact .ml (by rcases List.mem_cons.mp h with h | h; cases h; exact List.mem_cons_of_mem _ (List.mem_append_right _ h))
    refine n_list w (gen (A := []) (fun f hf => List.mem_cons_of_mem _ hf) hu) fun pr H5 w => ?_
    have w := w.frzL .here
    repeat (first | tbr_iter "f1" | wtm_at "e1" | wtm_at "s1" | wtm_at "b1")
    refine n_sf (f := "ends") (d := .lst (es.map nD)) w (by ktf_call "foc") (.mem List.mem_cons_self) o_Listed.cl n_Listed (by decide) (by simp) fun H6 w => ?_
    rw [putD_new (by (try simp only [List.nil_append, List.cons_append, List.map_cons, List.map_nil]); decide)] at w
    repeat (first | tbr_iter "f1" | wtm_at "e1" | wtm_at "s1" | wtm_at "b1")
    refine s_dnewT w fun ps H7 w => ?_
    repeat (first | tbr_iter "f1" | wtm_at "e1" | wtm_at "s1" | wtm_at "b1")
    refine n_sf (f := "shelf") (d := .ref ps) w (by ktf_call "foc") (.ref _) o_Listed.cl n_Listed (by decide) (by simp) fun H8 w => ?_
    rw [putD_new (by (try simp only [List.nil_append, List.cons_append, List.map_cons, List.map_nil]); decide)] at w
    wtm_at "n"
    have w : Wf ((V.ref pr, D.lst (es.map nD)) :: (V.ref pw, D.lst (ms.map mvD)) :: F) H8 (.dt ps (([] : List Sh).map shKv) :: .mi x C_Listed [("moves", .lst (ms.map mvD)), ("ends", .lst (es.map nD)), ("shelf", .ref ps)] :: (([] : List Sh).map shMl ++ M)) := w
    refine n_forL w (fun i σ' F' M' => ∃ (L : List Sh) (x4 x5 x6 : Option V), σ' = [some (.ref x), some v, some u, x3, x4, x5, x6] ∧ F' = (V.ref pr, D.lst (es.map nD)) :: (V.ref pw, D.lst (ms.map mvD)) :: F ∧ M' = .dt ps (L.map shKv) :: .mi x C_Listed [("moves", .lst (ms.map mvD)), ("ends", .lst (es.map nD)), ("shelf", .ref ps)] :: (L.map shMl ++ M) ∧ GrpOk (ms.take i) L) (by rintro i σ' F' M' ⟨L, _, _, _, rfl, rfl, rfl, _⟩; exact (gen (fun f hf => by simp [hf]) hv).more) ⟨[], _, _, _, rfl, rfl, rfl, GrpOk.nil⟩ ?_ ?_
    · clear w
      rintro i d z σ' H' F' M' hd ⟨L, x4, x5, x6, rfl, rfl, rfl, hg⟩ w
      obtain ⟨m, hm, rfl⟩ := map_get hd
      have hil := (List.getElem?_eq_some_iff.mp hm).1
      have hml := ok.ml
      have hL : L.length ≤ 400 := by
        have h1 := len_sub (l := L.map (·.1)) (m := ns) hg.nd fun n hn => by
          have := (hg.all n).mp hn
          obtain ⟨s, hs⟩ := List.exists_mem_of_ne_nil _ this
          exact (ok.m _ (List.mem_of_mem_take (mem_mvF.mp hs))).a
        have := ok.n.le
        rw [List.length_map] at h1
        omega
      refine n_gtup3 (d0 := nD m.1) (d1 := frq m.2.1) (d2 := nD m.2.2) w (.mem List.mem_cons_self) fun a b c w => ?_
      have hyk : ∀ M0 : List ME, ∀ F0 : List (V × D), (a, nD m.1) ∈ F0 → Rk F0 M0 a (.tup ((ndK m.1).map keyD)) := fun M0 F0 h => .mem h
      wtm_at "n"
      refine n_dOn w (by ktf_call "mem") ?_
      wtm_at "n"
      rename_i q Hq wq
      clear w
      by_cases hin : m.1 ∈ L.map (·.1)
      · obtain ⟨A, ⟨yn, ya, yl⟩, B, rfl, e1, _, hget⟩ := sh_some (f := fun x => .ref x.2.1) hin
        obtain rfl : yn = m.1 := e1
        refine n_dsetT (k := ndK m.1) (d := .ref q) wq (by ktf_call "foc") (hyk _ _ (by simp)) (.ref _) (by rw [List.length_map]; omega) (fun e u he w => ?_) (fun hn => ?_)
        rotate_left
        · rw [show (A ++ (m.1, ya, yl) :: B).map shKv = (A ++ (m.1, ya, yl) :: B).map (fun x => (ndK x.1, .ref x.2.1)) from rfl, hget] at hn
          cases hn
        rw [show (A ++ (m.1, ya, yl) :: B).map shKv = (A ++ (m.1, ya, yl) :: B).map (fun x => (ndK x.1, .ref x.2.1)) from rfl, hget] at he
        cases he
        obtain ⟨rfl, w1⟩ := w.ref0
        clear w wq
        have hyl : yl.length ≤ 400 := by
          rw [show yl = mvF (ms.take i) m.1 from hg.is (m.1, ya, yl) (by simp)]
          refine Nat.le_trans (mvF_len _) ?_
          rw [List.length_take]
          omega
        rw [List.map_append (f := shMl), List.map_cons (f := shMl), List.append_assoc, List.cons_append] at w1
        have hmem : ME.ml ya (yl.map stD) ∈ A.map shMl ++ shMl (m.1, ya, yl) :: (B.map shMl ++ M) := by simp [shMl]
        wtm_at "n"
        rename_i t Ht wt
        refine n_app (ds := yl.map stD) (d := stD m.2) wt (.there (.there (.there (Foc.app (A.map shMl) .here)))) (.mem List.mem_cons_self) (by rw [List.length_map]; omega) fun H10 w => ?_
        wtm_at "n"
        refine ⟨_, _, ⟨A ++ (m.1, ya, yl ++ [m.2]) :: B, _, _, _, rfl, rfl, rfl, ?_⟩, ?_⟩
        · rw [take_snoc hm]
          exact hg.old m.2
        · rw [List.map_append (f := shMl), List.map_cons (f := shMl), List.append_assoc, List.cons_append, show shMl (m.1, ya, yl ++ [m.2]) = .ml ya (yl.map stD ++ [stD m.2]) from by unfold shMl; rw [List.map_append]; rfl]
          rw [show (A ++ (m.1, ya, yl ++ [m.2]) :: B).map shKv = (A ++ (m.1, ya, yl) :: B).map shKv from by rw [List.map_append, List.map_append]; rfl]
          exact w.sub (fun f hf => .mem (by simp only [List.mem_cons] at hf ⊢; rcases hf with h | h | h <;> simp [h])) (.cons _ (.refl _))
      · refine n_dsetT (k := ndK m.1) (d := .ref q) wq (by ktf_call "foc") (hyk _ _ (by simp)) (.ref _) (by rw [List.length_map]; omega) (fun e u he w => ?_) (fun hn H9 w => ?_)
        · rw [show L.map shKv = L.map (fun x => (ndK x.1, .ref x.2.1)) from rfl, sh_none hin] at he
          cases he
        rw [sh_put hin] at w
        clear wq
        wtm_at "n"
        rename_i t Ht wt H10 w10
        refine ⟨_, _, ⟨L ++ [(m.1, q, [m.2])], _, _, _, rfl, rfl, rfl, ?_⟩, ?_⟩
        · rw [take_snoc hm]
          exact hg.new hin m.2
        · rw [List.map_append (f := shMl), List.append_assoc, List.map_append (f := shKv)]
          refine Wf.sub (w10.perm (M' := .dt ps (L.map shKv ++ [(ndK m.1, .ref q)]) :: .mi x C_Listed [("moves", .lst (ms.map mvD)), ("ends", .lst (es.map nD)), ("shelf", .ref ps)] :: (L.map shMl ++ .ml q ([] ++ [stD m.2]) :: M)) ?_) (fun f hf => .mem (by simp only [List.mem_cons] at hf ⊢; rcases hf with h | h | h <;> simp [h])) (.refl _)
          exact (List.perm_middle (l₁ := .dt ps (L.map shKv ++ [(ndK m.1, .ref q)]) :: .mi x C_Listed [("moves", .lst (ms.map mvD)), ("ends", .lst (es.map nD)), ("shelf", .ref ps)] :: L.map shMl) (l₂ := M)).symm
    clear w
    rintro σ' H' F' M' ⟨L, x4, x5, x6, rfl, rfl, rfl, hg⟩ w
    rw [List.length_map, List.take_length] at hg
    have w2 := (w.perm (M' := .dt ps (L.map shKv) :: (L.map shMl ++ (.mi x C_Listed [("moves", .lst (ms.map mvD)), ("ends", .lst (es.map nD)), ("shelf", .ref ps)] :: M))) (.cons _ List.perm_middle.symm)).shShut hg
    have w3 := (w2.miUp (.mem List.mem_cons_self)).frzI .here
    wtm_at "n"
    exact k _ (w3.sub (fun f hf => .mem (by simp only [List.mem_cons] at hf ⊢; rcases hf with h | h; exact .inl h; simp [h])) (.refl _))
abbrev s_Listed_first_node : Stmt := inClass (top 19) 1
theorem sc_Listed_first_node : FnScope ["self"] ["self"] (defScope s_Listed_first_node) := ⟨rfl, rfl, rfl, by decide +kernel, rfl, by decide +kernel, by decide +kernel⟩
def sp_Listed_first_node : Sp := fun vs H Q _ => ∃ F M v, vs = [v] ∧ Wf F H M ∧ ∀ r H', Wf ((r, nD (0, 0)) :: F) H' M → Q r H'
theorem n_lifirst {F : List (V × D)} {H : Hp} {M : List ME} {v : V} {Q : VK} {E : XK} (w : Wf F H M) (q : ∀ r H', Wf ((r, nD (0, 0)) :: F) H' M → Q r H') : sp_Listed_first_node (v :: ([] ++ [])) H Q E := ⟨F, M, v, rfl, w, q⟩

theorem ok_Listed_first_node {f : Addr} {fd : FuncData} (F : Fun K "first_node" "Listed.first_node" s_Listed_first_node f fd) (B : Bn mg)  : FnOk P wd K mg base CX0 1 f fd ["self"] (sp_Listed_first_node) := by
  refine F.ok sc_Listed_first_node (fun vs H Q E h => ?_) (fun cdv A outer s H vs Q E hr h => ?_)
  · obtain ⟨F, M, v, rfl, w, k⟩ := h
    all_goals rfl
  · obtain ⟨F, M, v, rfl, w, k⟩ := h
    refine ⟨_, (pss_one (ps_ret (pe_tup (pa_cons pe_int (pa_cons pe_int pa_nil))))), ?_⟩
    try dsimp only [cxOf, Cx.nox, Cx.wish, Cx.blk]
    wtm_at "n"
    rename_i p H1 w
    exact k _ _ w
abbrev s_Listed_steps_from : Stmt := inClass (top 19) 2
theorem sc_Listed_steps_from : FnScope ["self", "node"] ["self", "node"] (defScope s_Listed_steps_from) := ⟨rfl, rfl, rfl, by decide +kernel, rfl, by decide +kernel, by decide +kernel⟩
def sp_Listed_steps_from (C : Addr) : Sp := fun vs H Q _ => ∃ F M x v, ∃ (n : Nd) (ms : List Mv) (es : List Nd), vs = [x, v] ∧ Wf F H M ∧ Rk F M x (liO C ms es) ∧ Rk F M v (nD n) ∧ ∀ p H', Wf F H' (.ml p ((mvF ms n).map stD) :: M) → Q (.ref p) H'
theorem n_listeps {C : Addr} {F : List (V × D)} {H : Hp} {M : List ME} {x v : V} {n : Nd} {ms : List Mv} {es : List Nd} {Q : VK} {E : XK} (w : Wf F H M) (hx : Rk F M x (liO C ms es)) (hv : Rk F M v (nD n)) (q : ∀ p H', Wf F H' (.ml p ((mvF ms n).map stD) :: M) → Q (.ref p) H') : sp_Listed_steps_from C (x :: ([v] ++ [])) H Q E := ⟨F, M, x, v, n, ms, es, rfl, w, hx, hv, q⟩

theorem ok_Listed_steps_from {f : Addr} {fd : FuncData} (F : Fun K "steps_from" "Listed.steps_from" s_Listed_steps_from f fd) (B : Bn mg) (o_Listed : OwnC K C_Listed) (n_Listed : ∀ f ∈ (["moves", "ends", "shelf"] : List Str), NoAttr K C_Listed f)  : FnOk P wd K mg base CX0 1 f fd ["self", "node"] (sp_Listed_steps_from C_Listed) := by
  refine F.ok sc_Listed_steps_from (fun vs H Q E h => ?_) (fun cdv A outer s H vs Q E hr h => ?_)
  · obtain ⟨F, M, x, v, n, ms, es, rfl, w, hx, hv, k⟩ := h
    all_goals rfl
  · obtain ⟨F, M, x, v, n, ms, es, rfl, w, hx, hv, k⟩ := h
    refine ⟨_, (pss_one (ps_ret (pe_callTy (k_list (K := K) rfl) (by rfl) B.list_ (by decide +kernel) (pa_cons (pe_dgetT2 (hu1 hr.units) (kpe_fld (K := K) rfl (pv 0) rfl) (pv 1) (pe_lst pa_nil) ⟨rfl, rfl, rfl, rfl⟩) pa_nil)))), ?_⟩
    try dsimp only [cxOf, Cx.nox, Cx.wish, Cx.blk]
    have hx : Rk F M x (.obj C_Listed [("moves", .lst (ms.map mvD)), ("ends", .lst (es.map nD)), ("shelf", .fact (ShF ms))]) := hx
    wtm_at "n"
    rename_i u w1
    obtain ⟨kvs, hsh, w2⟩ := w1.shOpen (ms := ms) (.mem List.mem_cons_self)
    clear w w1
    refine n_dOnF w2 (.mem List.mem_cons_self) fun p ep => ?_
    subst ep
    wtm_at "n"
    rename_i q H1 w3
    have hy : Rk ((V.ref p, D.fact (DtF kvs)) :: (V.ref p, D.fact (ShF ms)) :: F) (.ml q [] :: M) v (.tup ((ndK n).map keyD)) := (show Rk F M v (.tup ((ndK n).map keyD)) from hv).moreF.moreF.more
    refine n_dget2F (kvs := kvs) (k := ndK n) w3 (.mem List.mem_cons_self) hy (fun e u he w => ?_) (fun hn => ?_)
    · rw [hsh n] at he
      split at he
      · cases he
      · cases he
        wtm_at "n"
        rename_i p2 H2 w4
        exact k p2 _ (w4.sub (fun f hf => .mem (by simp [hf])) (.cons_cons _ (.cons _ (.refl _))))
    · rw [hsh n] at hn
      split at hn
      · rename_i hz
        rw [hz] at k
        wtm_at "n"
        rename_i p2 H2 w4
        exact k p2 _ (w4.sub (fun f hf => .mem (by simp [hf])) (.cons_cons _ (.cons _ (.refl _))))
      · cases hn
abbrev s_Listed_is_end : Stmt := inClass (top 19) 3
theorem sc_Listed_is_end : FnScope ["self", "node"] ["self", "node"] (defScope s_Listed_is_end) := ⟨rfl, rfl, rfl, by decide +kernel, rfl, by decide +kernel, by decide +kernel⟩
def sp_Listed_is_end (C : Addr) : Sp := fun vs H Q _ => ∃ F M x v, ∃ (n : Nd) (ms : List Mv) (es : List Nd), vs = [x, v] ∧ Wf F H M ∧ Rk F M x (liO C ms es) ∧ Rk F M v (nD n) ∧ ∀ H', Wf F H' M → Q (.bl (decide (n ∈ es))) H'
theorem n_liend {C : Addr} {F : List (V × D)} {H : Hp} {M : List ME} {x v : V} {n : Nd} {ms : List Mv} {es : List Nd} {Q : VK} {E : XK} (w : Wf F H M) (hx : Rk F M x (liO C ms es)) (hv : Rk F M v (nD n)) (q : ∀ H', Wf F H' M → Q (.bl (decide (n ∈ es))) H') : sp_Listed_is_end C (x :: ([v] ++ [])) H Q E := ⟨F, M, x, v, n, ms, es, rfl, w, hx, hv, q⟩

theorem ok_Listed_is_end {f : Addr} {fd : FuncData} (F : Fun K "is_end" "Listed.is_end" s_Listed_is_end f fd) (B : Bn mg) (o_Listed : OwnC K C_Listed) (n_Listed : ∀ f ∈ (["moves", "ends", "shelf"] : List Str), NoAttr K C_Listed f)  : FnOk P wd K mg base CX0 1 f fd ["self", "node"] (sp_Listed_is_end C_Listed) := by
  refine F.ok sc_Listed_is_end (fun vs H Q E h => ?_) (fun cdv A outer s H vs Q E hr h => ?_)
  · obtain ⟨F, M, x, v, n, ms, es, rfl, w, hx, hv, k⟩ := h
    all_goals rfl
  · obtain ⟨F, M, x, v, n, ms, es, rfl, w, hx, hv, k⟩ := h
    refine ⟨_, (pss_one (ps_ret (pe_cmpR (k_inD (K := K) rfl (hu65 hr)) (pv 1) (kpe_fld (K := K) rfl (pv 0) rfl) (by with_unfolding_all rfl)))), ?_⟩
    try dsimp only [cxOf, Cx.nox, Cx.wish, Cx.blk]
    have hx : Rk F M x (.obj C_Listed [("moves", .lst (ms.map mvD)), ("ends", .lst (es.map nD)), ("shelf", .fact (ShF ms))]) := hx
    wtm_at "n"
    rename_i u w1
    refine n_inN (n := n) (l := es) w1 hv.moreF (.mem List.mem_cons_self) ?_
    exact k _ w
/-! ### the ways of this law: listed -/
def WO (C_Listed : Addr) (F : List (V × D)) (M : List ME) (x : V) (g : Wgr) (U : List Nd) (N : Nat) : Prop := ∃ (ns : List Nd) (ms : List Mv) (es : List Nd), Rk F M x (liO C_Listed ms es) ∧ GrOk ns ms es ∧ g = liG ns ms es ∧ U = ns ∧ N = 61
theorem WO.ok {C : Addr} {F : List (V × D)} {M : List ME} {x : V} {g : Wgr} {U : List Nd} {N : Nat} (h : WO C F M x g U N) : WgOk g U N 32 := by
  obtain ⟨ns, ms, es, _, ok, rfl, rfl, rfl⟩ := h
  exact li_ok ok
theorem WO.more {C : Addr} {F : List (V × D)} {M : List ME} {x : V} {g : Wgr} {U : List Nd} {N : Nat} {f : V × D} (h : WO C F M x g U N) : WO C (f :: F) M x g U N := by
  obtain ⟨ns, ms, es, a, b⟩ := h
  exact ⟨ns, ms, es, a.moreF, b⟩
theorem WO.moreM {C : Addr} {F : List (V × D)} {M : List ME} {x : V} {g : Wgr} {U : List Nd} {N : Nat} {e : ME} (h : WO C F M x g U N) : WO C F (e :: M) x g U N := by
  obtain ⟨ns, ms, es, a, b⟩ := h
  exact ⟨ns, ms, es, a.more, b⟩
theorem WO.of {C : Addr} {F : List (V × D)} {M : List ME} {x : V} {ns : List Nd} {ms : List Mv} {es : List Nd} (h : Rk F M x (liO C ms es)) (ok : GrOk ns ms es) : WO C F M x (liG ns ms es) ns 61 := ⟨ns, ms, es, h, ok, rfl, rfl, rfl⟩
section
variable {C : Addr} {F : List (V × D)} {H : Hp} {M : List ME} {x v : V} {n : Nd} {g : Wgr} {U : List Nd} {N : Nat} {Q : VK} {E : XK}
theorem n_wofirst (w : Wf F H M) (q : ∀ r H', Wf ((r, nD (0, 0)) :: F) H' M → Q r H') : sp_Listed_first_node (x :: ([] ++ [])) H Q E := n_lifirst w q
theorem n_woend (w : Wf F H M) (h : WO C F M x g U N) (hv : Rk F M v (nD n)) (q : ∀ H', Wf F H' M → Q (.bl (g.fin n)) H') : sp_Listed_is_end C (x :: ([v] ++ [])) H Q E := by
  obtain ⟨ns, ms, es, hob, lok, rfl, rfl, rfl⟩ := h
  exact n_liend w hob hv q
theorem n_wosteps (w : Wf F H M) (h : WO C F M x g U N) (hv : Rk F M v (nD n)) (hn : n ∈ U) (q : ∀ p H', Wf F H' (.ml p ((g.st n).map stD) :: M) → Q (.ref p) H') : sp_Listed_steps_from C (x :: ([v] ++ [])) H Q E := by
  obtain ⟨ns, ms, es, hob, lok, rfl, rfl, rfl⟩ := h
  exact n_listeps w hob hv q
end
local macro_rules | `(tactic| wtm_at "wo") => `(tactic| first | assumption | ((refine' WO.more ?h); (case h => wtm_at "wo")) | ((refine' WO.moreM ?h); (case h => wtm_at "wo")))
local macro_rules | `(tactic| wtm_at "wopen") => `(tactic| (obtain ⟨ns0, ms0, es0, hob, _⟩ := (by assumption : WO _ _ _ _ _ _ _)))
local macro_rules | `(tactic| wtm_at "wfirst") => `(tactic| ((refine' n_wofirst (by assumption) ?_); (intro r H' w')))
local macro_rules | `(tactic| wtm_at "wend") => `(tactic| ((refine' n_woend (by assumption) ?x ?v ?_); (case x => wtm_at "wo"); (case v => ktf_call "rk"); (intro H' w')))
local macro_rules | `(tactic| wtm_at "wsteps") => `(tactic| ((refine' n_wosteps (by assumption) ?x ?v ?u ?_); (case x => wtm_at "wo"); (case v => ktf_call "rk"); (case u => assumption); (intro p H' w')))

abbrev s_steps_known : Stmt := top 20
theorem sc_steps_known : FnScope ["ways", "found", "waiting", "node", "cost", "after"] ["ways"] (defScope s_steps_known) := ⟨rfl, rfl, rfl, by decide +kernel, rfl, by decide +kernel, by decide +kernel⟩
def sp_steps_known (C_Listed : Addr) : Sp := fun vs H Q _ => ∃ F M x, ∃ (g : Wgr) (U : List Nd) (N : Nat), vs = [x] ∧ Wf F H M ∧ WO C_Listed F M x g U N ∧ ∀ p H' (ns : List Nd), ns.Nodup → (∀ n, n ∈ ns ↔ Reach g n) → Wf F H' (.dt p (tabN (fdD g) ns) :: M) → Q (.ref p) H'
theorem n_known {C_Listed : Addr} {F : List (V × D)} {H : Hp} {M : List ME} {x : V} {g : Wgr} {U : List Nd} {N : Nat} {Q : VK} {E : XK} (w : Wf F H M) (h : WO C_Listed F M x g U N) (q : ∀ p H' (ns : List Nd), ns.Nodup → (∀ n, n ∈ ns ↔ Reach g n) → Wf F H' (.dt p (tabN (fdD g) ns) :: M) → Q (.ref p) H') : sp_steps_known C_Listed ([x] ++ []) H Q E := ⟨F, M, x, g, U, N, rfl, w, h, q⟩

theorem ok_steps_known {f : Addr} {fd : FuncData} (F : Fun K "steps_known" "steps_known" s_steps_known f fd) (B : Bn mg) (t_Listed_first_node : Met P wd K mg base "first_node" C_Listed 1 ["self"] [] (sp_Listed_first_node)) (t_Listed_is_end : Met P wd K mg base "is_end" C_Listed 1 ["self", "node"] [] (sp_Listed_is_end C_Listed)) (t_Listed_steps_from : Met P wd K mg base "steps_from" C_Listed 1 ["self", "node"] [] (sp_Listed_steps_from C_Listed))  : FnOk P wd K mg base CX0 2 f fd ["ways"] (sp_steps_known C_Listed) := by
  refine F.ok sc_steps_known (fun vs H Q E h => ?_) (fun cdv A outer s H vs Q E hr h => ?_)
  · obtain ⟨F, M, x, g, U, N, rfl, w, h, k⟩ := h
    all_goals rfl
  · obtain ⟨F, M, x, g, U, N, rfl, w, h, k⟩ := h
    refine ⟨_, (pss_cons (ps_set (i := 1) sc_steps_known.nd rfl (Or.inl rfl) pe_dnewT)
      (pss_cons (ps_set (i := 2) sc_steps_known.nd rfl (Or.inl rfl) (pe_lst (pa_cons (pe_met0 (pv 0) t_Listed_first_node (hr.mono (by decide))) pa_nil)))
      (pss_cons (ps_while PassesOwn.never (pt_cmpR op_gt (pe_callB (k_len (K := K) rfl) (by rfl) B.len_ (by decide +kernel) (pa_cons (pv 2) pa_nil)) pe_int (nomark _)) (pss_cons (ps_set (i := 3) sc_steps_known.nd rfl (Or.inl rfl) (pe_bm0 PySem.F.plainAttrs_list PySem.F.slot_list_pop PySem.F.type_list_pop mt_pop (pv 2)))
      (pss_one (ps_if (pt_cmp (pc_dnotin (hu1 hr.units) (pv 3) (pv 1))) (pss_cons (ps_dput (hu1 hr.units) (pv 1) (pv 3) pe_non rfl)
      (pss_one (ps_if (pt_not (pt_val (pe_met (pv 0) t_Listed_is_end (hr.mono (by decide)) (pa_cons (pv 3) pa_nil)))) (pss_cons (ps_dput (hu1 hr.units) (pv 1) (pv 3) (pe_met (pv 0) t_Listed_steps_from (hr.mono (by decide)) (pa_cons (pv 3) pa_nil)) rfl)
      (pss_one (ps_for PassesOwn.never rfl (kpi_list (K := K) rfl (pe_dget (hu1 hr.units) (pv 1) (pv 3) (fun _ _ => rfl))) (kpg_tup (K := K) (n := 2) rfl rfl (pgs_cons (pg_name (i := 4) sc_steps_known.nd rfl (Or.inl rfl)) (pgs_cons (pg_name (i := 5) sc_steps_known.nd rfl (Or.inl rfl)) pgs_nil))) (pss_one (ps_expr (pe_bm PySem.F.plainAttrs_list PySem.F.slot_list_append PySem.F.type_list_append mt_append (pv 2) (pa_cons (pv 5) pa_nil))))))) pss_nil))) pss_nil))))
      (pss_one (ps_ret (pv 1)))))), ?_⟩
    try dsimp only [cxOf, Cx.nox, Cx.wish, Cx.blk]
    have ok := h.ok
    rw [show L2.start (["ways", "found", "waiting", "node", "cost", "after"] : List Str) [x] = [some x, none, none, none, none, none] from rfl]
    wtm_at "n"
    refine s_dnewT w fun pf H1 w => ?_
    wtm_at "wopen"
    wtm_at "n"
    wtm_at "wfirst"
    rename_i r0 H2 w
    wtm_at "n"
    rename_i pw H3 w
    have w : Wf F H3 (.ml pw [nD (0, 0)] :: .dt pf [] :: M) := by wtm_at "wf"
    refine n_whileG w (fun μ σ' F' M' => ∃ (ns wt : List Nd) (x3 x4 x5 : Option V), σ' = [some x, some (.ref pf), some (.ref pw), x3, x4, x5] ∧ F = F' ∧ M' = .ml pw (wt.map nD) :: .dt pf (tabN (fdD g) ns) :: M ∧ StK g U ns wt ∧ μ = wt.length + restN g U ns ∧ μ ≤ 5000001) (1 + restN g U []) ⟨[], [(0, 0)], _, _, _, rfl, rfl, rfl, StK.start, rfl, by rw [rest_all]; have := ok.tot; omega⟩ ?_
    rintro μ σ' H' F' M' ⟨ns, wt, x3, x4, x5, rfl, rfl, rfl, hs, hμ, hb⟩ w
    wtm_at "n"
    rw [List.length_map]
    wtm_at "fork"
    · rename_i hpos
      refine n_wG ?_
      obtain ⟨wt', n, rfl⟩ : ∃ wt' n, wt = wt' ++ [n] := ⟨wt.dropLast, wt.getLast (fun e => by rw [e] at hpos; simp at hpos), (List.dropLast_concat_getLast _).symm⟩
      wtm_at "n"
      refine n_popD (d := nD n) w .here (by simp) fun y H4 w => ?_
      rw [List.map_append, List.map_singleton, List.dropLast_concat] at w
      have hrn : Reach g n := hs.rw n (List.mem_append_right _ List.mem_cons_self)
      have hnU : n ∈ U := hrn.inU ok
      rw [List.length_append, List.length_singleton] at hμ
      wtm_at "n"
      refine n_dinT (k := ndK n) w (by ktf_call "mem") (.mem List.mem_cons_self) ?_
      rw [tab_get]
      by_cases hin : n ∈ ns
      · rw [if_pos hin, Option.isSome_some]
        wtm_at "n"
        exact ⟨wt'.length + restN g U ns, by omega, F, _, ⟨ns, wt', _, _, _, rfl, rfl, rfl, hs.skip hin, rfl, by omega⟩, by wtm_at "wf"⟩
      · rw [if_neg hin, Option.isSome_none]
        have hless := rest_less (g := g) hnU hin
        have hlen := hs.len ok
        wtm_at "n"
        refine n_dputT (k := ndK n) (d := .non) w (by ktf_call "foc") (.mem List.mem_cons_self) .non (by rw [tab_len]; omega) fun H5 w => ?_
        rw [tab_new hin] at w
        have hyn : Rk ((y, nD n) :: F) (.ml pw (wt'.map nD) :: .dt pf (tabN (fdD g) ns ++ [(ndK n, .non)]) :: M) y (nD n) := .mem List.mem_cons_self
        have hwo : WO C_Listed ((y, nD n) :: F) (.ml pw (wt'.map nD) :: .dt pf (tabN (fdD g) ns ++ [(ndK n, .non)]) :: M) x g U N := by wtm_at "wo"
        wtm_at "wopen"
        wtm_at "n"
        wtm_at "wend"
        rename_i H6 w
        wtm_at "n"
        cases hf : g.fin n with
        | true =>
          wtm_at "n"
          refine ⟨wt'.length + restN g U (ns ++ [n]), by omega, F, _, ⟨ns ++ [n], wt', _, _, _, rfl, rfl, rfl, ?_, rfl, by omega⟩, ?_⟩
          · have := hs.more (es := []) hin (fun _ h => nomatch h) fun e => by rw [hf] at e; cases e
            rw [List.append_nil] at this
            exact this
          · rw [tab_snoc, show fdD g n = .non from if_pos hf]
            wtm_at "wf"
        | false =>
          wtm_at "n"
          wtm_at "wsteps"
          rename_i pl H7 w
          have w := w.frzL .here
          wtm_at "n"
          refine n_dputT (k := ndK n) (d := .lst ((g.st n).map stD)) w (by ktf_call "foc") (.mem (List.mem_cons_of_mem _ List.mem_cons_self)) (.mem List.mem_cons_self) (by rw [List.length_append, tab_len, List.length_singleton]; omega) fun H8 w => ?_
          rw [tab_again hin] at w
          have efd : fdD g n = .lst ((g.st n).map stD) := by unfold fdD; rw [if_neg (by rw [hf]; simp)]
          rw [← efd, ← tab_snoc] at w
          have w : Wf ((y, nD n) :: F) H8 (.ml pw (wt'.map nD) :: .dt pf (tabN (fdD g) (ns ++ [n])) :: M) := by wtm_at "wf"
          wtm_at "n"
          refine n_dgetT (k := ndK n) w (by ktf_call "mem") (.mem List.mem_cons_self) (tab_in (List.mem_append_right _ List.mem_cons_self)) fun u w => ?_
          rw [efd] at w
          have w : Wf ((u, .lst ((g.st n).map stD)) :: F) H8 (.ml pw (wt'.map nD) :: .dt pf (tabN (fdD g) (ns ++ [n])) :: M) := by wtm_at "wf"
          refine n_forL w (fun i σ' F' M' => ∃ (x4 x5 : Option V), σ' = [some x, some (.ref pf), some (.ref pw), some y, x4, x5] ∧ F' = (u, .lst ((g.st n).map stD)) :: F ∧ M' = .ml pw ((wt' ++ ((g.st n).take i).map (·.2)).map nD) :: .dt pf (tabN (fdD g) (ns ++ [n])) :: M) (by rintro i σ' F' M' ⟨_, _, rfl, rfl, rfl⟩; exact .mem List.mem_cons_self) ⟨_, _, rfl, rfl, by simp⟩ ?_ ?_
          · clear w
            rintro i d z σ' H9 F' M' hd ⟨x4, x5, rfl, rfl, rfl⟩ w
            obtain ⟨s, hs', rfl⟩ := map_get hd
            have hi : i < (g.st n).length := (List.getElem?_eq_some_iff.mp hs').1
            refine n_gtup2 (d0 := frq s.1) (d1 := nD s.2) w (.mem List.mem_cons_self) fun a c w => ?_
            wtm_at "n"
            refine n_appB (d := nD s.2) w (by ktf_call "foc") (by ktf_call "kn") (by rw [List.length_map, List.length_append, List.length_map, List.length_take]; omega) fun H10 w => ?_
            wtm_at "n"
            refine ⟨_, _, ⟨_, _, rfl, rfl, rfl⟩, ?_⟩
            rw [show (wt' ++ ((g.st n).take (i + 1)).map (·.2)).map nD = (wt' ++ ((g.st n).take i).map (·.2)).map nD ++ [nD s.2] by rw [take_snoc hs']; simp]
            exact w.sub (KS.cons (.mem (by simp)) (KS.drop (KS.drop (KS.drop (KS.drop KS.refl))))) (.refl _)
          · clear w
            rintro σ' H9 F' M' ⟨x4, x5, rfl, rfl, rfl⟩ w
            rw [List.length_map, List.take_length] at w
            refine ⟨(wt' ++ (g.st n).map (·.2)).length + restN g U (ns ++ [n]), by rw [List.length_append, List.length_map]; omega, F, _, ⟨ns ++ [n], wt' ++ (g.st n).map (·.2), _, _, _, rfl, rfl, rfl, hs.more hin (fun m hm => ?_) (fun _ s hs' => List.mem_map_of_mem hs'), rfl, by rw [List.length_append, List.length_map]; omega⟩, w.tail⟩
            obtain ⟨s, hs', rfl⟩ := List.mem_map.mp hm
            exact .s hrn hf hs'
    · rename_i hpos
      have e : wt = [] := List.eq_nil_of_length_eq_zero (by omega)
      subst e
      wtm_at "n"
      exact k pf _ ns hs.nd hs.all (by wtm_at "wf")
abbrev s_least_price : Stmt := top 21
theorem sc_least_price : FnScope ["steps", "prices", "best", "cost", "after", "price"] ["steps", "prices"] (defScope s_least_price) := ⟨rfl, rfl, rfl, by decide +kernel, rfl, by decide +kernel, by decide +kernel⟩
def sp_least_price : Sp := fun vs H Q _ => ∃ F M v pp, ∃ (ss : List (Rat × Nd)) (ns : List Nd) (pr : Nd → Option Rat), vs = [v, .ref pp] ∧ Wf F H M ∧ Rk F M v (.lst (ss.map stD)) ∧ .dt pp (tabN (fun n => oqD (pr n)) ns) ∈ M ∧ (∀ s ∈ ss, s.2 ∈ ns ∧ Sz2 2000 3500 s.1) ∧ (∀ n ∈ ns, ∀ q, pr n = some q → Sz2 6000 3600 q) ∧ ∀ r H', Wf ((r, oqD (leastP (ss.map fun s => addO s.1 (pr s.2)))) :: F) H' M → Q r H'
theorem n_leastprice {F : List (V × D)} {H : Hp} {M : List ME} {v : V} {pp : Addr} {ss : List (Rat × Nd)} {ns : List Nd} {pr : Nd → Option Rat} {Q : VK} {E : XK} (w : Wf F H M) (hv : Rk F M v (.lst (ss.map stD))) (hp : .dt pp (tabN (fun n => oqD (pr n)) ns) ∈ M) (hs : ∀ s ∈ ss, s.2 ∈ ns ∧ Sz2 2000 3500 s.1) (hz : ∀ n ∈ ns, ∀ q, pr n = some q → Sz2 6000 3600 q) (q : ∀ r H', Wf ((r, oqD (leastP (ss.map fun s => addO s.1 (pr s.2)))) :: F) H' M → Q r H') : sp_least_price ([v, .ref pp] ++ []) H Q E := ⟨F, M, v, pp, ss, ns, pr, rfl, w, hv, hp, hs, hz, q⟩
theorem n_plusW {F : List (V × D)} {H : Hp} {M : List ME} {u v : V} {p q : Rat} {Q : VK} {E : XK} (w : Wf F H M) (hu : Kn F u (frq p)) (hv : Kn F v (frq q)) (hp : Sz2 8000 3500 p) (hq : Sz2 8000 4400 q) (f : ∀ r H', Wf ((r, frq (p + q)) :: F) H' M → Q r H') : sp_plus ([u, v] ++ []) H Q E := by
  obtain ⟨I, Mc, w, is, _, up⟩ := w.old
  exact use_plus w (is _ _ hu) (is _ _ hv) (hp.sz (Nat.le_refl _) (by decide)) (hq.sz (Nat.le_refl _) (by decide)) (by decide) (by decide) ((hp.d.mul hq.d).mono (by decide)) fun r J H' s w' h => f r H' (up J H' r _ s w' h)
theorem n_below {F : List (V × D)} {H : Hp} {M : List ME} {u v : V} {p q : Rat} {Q : VK} {E : XK} {j k : Nat} (w : Wf F H M) (hu : Kn F u (frq p)) (hv : Kn F v (frq q)) (hp : Sz j p) (hq : Sz k q) (hj : j ≤ 100000) (hk : k ≤ 100000) (f : Q (.bl (decide (p < q))) H) : sp_is_below ([u, v] ++ []) H Q E := by
  obtain ⟨I, Mc, w, is, _, up⟩ := w.old
  refine ⟨I, Mc, u, v, _, _, _, _, rfl, w, is _ _ hu, is _ _ hv, (hp.mono hj).n, (hp.mono hj).d, (hq.mono hk).n, (hq.mono hk).d, ?_⟩
  have e : decide (p < q) = decide (p.num * q.den < q.num * p.den) := by rw [Bool.eq_iff_iff, decide_eq_true_iff, decide_eq_true_iff]; exact Rat.lt_iff _ _
  rw [← e]
  exact f

theorem ok_least_price {f : Addr} {fd : FuncData} (F : Fun K "least_price" "least_price" s_least_price f fd) (B : Bn mg) (c_plus : Cal P wd K mg base "plus" 3 ["one", "other"] [] sp_plus) (c_is_below : Cal P wd K mg base "is_below" 1 ["one", "other"] [] sp_is_below)  : FnOk P wd K mg base CX0 4 f fd ["steps", "prices"] sp_least_price := by
  refine F.ok sc_least_price (fun vs H Q E h => ?_) (fun cdv A outer s H vs Q E hr h => ?_)
  · obtain ⟨F, M, v, pp, ss, ns, pr, rfl, w, hv, hp, hs, hz, k⟩ := h
    all_goals rfl
  · obtain ⟨F, M, v, pp, ss, ns, pr, rfl, w, hv, hp, hs, hz, k⟩ := h
    refine ⟨_, (pss_cons (ps_set (i := 2) sc_least_price.nd rfl (Or.inl rfl) pe_non)
      (pss_cons (ps_for PassesOwn.never rfl (kpi_list (K := K) rfl (pv 0)) (kpg_tup (K := K) (n := 2) rfl rfl (pgs_cons (pg_name (i := 3) sc_least_price.nd rfl (Or.inl rfl)) (pgs_cons (pg_name (i := 4) sc_least_price.nd rfl (Or.inl rfl)) pgs_nil))) (pss_one (ps_if (pt_cmp (pc_notN (pe_dget (hu1 hr.units) (pv 1) (pv 4) (fun _ _ => rfl)))) (pss_cons (ps_set (i := 5) sc_least_price.nd rfl (Or.inl rfl) (pe_cal c_plus (hr.mono (by decide)) (by rfl) (pa_cons (pv 3) (pa_cons (pe_dget (hu1 hr.units) (pv 1) (pv 4) (fun _ _ => rfl)) pa_nil))))
      (pss_one (ps_if (pw_or (pt_cmp (pc_isN (pv 2))) (pw_or1 (pt_val (pe_cal c_is_below (hr.mono (by decide)) (by rfl) (pa_cons (pv 5) (pa_cons (pv 2) pa_nil)))))).pt (pss_one (ps_set (i := 2) sc_least_price.nd rfl (Or.inl rfl) (pv 5))) pss_nil))) pss_nil)))
      (pss_one (ps_ret (pv 2))))), ?_⟩
    try dsimp only [cxOf, Cx.nox, Cx.wish, Cx.blk]
    rw [show L2.start (["steps", "prices", "best", "cost", "after", "price"] : List Str) [v, .ref pp] = [some v, some (.ref pp), none, none, none, none] from rfl]
    wtm_at "n"
    have w : Wf ((.non, oqD (leastP [])) :: F) H M := w.add .non
    refine n_forL w (fun i σ' F' M' => ∃ (bv : V) (x3 x4 x5 : Option V), σ' = [some v, some (.ref pp), some bv, x3, x4, x5] ∧ F' = (bv, oqD (leastP ((ss.take i).map fun s => addO s.1 (pr s.2)))) :: F ∧ M = M') (by rintro i σ' F' M' ⟨_, _, _, _, rfl, rfl, rfl⟩; exact hv.moreF) ⟨_, _, _, _, rfl, rfl, rfl⟩ ?_ ?_
    · clear w
      rintro i d z σ' H' F' M' hd ⟨bv, x3, x4, x5, rfl, rfl, rfl⟩ w
      obtain ⟨s, hs', rfl⟩ := map_get hd
      obtain ⟨hsn, hsz⟩ := hs s (List.mem_of_getElem? hs')
      have hsum : Sz2 8000 8000 (0 : Rat) := Sz2.zero (by decide) (by decide)
      rw [take_snoc hs', List.map_append, List.map_singleton, leastP_snoc]
      have hbz : ∀ q, leastP ((ss.take i).map fun s => addO s.1 (pr s.2)) = some q → Sz2 10000 8000 q := fun q hq => by
        obtain ⟨t, ht, e⟩ := List.mem_map.mp (leastP_mem hq)
        obtain ⟨h1, h2⟩ := hs t (List.mem_of_mem_take ht)
        cases hpt : pr t.2 with
        | none => rw [hpt] at e; cases e
        | some p =>
          rw [hpt] at e
          cases e
          exact (h2.add (hz _ h1 p hpt) 10000 (by decide) (by decide)).mono (Nat.le_refl _) (by decide)
      generalize leastP ((ss.take i).map fun s => addO s.1 (pr s.2)) = best at *
      refine n_gtup2 (d0 := frq s.1) (d1 := nD s.2) w (.mem List.mem_cons_self) fun a c w => ?_
      wtm_at "n"
      refine n_dgetT (k := ndK s.2) (d := oqD (pr s.2)) w hp (.mem (List.mem_cons_of_mem _ List.mem_cons_self)) (tab_in (f := fun n => oqD (pr n)) hsn) fun u w => ?_
      cases hpr : pr s.2 with
      | none =>
        rw [hpr] at w
        obtain ⟨rfl, w⟩ := w.non0
        wtm_at "n"
        refine ⟨_, _, ⟨bv, _, _, _, rfl, rfl, rfl⟩, ?_⟩
        show Wf ((bv, oqD best) :: F) H' M
        wtm_at "wf"
      | some p =>
        have hpz := hz _ hsn p hpr
        rw [hpr] at w
        obtain ⟨pu, rfl⟩ := (show Wf ((u, .tup [.int p.num, .int (p.den : Int)]) :: _) H' M from w).tup0
        wtm_at "n"
        refine n_dgetT (k := ndK s.2) (d := oqD (pr s.2)) w hp (.mem (by simp [nD, ndK, keyD])) (tab_in (f := fun n => oqD (pr n)) hsn) fun u w => ?_
        rw [hpr] at w
        wtm_at "n"
        refine n_plusW (p := s.1) (q := p) w (.mem (by simp)) (.mem List.mem_cons_self) (hsz.mono (by decide) (Nat.le_refl _)) (hpz.mono (by decide) (by decide)) fun r H5 w => ?_
        have hrz := hsz.add hpz 10000 (by decide) (by decide)
        have w : Wf ((r, frq (s.1 + p)) :: (bv, oqD best) :: F) H5 M := w.sub (KS.cons (.mem List.mem_cons_self) (KS.cons (.mem (by simp)) fun f hf => .mem (by simp [hf]))) (.refl _)
        cases best with
        | none =>
          have e0 : bv = .non := (show Wf ((bv, .non) :: F) H5 M from w.sub (KS.cons (.mem (List.mem_cons_of_mem _ List.mem_cons_self)) (KS.drop (KS.drop KS.refl))) (.refl _)).non0.1
          subst e0
          wtm_at "n"
          refine ⟨_, _, ⟨r, _, _, _, rfl, rfl, rfl⟩, ?_⟩
          show Wf ((r, frq (s.1 + p)) :: F) H5 M
          wtm_at "wf"
        | some y =>
          obtain ⟨pb, rfl⟩ := (show Wf ((bv, .tup [.int y.num, .int (y.den : Int)]) :: F) H5 M from w.sub (KS.cons (.mem (List.mem_cons_of_mem _ List.mem_cons_self)) (KS.drop (KS.drop KS.refl))) (.refl _)).tup0
          have hby := hbz y rfl
          wtm_at "n"
          refine n_below (p := s.1 + p) (q := y) w (.mem List.mem_cons_self) (.mem (List.mem_cons_of_mem _ List.mem_cons_self)) (hrz.sz (Nat.le_refl _) (by decide)) (hby.sz (Nat.le_refl _) (by decide)) (by decide) (by decide) ?_
          by_cases hc : s.1 + p < y
          · rw [decide_eq_true hc]
            wtm_at "n"
            refine ⟨_, _, ⟨r, _, _, _, rfl, rfl, rfl⟩, ?_⟩
            rw [show bestO (some y) (addO s.1 (some p)) = some (s.1 + p) from if_pos hc]
            show Wf ((r, frq (s.1 + p)) :: F) H5 M
            wtm_at "wf"
          · rw [decide_eq_false hc]
            wtm_at "n"
            refine ⟨_, _, ⟨V.ref pb, _, _, _, rfl, rfl, rfl⟩, ?_⟩
            rw [show bestO (some y) (addO s.1 (some p)) = some y from if_neg hc]
            wtm_at "wf"
    · clear w
      rintro σ' H' F' M' ⟨bv, x3, x4, x5, rfl, rfl, rfl⟩ w
      rw [List.length_map, List.take_length] at w
      wtm_at "n"
      exact k _ _ w
abbrev s_prices_known : Stmt := top 22
theorem sc_prices_known : FnScope ["found", "prices", "node"] ["found"] (defScope s_prices_known) := ⟨rfl, rfl, rfl, by decide +kernel, rfl, by decide +kernel, by decide +kernel⟩
def sp_prices_known : Sp := fun vs H Q _ => ∃ F M pf, ∃ (g : Wgr) (U : List Nd) (N k : Nat) (ns : List Nd), vs = [.ref pf] ∧ Wf F H M ∧ .dt pf (tabN (fdD g) ns) ∈ M ∧ WgOk g U N k ∧ ns.Nodup ∧ (∀ n, n ∈ ns ↔ Reach g n) ∧ ∀ p H' (ms : List Nd), ms.Perm ns → Wf F H' (.dt p (tabN (fun n => oqD (prc g N n)) ms) :: M) → Q (.ref p) H'
theorem n_pricesk {F : List (V × D)} {H : Hp} {M : List ME} {pf : Addr} {g : Wgr} {U : List Nd} {N k : Nat} {ns : List Nd} {Q : VK} {E : XK} (w : Wf F H M) (hf : .dt pf (tabN (fdD g) ns) ∈ M) (ok : WgOk g U N k) (hn : ns.Nodup) (hr : ∀ n, n ∈ ns ↔ Reach g n) (q : ∀ p H' (ms : List Nd), ms.Perm ns → Wf F H' (.dt p (tabN (fun n => oqD (prc g N n)) ms) :: M) → Q (.ref p) H') : sp_prices_known ([.ref pf] ++ []) H Q E := ⟨F, M, pf, g, U, N, k, ns, rfl, w, hf, ok, hn, hr, q⟩
/-- what lies farther stands ahead -/
theorem ahead_in {ms : List Nd} (hp : ms.Pairwise lexGe) {i : Nat} {m x : Nd} (hm : ms[i]? = some m) (hx : x ∈ ms) (hlt : m.1 < x.1) : x ∈ ms.take i := by
  obtain ⟨j, hj, e⟩ := List.mem_iff_getElem.mp hx
  obtain ⟨hi, e2⟩ := List.getElem?_eq_some_iff.mp hm
  by_cases h : j < i
  · rw [← e]
    exact List.mem_take_iff_getElem.mpr ⟨j, by omega, rfl⟩
  · by_cases h2 : j = i
    · subst h2
      rw [e2] at e
      subst e
      omega
    · have := List.pairwise_iff_getElem.mp hp i j hi hj (by omega)
      rw [e, e2] at this
      unfold lexGe at this
      omega
theorem not_take {ms : List Nd} (hp : ms.Nodup) {i : Nat} {m : Nd} (hm : ms[i]? = some m) : m ∉ ms.take i := fun h => by
  obtain ⟨j, hj, e⟩ := List.mem_take_iff_getElem.mp h
  obtain ⟨hi, e2⟩ := List.getElem?_eq_some_iff.mp hm
  have := List.pairwise_iff_getElem.mp hp j i (by omega) hi (by omega)
  exact this (e.trans e2.symm)

theorem ok_prices_known {f : Addr} {fd : FuncData} (F : Fun K "prices_known" "prices_known" s_prices_known f fd) (B : Bn mg) (c_least_price : Cal P wd K mg base "least_price" 4 ["steps", "prices"] [] sp_least_price)  : FnOk P wd K mg base CX0 5 f fd ["found"] sp_prices_known := by
  refine F.ok sc_prices_known (fun vs H Q E h => ?_) (fun cdv A outer s H vs Q E hr h => ?_)
  · obtain ⟨F, M, pf, g, U, N, kk, ns, rfl, w, hf, ok, hn, hr', k⟩ := h
    all_goals rfl
  · obtain ⟨F, M, pf, g, U, N, kk, ns, rfl, w, hf, ok, hn, hr', k⟩ := h
    refine ⟨_, (pss_cons (ps_set (i := 1) sc_prices_known.nd rfl (Or.inl rfl) pe_dnewT)
      (pss_cons (ps_for PassesOwn.never rfl (kpi_list (K := K) rfl (pe_callBK (k_sortRT rfl) (by rfl) B.sorted_ (by decide +kernel) (pa_cons (pv 0) pa_nil) (pk_cons pe_bl pk_nil))) (pg_name (i := 2) sc_prices_known.nd rfl (Or.inl rfl)) (pss_one (ps_if (pt_cmp (pc_isN (pe_dget (hu1 hr.units) (pv 0) (pv 2) (fun _ _ => rfl)))) (pss_one (ps_dput (hu1 hr.units) (pv 1) (pv 2) (pe_tup (pa_cons pe_int (pa_cons pe_int pa_nil))) rfl)) (pss_one (ps_dput (hu1 hr.units) (pv 1) (pv 2) (pe_cal c_least_price (hr.mono (by decide)) (by rfl) (pa_cons (pe_dget (hu1 hr.units) (pv 0) (pv 2) (fun _ _ => rfl)) (pa_cons (pv 1) pa_nil))) rfl)))))
      (pss_one (ps_ret (pv 1))))), ?_⟩
    try dsimp only [cxOf, Cx.nox, Cx.wish, Cx.blk]
    rw [show L2.start (["found", "prices", "node"] : List Str) [.ref pf] = [some (.ref pf), none, none] from rfl]
    wtm_at "n"
    refine s_dnewT w fun pp H1 w => ?_
    wtm_at "n"
    refine s_ckw ?_
    wtm_at "n"
    refine n_sortRT w (List.mem_cons_of_mem _ hf) tab_keys fun ms ps H2 hperm hsort w => ?_
    have hms : ms.Nodup := hperm.nodup_iff.mpr hn
    have hlen : ms.length ≤ 90000 := by
      have := len_sub (l := ms) (m := U) hms fun n h => ((hr' n).mp (hperm.mem_iff.mp h)).inU ok
      have := ok.ul
      omega
    refine n_forL w (fun i σ' F' M' => ∃ x2, σ' = [some (.ref pf), some (.ref pp), x2] ∧ F = F' ∧ M' = .ml ps (ms.map nD) :: .dt pp (tabN (fun n => oqD (prc g N n)) (ms.take i)) :: M) (by rintro i σ' F' M' ⟨_, rfl, rfl, rfl⟩; exact .ml List.mem_cons_self) ⟨_, rfl, rfl, rfl⟩ ?_ ?_
    · clear w
      rintro i d z σ' H' F' M' hd ⟨x2, rfl, rfl, rfl⟩ w
      obtain ⟨m, hm, rfl⟩ := map_get hd
      have hmm : m ∈ ms := List.mem_of_getElem? hm
      have hmn : m ∈ ns := hperm.mem_iff.mp hmm
      have hmr := (hr' m).mp hmn
      have hmU := hmr.inU ok
      have hnt := not_take hms hm
      have htl : (ms.take i).length ≤ 90000 := by rw [List.length_take]; omega
      have eput : ∀ d, oqD (prc g N m) = d → putP (tabN (fun n => oqD (prc g N n)) (ms.take i)) (ndK m) d = tabN (fun n => oqD (prc g N n)) (ms.take (i + 1)) := fun d e => by
        rw [tab_new hnt, take_snoc hm, tab_snoc, e]
      wtm_at "n"
      refine n_dgetT (k := ndK m) (d := fdD g m) w (by simp [hf]) (.mem List.mem_cons_self) (tab_in hmn) fun u w => ?_
      cases hfm : g.fin m with
      | true =>
        rw [show fdD g m = .non from if_pos hfm] at w
        obtain ⟨rfl, w⟩ := w.non0
        wtm_at "n"
        rename_i pz Hz w
        refine n_dputT (k := ndK m) (d := .tup [.int 0, .int 1]) w (by ktf_call "foc") (.mem (by simp [nD, ndK, keyD])) (.mem List.mem_cons_self) (by rw [tab_len]; omega) fun H5 w => ?_
        rw [eput _ (by rw [prc_end hfm]; rfl)] at w
        exact ⟨_, _, ⟨_, rfl, rfl, rfl⟩, by wtm_at "wf"⟩
      | false =>
        have efd : fdD g m = .lst ((g.st m).map stD) := by unfold fdD; rw [if_neg (by rw [hfm]; simp)]
        rw [efd] at w
        obtain ⟨pu, rfl⟩ := w.lst0
        wtm_at "n"
        refine n_dgetT (k := ndK m) (d := fdD g m) w (by simp [hf]) (.mem (List.mem_cons_of_mem _ List.mem_cons_self)) (tab_in hmn) fun u2 w => ?_
        rw [efd] at w
        wtm_at "n"
        refine n_leastprice (ss := g.st m) (ns := ms.take i) (pr := prc g N) w (.mem List.mem_cons_self) (by ktf_call "mem") (fun s hs => ⟨?_, (ok.sz m hmU s hs).mono (Nat.le_refl _) ok.k_le⟩) (fun n hn' q hq => prc_sz ok (((hr' n).mp (hperm.mem_iff.mp (List.mem_of_mem_take hn'))).inU ok) hq) fun r H5 w => ?_
        · exact ahead_in hsort hm (hperm.mem_iff.mpr ((hr' _).mpr (.s hmr hfm hs))) (ok.go m hmU hfm s hs).2
        wtm_at "n"
        refine n_dputT (k := ndK m) w (by ktf_call "foc") (.mem (by simp [nD, ndK, keyD])) (.mem List.mem_cons_self) (by rw [tab_len]; omega) fun H6 w => ?_
        rw [eput _ (by rw [prc_eq ok hmU hfm])] at w
        exact ⟨_, _, ⟨_, rfl, rfl, rfl⟩, by wtm_at "wf"⟩
    · clear w
      rintro σ' H' F' M' ⟨x2, rfl, rfl, rfl⟩ w
      rw [List.length_map, List.take_length] at w
      wtm_at "n"
      exact k pp _ ms hperm (by wtm_at "wf")
abbrev s_prices_of : Stmt := top 23
theorem sc_prices_of : FnScope ["ways"] ["ways"] (defScope s_prices_of) := ⟨rfl, rfl, rfl, by decide +kernel, rfl, by decide +kernel, by decide +kernel⟩
def sp_prices_of (C_Listed : Addr) : Sp := fun vs H Q _ => ∃ F M x, ∃ (g : Wgr) (U : List Nd) (N : Nat), vs = [x] ∧ Wf F H M ∧ WO C_Listed F M x g U N ∧ ∀ p H' (ms : List Nd), ms.Nodup → (∀ n, n ∈ ms ↔ Reach g n) → Wf F H' (.dt p (tabN (fun n => oqD (prc g N n)) ms) :: M) → Q (.ref p) H'
theorem n_prices {C_Listed : Addr} {F : List (V × D)} {H : Hp} {M : List ME} {x : V} {g : Wgr} {U : List Nd} {N : Nat} {Q : VK} {E : XK} (w : Wf F H M) (h : WO C_Listed F M x g U N) (q : ∀ p H' (ms : List Nd), ms.Nodup → (∀ n, n ∈ ms ↔ Reach g n) → Wf F H' (.dt p (tabN (fun n => oqD (prc g N n)) ms) :: M) → Q (.ref p) H') : sp_prices_of C_Listed ([x] ++ []) H Q E := ⟨F, M, x, g, U, N, rfl, w, h, q⟩

theorem ok_prices_of {f : Addr} {fd : FuncData} (F : Fun K "prices_of" "prices_of" s_prices_of f fd) (B : Bn mg) (c_prices_known : Cal P wd K mg base "prices_known" 5 ["found"] [] sp_prices_known) (c_steps_known : Cal P wd K mg base "steps_known" 2 ["ways"] [] (sp_steps_known C_Listed))  : FnOk P wd K mg base CX0 6 f fd ["ways"] (sp_prices_of C_Listed) := by
  refine F.ok sc_prices_of (fun vs H Q E h => ?_) (fun cdv A outer s H vs Q E hr h => ?_)
  · obtain ⟨F, M, x, g, U, N, rfl, w, h, k⟩ := h
    all_goals rfl
  · obtain ⟨F, M, x, g, U, N, rfl, w, h, k⟩ := h
    refine ⟨_, (pss_one (ps_ret (pe_cal c_prices_known (hr.mono (by decide)) (by rfl) (pa_cons (pe_cal c_steps_known (hr.mono (by decide)) (by rfl) (pa_cons (pv 0) pa_nil)) pa_nil)))), ?_⟩
    try dsimp only [cxOf, Cx.nox, Cx.wish, Cx.blk]
    wtm_at "n"
    refine n_known w h fun pf H1 ns hn hr' w => ?_
    wtm_at "n"
    refine n_pricesk w List.mem_cons_self h.ok hn hr' fun pp H2 ms hp w => ?_
    exact k pp _ ms (hp.nodup_iff.mpr hn) (fun n => (hp.mem_iff).trans (hr' n)) (by wtm_at "wf")
abbrev s_next_chosen : Stmt := top 24
theorem sc_next_chosen : FnScope ["steps", "prices", "price", "cost", "after"] ["steps", "prices", "price"] (defScope s_next_chosen) := ⟨rfl, rfl, rfl, by decide +kernel, rfl, by decide +kernel, by decide +kernel⟩
def sp_next_chosen : Sp := fun vs H Q _ => ∃ F M v pp u, ∃ (ss : List (Rat × Nd)) (ns : List Nd) (pr : Nd → Option Rat) (q : Rat) (m : Nd), vs = [v, .ref pp, u] ∧ Wf F H M ∧ Rk F M v (.lst (ss.map stD)) ∧ .dt pp (tabN (fun n => oqD (pr n)) ns) ∈ M ∧ Kn F u (frq q) ∧ (∀ s ∈ ss, s.2 ∈ ns ∧ Sz2 2000 3500 s.1) ∧ (∀ n ∈ ns, ∀ q, pr n = some q → Sz2 6000 3600 q) ∧ (ss.find? fun s => decide (addO s.1 (pr s.2) = some q)).map (·.2) = some m ∧ ∀ r H', Wf ((r, nD m) :: F) H' M → Q r H'
theorem n_nextc {F : List (V × D)} {H : Hp} {M : List ME} {v u : V} {pp : Addr} {ss : List (Rat × Nd)} {ns : List Nd} {pr : Nd → Option Rat} {q : Rat} {m : Nd} {Q : VK} {E : XK} (w : Wf F H M) (hv : Rk F M v (.lst (ss.map stD))) (hp : .dt pp (tabN (fun n => oqD (pr n)) ns) ∈ M) (hu : Kn F u (frq q)) (hs : ∀ s ∈ ss, s.2 ∈ ns ∧ Sz2 2000 3500 s.1) (hz : ∀ n ∈ ns, ∀ q, pr n = some q → Sz2 6000 3600 q) (hm : (ss.find? fun s => decide (addO s.1 (pr s.2) = some q)).map (·.2) = some m) (k : ∀ r H', Wf ((r, nD m) :: F) H' M → Q r H') : sp_next_chosen ([v, .ref pp, u] ++ []) H Q E := ⟨F, M, v, pp, u, ss, ns, pr, q, m, rfl, w, hv, hp, hu, hs, hz, hm, k⟩
theorem find_skip {α : Type} {P : α → Bool} : ∀ {l : List α} {i : Nat}, (∀ x ∈ l.take i, P x = false) → l.find? P = (l.drop i).find? P
  | [], i, _ => by simp
  | x :: l, 0, _ => rfl
  | x :: l, i + 1, h => by
    rw [List.find?_cons, h x (by simp)]
    simp only [List.drop_succ_cons]
    exact find_skip fun y hy => h y (by simp [hy])

theorem ok_next_chosen {f : Addr} {fd : FuncData} (F : Fun K "next_chosen" "next_chosen" s_next_chosen f fd) (B : Bn mg) (c_plus : Cal P wd K mg base "plus" 3 ["one", "other"] [] sp_plus)  : FnOk P wd K mg base CX0 4 f fd ["steps", "prices", "price"] sp_next_chosen := by
  refine F.ok sc_next_chosen (fun vs H Q E h => ?_) (fun cdv A outer s H vs Q E hr h => ?_)
  · obtain ⟨F, M, v, pp, u, ss, ns, pr, q, m, rfl, w, hv, hp, hu, hs, hz, hm, k⟩ := h
    all_goals rfl
  · obtain ⟨F, M, v, pp, u, ss, ns, pr, q, m, rfl, w, hv, hp, hu, hs, hz, hm, k⟩ := h
    refine ⟨_, (pss_cons (ps_for PassesOwn.never rfl (kpi_list (K := K) rfl (pv 0)) (kpg_tup (K := K) (n := 2) rfl rfl (pgs_cons (pg_name (i := 3) sc_next_chosen.nd rfl (Or.inl rfl)) (pgs_cons (pg_name (i := 4) sc_next_chosen.nd rfl (Or.inl rfl)) pgs_nil))) (pss_one (ps_if (pw_and (pt_cmp (pc_notN (pe_dget (hu1 hr.units) (pv 1) (pv 4) (fun _ _ => rfl)))) (pw_and1 (pt_cmpR (k_eq (K := K) rfl hr.units) (pe_cal c_plus (hr.mono (by decide)) (by rfl) (pa_cons (pv 3) (pa_cons (pe_dget (hu1 hr.units) (pv 1) (pv 4) (fun _ _ => rfl)) pa_nil))) (pv 2) (nomark _)))).pt (pss_one (ps_ret (pv 4))) pss_nil)))
      (pss_one (ps_ret pe_non))), ?_⟩
    try dsimp only [cxOf, Cx.nox, Cx.wish, Cx.blk]
    rw [show L2.start (["steps", "prices", "price", "cost", "after"] : List Str) [v, .ref pp, u] = [some v, some (.ref pp), some u, none, none] from rfl]
    wtm_at "n"
    refine n_forL w (fun i σ' F' M' => ∃ (x3 x4 : Option V), σ' = [some v, some (.ref pp), some u, x3, x4] ∧ F = F' ∧ M = M' ∧ ∀ s ∈ ss.take i, decide (addO s.1 (pr s.2) = some q) = false) (by rintro i σ' F' M' ⟨_, _, rfl, rfl, rfl, _⟩; exact hv) ⟨_, _, rfl, rfl, rfl, fun _ h => (by simp at h)⟩ ?_ ?_
    · clear w
      rintro i d z σ' H' F' M' hd ⟨x3, x4, rfl, rfl, rfl, hno⟩ w
      obtain ⟨s, hs', rfl⟩ := map_get hd
      obtain ⟨hsn, hsz⟩ := hs s (List.mem_of_getElem? hs')
      have hno' : decide (addO s.1 (pr s.2) = some q) = false → ∀ t ∈ ss.take (i + 1), decide (addO t.1 (pr t.2) = some q) = false := fun e t ht => by
        rw [take_snoc hs'] at ht
        rcases List.mem_append.mp ht with ht | ht
        · exact hno t ht
        · rw [List.mem_singleton.mp ht]; exact e
      refine n_gtup2 (d0 := frq s.1) (d1 := nD s.2) w (.mem List.mem_cons_self) fun a c w => ?_
      wtm_at "n"
      refine n_dgetT (k := ndK s.2) (d := oqD (pr s.2)) w hp (.mem (List.mem_cons_of_mem _ List.mem_cons_self)) (tab_in (f := fun n => oqD (pr n)) hsn) fun u2 w => ?_
      cases hpr : pr s.2 with
      | none =>
        rw [hpr] at w
        obtain ⟨rfl, w⟩ := w.non0
        wtm_at "n"
        exact ⟨_, _, ⟨_, _, rfl, rfl, rfl, hno' (by rw [hpr]; rfl)⟩, by wtm_at "wf"⟩
      | some p =>
        have hpz := hz _ hsn p hpr
        rw [hpr] at w
        obtain ⟨pu, rfl⟩ := (show Wf ((u2, .tup [.int p.num, .int (p.den : Int)]) :: _) H' M from w).tup0
        wtm_at "n"
        refine n_dgetT (k := ndK s.2) (d := oqD (pr s.2)) w hp (.mem (by simp [nD, ndK, keyD])) (tab_in (f := fun n => oqD (pr n)) hsn) fun u3 w => ?_
        rw [hpr] at w
        wtm_at "n"
        refine n_plusW (p := s.1) (q := p) w (.mem (by simp)) (.mem List.mem_cons_self) (hsz.mono (by decide) (Nat.le_refl _)) (hpz.mono (by decide) (by decide)) fun r H5 w => ?_
        wtm_at "n"
        have hu2 : Rk F M u (frq q) := Rk.of hu fun z => by rcases z with ⟨n, e⟩ | ⟨n, e⟩ <;> cases e
        refine n_eq (d := frq (s.1 + p)) (e := frq q) (b := decide (s.1 + p = q)) (j := 1) (k := 1) w (.mem List.mem_cons_self) (by ktf_call "rk") (NB.fr (k := 0)) (NB.fr (k := 0)) (by decide) (by decide) (by rw [decide_eq_true_iff]; exact ⟨fun e => by rw [e], frq_inj⟩) ?_
        by_cases hc : s.1 + p = q
        · rw [decide_eq_true hc]
          wtm_at "n"
          rw [find_skip hno] at hm
          have hdr : ss.drop i = s :: ss.drop (i + 1) := List.drop_eq_getElem?_toList_append.trans (by rw [hs']; rfl)
          rw [hdr, List.find?_cons, show decide (addO s.1 (pr s.2) = some q) = true from by rw [hpr]; simp [addO, hc]] at hm
          cases hm
          exact k _ _ (w.sub (KS.cons (.mem (by simp)) fun f hf => .mem (by simp [hf])) (.refl _))
        · rw [decide_eq_false hc]
          wtm_at "n"
          exact ⟨_, _, ⟨_, _, rfl, rfl, rfl, hno' (by rw [hpr]; simp [addO, hc])⟩, w.sub (fun f hf => .mem (by simp [hf])) (.refl _)⟩
    · clear w
      rintro σ' H' F' M' ⟨x3, x4, rfl, rfl, rfl, hno⟩ w
      rw [List.length_map] at hno
      rw [find_skip hno, List.drop_length] at hm
      cases hm
abbrev s_way_of : Stmt := top 25
theorem sc_way_of : FnScope ["ways", "found", "prices", "node", "nodes"] ["ways"] (defScope s_way_of) := ⟨rfl, rfl, rfl, by decide +kernel, rfl, by decide +kernel, by decide +kernel⟩
def sp_way_of (C_Listed : Addr) : Sp := fun vs H Q _ => ∃ F M x, ∃ (g : Wgr) (U : List Nd) (N : Nat), vs = [x] ∧ Wf F H M ∧ WO C_Listed F M x g U N ∧ (∀ H', prc g N (0, 0) = none → Wf F H' M → Q .non H') ∧ ∀ r p H' c, prc g N (0, 0) = some c → Wf ((r, .tup [frq c, .ref p]) :: F) H' (.ml p ((wayN g N).map nD) :: M) → Q r H'
theorem n_wayof {C_Listed : Addr} {F : List (V × D)} {H : Hp} {M : List ME} {x : V} {g : Wgr} {U : List Nd} {N : Nat} {Q : VK} {E : XK} (w : Wf F H M) (h : WO C_Listed F M x g U N) (q1 : ∀ H', prc g N (0, 0) = none → Wf F H' M → Q .non H') (q2 : ∀ r p H' c, prc g N (0, 0) = some c → Wf ((r, .tup [frq c, .ref p]) :: F) H' (.ml p ((wayN g N).map nD) :: M) → Q r H') : sp_way_of C_Listed ([x] ++ []) H Q E := ⟨F, M, x, g, U, N, rfl, w, h, q1, q2⟩

theorem ok_way_of {f : Addr} {fd : FuncData} (F : Fun K "way_of" "way_of" s_way_of f fd) (B : Bn mg) (c_steps_known : Cal P wd K mg base "steps_known" 2 ["ways"] [] (sp_steps_known C_Listed)) (c_prices_known : Cal P wd K mg base "prices_known" 5 ["found"] [] sp_prices_known) (c_next_chosen : Cal P wd K mg base "next_chosen" 4 ["steps", "prices", "price"] [] sp_next_chosen) (t_Listed_first_node : Met P wd K mg base "first_node" C_Listed 1 ["self"] [] (sp_Listed_first_node))  : FnOk P wd K mg base CX0 6 f fd ["ways"] (sp_way_of C_Listed) := by
  refine F.ok sc_way_of (fun vs H Q E h => ?_) (fun cdv A outer s H vs Q E hr h => ?_)
  · obtain ⟨F, M, x, g, U, N, rfl, w, h, k1, k2⟩ := h
    all_goals rfl
  · obtain ⟨F, M, x, g, U, N, rfl, w, h, k1, k2⟩ := h
    refine ⟨_, (pss_cons (ps_set (i := 1) sc_way_of.nd rfl (Or.inl rfl) (pe_cal c_steps_known (hr.mono (by decide)) (by rfl) (pa_cons (pv 0) pa_nil)))
      (pss_cons (ps_set (i := 2) sc_way_of.nd rfl (Or.inl rfl) (pe_cal c_prices_known (hr.mono (by decide)) (by rfl) (pa_cons (pv 1) pa_nil)))
      (pss_cons (ps_set (i := 3) sc_way_of.nd rfl (Or.inl rfl) (pe_met0 (pv 0) t_Listed_first_node (hr.mono (by decide))))
      (pss_cons (ps_if (pt_cmp (pc_isN (pe_dget (hu1 hr.units) (pv 2) (pv 3) (fun _ _ => rfl)))) (pss_one (ps_ret pe_non)) pss_nil)
      (pss_cons (ps_set (i := 4) sc_way_of.nd rfl (Or.inl rfl) (pe_lst (pa_cons (pv 3) pa_nil)))
      (pss_cons (ps_while PassesOwn.never (pt_cmp (pc_notN (pe_dget (hu1 hr.units) (pv 1) (pv 3) (fun _ _ => rfl)))) (pss_cons (ps_set (i := 3) sc_way_of.nd rfl (Or.inl rfl) (pe_cal c_next_chosen (hr.mono (by decide)) (by rfl) (pa_cons (pe_dget (hu1 hr.units) (pv 1) (pv 3) (fun _ _ => rfl)) (pa_cons (pv 2) (pa_cons (pe_dget (hu1 hr.units) (pv 2) (pv 3) (fun _ _ => rfl)) pa_nil)))))
      (pss_one (ps_expr (pe_bm PySem.F.plainAttrs_list PySem.F.slot_list_append PySem.F.type_list_append mt_append (pv 4) (pa_cons (pv 3) pa_nil))))))
      (pss_one (ps_ret (pe_tup (pa_cons (pe_dget (hu1 hr.units) (pv 2) (pe_ix (k_ix (K := K) rfl) (pv 4) pe_int (fun _ _ => rfl)) (fun _ _ => rfl)) (pa_cons (pv 4) pa_nil))))))))))), ?_⟩
    try dsimp only [cxOf, Cx.nox, Cx.wish, Cx.blk]
    have ok := h.ok
    rw [show L2.start (["ways", "found", "prices", "node", "nodes"] : List Str) [x] = [some x, none, none, none, none] from rfl]
    wtm_at "n"
    refine n_known w h fun pf H1 ns hn hr' w => ?_
    wtm_at "n"
    refine n_pricesk w List.mem_cons_self ok hn hr' fun pp H2 ms hp w => ?_
    have hpm : ∀ n, Reach g n → n ∈ ms := fun n r => hp.mem_iff.mpr ((hr' n).mpr r)
    have hz : ∀ n ∈ ms, ∀ q, prc g N n = some q → Sz2 6000 3600 q := fun n hn' q hq => prc_sz ok (((hr' n).mp (hp.mem_iff.mp hn')).inU ok) hq
    have hwo : WO C_Listed F (.dt pp (tabN (fun n => oqD (prc g N n)) ms) :: .dt pf (tabN (fdD g) ns) :: M) x g U N := by wtm_at "wo"
    wtm_at "wopen"
    wtm_at "n"
    wtm_at "wfirst"
    rename_i r0 H3 w
    wtm_at "n"
    refine n_dgetT (k := ndK (0, 0)) (d := oqD (prc g N (0, 0))) w (by ktf_call "mem") (.mem List.mem_cons_self) (tab_in (f := fun n => oqD (prc g N n)) (hpm _ .z)) fun u w => ?_
    cases hc : prc g N (0, 0) with
    | none =>
      rw [hc] at w
      obtain ⟨rfl, w⟩ := w.non0
      wtm_at "n"
      exact k1 _ hc (by wtm_at "wf")
    | some c =>
      rw [hc] at w
      obtain ⟨pu, rfl⟩ := (show Wf ((u, .tup [.int c.num, .int (c.den : Int)]) :: _) H3 _ from w).tup0
      wtm_at "n"
      rename_i pn H4 w
      have w : Wf ((r0, nD (0, 0)) :: F) H4 (.ml pn [nD (0, 0)] :: .dt pp (tabN (fun n => oqD (prc g N n)) ms) :: .dt pf (tabN (fdD g) ns) :: M) := by wtm_at "wf"
      refine n_whileG w (fun μ σ' F' M' => ∃ (pre : List Nd) (n : Nd) (nv : V) (q : Rat), σ' = [some x, some (.ref pf), some (.ref pp), some nv, some (.ref pn)] ∧ F' = (nv, nD n) :: F ∧ M' = .ml pn ((pre ++ [n]).map nD) :: .dt pp (tabN (fun n => oqD (prc g N n)) ms) :: .dt pf (tabN (fdD g) ns) :: M ∧ Reach g n ∧ prc g N n = some q ∧ (N : Int) - g.rk n < μ ∧ pre.length + μ ≤ N + 1 ∧ wayN g N = pre ++ pathF g (prc g N) μ n) (N + 1) ⟨[], (0, 0), r0, c, rfl, rfl, rfl, .z, hc, by have := ok.lo _ ok.u0; omega, by simp, rfl⟩ ?_
      clear w
      rintro μ σ' H' F' M' ⟨pre, n, nv, q, rfl, rfl, rfl, hrn, hq, hμ, hpl, hway⟩ w
      have hnU := hrn.inU ok
      have hN := ok.hk
      have hN2 : N ≤ 3500 := ok.N_le
      wtm_at "n"
      refine n_dgetT (k := ndK n) (d := fdD g n) w (by ktf_call "mem") (.mem List.mem_cons_self) (tab_in ((hr' n).mpr hrn)) fun u2 w => ?_
      cases hfn : g.fin n with
      | true =>
        rw [show fdD g n = .non from if_pos hfn] at w
        obtain ⟨rfl, w⟩ := w.non0
        wtm_at "n"
        rw [pathF_end hfn] at hway
        rw [← hway] at w
        have w : Wf ((nv, nD n) :: F) H' (.ml pn ((wayN g N).map nD) :: .dt pp (tabN (fun n => oqD (prc g N n)) ms) :: .dt pf (tabN (fdD g) ns) :: M) := by wtm_at "wf"
        obtain ⟨tl, htl⟩ := pathF_head g (prc g N) (N + 1) (0, 0)
        refine n_ixL (d := nD (0, 0)) w (.ml List.mem_cons_self) (by rw [show wayN g N = (0, 0) :: tl from htl]; exact atI_head) fun u3 w => ?_
        wtm_at "n"
        refine n_dgetT (k := ndK (0, 0)) (d := oqD (prc g N (0, 0))) w (by ktf_call "mem") (.mem List.mem_cons_self) (tab_in (f := fun n => oqD (prc g N n)) (hpm _ .z)) fun u4 w => ?_
        rw [hc] at w
        wtm_at "n"
        refine n_newT (ds := [frq c, .ref pn]) w (.cons (.mem List.mem_cons_self) (.cons (.ref _) .nil)) (by simp) fun t H5 w => ?_
        exact k2 _ pn _ c hc (by wtm_at "wf")
      | false =>
        have efd : fdD g n = .lst ((g.st n).map stD) := by unfold fdD; rw [if_neg (by rw [hfn]; simp)]
        rw [efd] at w
        obtain ⟨pu2, rfl⟩ := w.lst0
        obtain ⟨s, hs, hnx, hsq⟩ := nxt_some ok hnU hfn hq
        have hgo := ok.go n hnU hfn s hs
        have hM := ok.lo n hnU
        have hM2 := ok.lo _ hgo.1
        have hup := ok.up n hnU hfn s hs
        obtain ⟨ν, rfl⟩ : ∃ ν, μ = ν + 1 := ⟨μ - 1, by omega⟩
        rw [pathF_step hfn hnx] at hway
        have hq2 : ∃ q2, prc g N s.2 = some q2 := by
          cases e : prc g N s.2 with
          | none => rw [e] at hsq; cases hsq
          | some q2 => exact ⟨q2, rfl⟩
        obtain ⟨q2, hq2⟩ := hq2
        wtm_at "n"
        refine n_wG ?_
        wtm_at "n"
        refine n_dgetT (k := ndK n) (d := fdD g n) w (by ktf_call "mem") (.mem (by simp [nD, ndK, keyD])) (tab_in ((hr' n).mpr hrn)) fun u3 w => ?_
        rw [efd] at w
        wtm_at "n"
        refine n_dgetT (k := ndK n) (d := oqD (prc g N n)) w (by ktf_call "mem") (.mem (by simp [nD, ndK, keyD])) (tab_in (f := fun n => oqD (prc g N n)) (hpm _ hrn)) fun u4 w => ?_
        rw [hq] at w
        wtm_at "n"
        refine n_nextc (ss := g.st n) (ns := ms) (pr := prc g N) (q := q) (m := s.2) w (.mem (by simp)) (by ktf_call "mem") (.mem List.mem_cons_self) (fun t ht => ⟨hpm _ (.s hrn hfn ht), (ok.sz n hnU t ht).mono (Nat.le_refl _) ok.k_le⟩) hz (by unfold nxtN at hnx; rw [hq] at hnx; exact hnx) fun r H5 w => ?_
        have hln : ((pre ++ [n]).map nD).length ≤ 100000 := by rw [List.length_map, List.length_append, List.length_singleton]; omega
        wtm_at "n"
        rename_i H6 w
        refine ⟨ν, by omega, _, _, ⟨pre ++ [n], s.2, r, q2, rfl, rfl, rfl, .s hrn hfn hs, hq2, by omega, by rw [List.length_append, List.length_singleton]; omega, by rw [hway, List.append_assoc]; rfl⟩, ?_⟩
        rw [List.map_append (l₁ := pre ++ [n])]
        exact w.sub (KS.cons (.mem List.mem_cons_self) fun f hf => .mem (by simp [hf])) (.refl _)
abbrev s__law_bag : Stmt := top 27
theorem sc__law_bag : FnScope ["_law_script", "_law_cell"] ["_law_script"] (defScope s__law_bag) := ⟨rfl, rfl, rfl, by decide +kernel, rfl, by decide +kernel, by decide +kernel⟩
def sp__law_bag (K : PySem.W.Frag) : Sp := fun vs H Q _ => ∃ I M a, ∃ ns : List Int, vs = [.ref a] ∧ W I H M ∧ SqL K H a (ns.map V.int) ∧ ∀ p c o J H', Same I J → W J H' ((p, o) :: M) → Bag J c o → Q (.ref p) H'
theorem use_bag {K : PySem.W.Frag} {H : Hp} {a : Addr} {ns : List Int} {Q : VK} {E : XK} (hS : SqL K H a (ns.map V.int)) (q : ∀ p c o J H', W J H' ((p, o) :: []) → Bag J c o → Q (.ref p) H') : sp__law_bag K ([.ref a] ++ []) H Q E :=
  ⟨_, _, a, ns, rfl, W.zero, hS, fun p c o J H' _ w b => q p c o J H' w b⟩
theorem n_bag {K : PySem.W.Frag} {H : Hp} {a : Addr} {ns : List Int} {Q : VK} {E : XK} (hS : SqL K H a (ns.map V.int)) (q : ∀ p H', Wf [] H' [.bag p] → Q (.ref p) H') : sp__law_bag K ([.ref a] ++ []) H Q E :=
  use_bag hS fun p c o J H' w hb => q p H' ⟨J, _, w, .cons (.bag hb) .nil, fun _ h => nomatch h⟩

theorem ok__law_bag {f : Addr} {fd : FuncData} (F : Fun K "_law_bag" "_law_bag" s__law_bag f fd) (B : Bn mg)  : FnOk P wd K mg base CX0 1 f fd ["_law_script"] (sp__law_bag K) := by
  refine F.ok sc__law_bag (fun vs H Q E h => ?_) (fun cdv A outer s H vs Q E hr h => ?_)
  · obtain ⟨I, M, a, ns, rfl, w, hS, k⟩ := h
    all_goals rfl
  · obtain ⟨I, M, a, ns, rfl, w, hS, k⟩ := h
    refine ⟨_, (pss_one (ps_ret (pe_lst (pa_cons pe_int (pa_cons pe_int (pa_cons pe_int (pa_cons (pe_lc (own := [("_law_cell", 1)]) (by rfl) sc__law_bag.nd (kpi_list (K := K) rfl (pe_slice (k_sl (K := K) rfl) (pv 0) po_none (po_some pe_int))) (blkOk_by (own := [("_law_cell", 1)]) (N := ["_law_script", "_law_cell"]) (sc := defScope s__law_bag) (by decide +kernel)) (fun _ _ _ _ _ => (pg_name (i := 1) sc__law_bag.nd rfl (Or.inl rfl))) (fun _ _ _ _ _ => pts_nil) (fun _ _ _ _ _ => (pe_callB uc_abs (by rfl) B.abs_ (by decide +kernel) (pa_cons (pv 1) pa_nil)))) pa_nil))))))), ?_⟩
    try dsimp only [cxOf, Cx.nox, Cx.wish, Cx.blk]
    wtm_at "go"
    obtain ⟨ms, hm⟩ := cut63 ns none (some 63)
    refine s_slK hS fun p np => ?_
    rw [hm]
    have w1 := w.newI (o := .lst (ms.map V.int)) np
    have s1 : Same I (upd I p (.lst (ms.map V.int))) := w.same np
    refine s_iL' w1 (.lst upd_same (IsA.ints ms)) fun a' vs' ea ha hA => ?_
    cases ea
    rw [upd_same] at ha
    cases ha
    intro D nD
    have w2 := w1.newM (o := .lst []) nD
    refine lc_it (walk_list (xs := ms.map V.int)) (fun i H' => ∃ acc : List Int, W (upd I p (.lst (ms.map V.int))) H' ((D, .lst (acc.map V.int)) :: M) ∧ acc.length = i ∧ ∀ n ∈ acc, 0 ≤ n) ⟨[], w2, rfl, fun _ h => nomatch h⟩ (fun i H' _ ⟨acc, w3, _⟩ => .inl (.inl (w3.imm _ _ upd_same))) ?_ ?_
    · rintro i x H3 H4 hi ⟨acc, w3, hl, hp⟩ ⟨rfl, e⟩
      obtain ⟨z, rfl⟩ : ∃ z, x = V.int z := by
        rw [List.getElem?_map] at e
        cases q : ms[i]? with
        | none => rw [q] at e; cases e
        | some z => rw [q] at e; exact ⟨z, (Option.some.inj e).symm⟩
      refine s_gname ⟨rfl, ?_⟩
      wtm_at "go"
      have hlen : acc.length < 16777216 := by
        rw [hl]
        have := (List.getElem?_eq_some_iff.mp e).1
        have h5 : (ms.map V.int).length ≤ 64 := by
          rw [← hm]
          unfold cutV
          rw [List.length_take]
          have : HT.sIx (ns.map V.int).length (ns.map V.int).length (some 63) ≤ 63 := by
            show min (63 : Int).toNat _ ≤ 63
            exact Nat.min_le_left _ _
          omega
        omega
      refine ⟨_, w3.at0, (by rw [List.length_map]; exact Nat.lt_of_lt_of_le hlen (by decide)), acc ++ [if z < 0 then -z else z], ?_, by rw [List.length_append, hl]; rfl, fun n hn => ?_⟩
      · have q := w3.put0 (o' := .lst (acc.map V.int ++ [V.int (if z < 0 then -z else z)]))
        rw [List.map_append]
        exact q
      · rcases List.mem_append.mp hn with h | h
        · exact hp n h
        · rw [List.mem_singleton.mp h]
          split <;> omega
    · rintro H3 ⟨acc, w3, _, hp⟩
      obtain ⟨J, s2, w4, h4⟩ := w3.done0 (IsA.ints acc)
      wtm_at "go"
      refine s_newM w4 (by simp) fun q H5 w5 => ?_
      obtain ⟨_, vs, e, h6, a6⟩ := h4.lst_ex
      cases e
      exact k q D _ J H5 (s1.trans s2) w5 ⟨⟨acc, by rw [h6, a6.ints_eq], hp⟩, 0, 1234567891, 0, rfl, by decide, by decide, by decide, by decide⟩
abbrev s__law_take : Stmt := top 28
theorem sc__law_take : FnScope ["_law_bag_here", "_law_many", "_law_more", "_law_cell", "_law_value", "_law_first", "_law_second"] ["_law_bag_here", "_law_many"] (defScope s__law_take) := ⟨rfl, rfl, rfl, by decide +kernel, rfl, by decide +kernel, by decide +kernel⟩
def sp__law_take : Sp := fun vs H Q _ => ∃ I M b c o, ∃ m : Int, vs = [.ref b, .int m] ∧ W I H ((b, o) :: M) ∧ Bag I c o ∧ 0 < m ∧ Bd 4000 m ∧ ∀ v o' H', 0 ≤ v → v < m → Bag I c o' → W I H' ((b, o') :: M) → Q (.int v) H'
theorem use_take {I H : Hp} {M : List (Addr × HO)} {b c : Addr} {o : HO} {m : Int} {Q : VK} {E : XK} (w : W I H ((b, o) :: M)) (hb : Bag I c o) (h0 : 0 < m) (h1 : m < 10 ^ 200) (q : ∀ v o' H', 0 ≤ v → v < m → Bag I c o' → W I H' ((b, o') :: M) → Q (.int v) H') : sp__law_take ([.ref b, .int m] ++ []) H Q E :=
  ⟨I, M, b, c, o, m, rfl, w, hb, h0, Bd.of (10 ^ 200) (by omega) (by decide +kernel), q⟩
theorem take_end {I : Hp} {M : List (Addr × HO)} {b c : Addr} {ns : List Int} {x y z m : Int} {Q : VK} (cs : I c = some (.lst (ns.map V.int))) (nn : ∀ n ∈ ns, 0 ≤ n) (x0 : 0 ≤ x) (y0 : 0 ≤ y) (y1 : y < 2147483647) (z0 : 0 ≤ z)
    (k : ∀ v o' H', 0 ≤ v → v < m → Bag I c o' → W I H' ((b, o') :: M) → Q (.int v) H') : ∀ v H', 0 ≤ v → v < m → W I H' ((b, .lst [.int x, .int y, .int z, .ref c]) :: M) → Q (.int v) H' := fun v H' h1 h2 w => k v _ H' h1 h2 ⟨⟨ns, cs, nn⟩, x, y, z, rfl, x0, y0, y1, z0⟩ w
theorem n_take {F : List (V × D)} {H : Hp} {M : List ME} {b : Addr} {m : Int} {Q : VK} {E : XK} (w : Wf F H M) (hb : .bag b ∈ M) (h0 : 0 < m) (h1 : m < 10 ^ 200) (q : ∀ v H', 0 ≤ v → v < m → Wf F H' M → Q (.int v) H') : sp__law_take ([.ref b, .int m] ++ []) H Q E := by
  obtain ⟨I, Mc, c, o, w, hb, _, up, _⟩ := w.oldB hb
  exact use_take w hb h0 h1 fun v o' H' v0 v1 hb' w' => q v H' v0 v1 (up I H' o' (Same.refl _) w' hb')
local macro_rules | `(tactic| wtm_at "c1") => `(tactic| ((with_reducible refine' n_take (by assumption) ?b ?c ?d ?_); (case b => ktf_call "mem"); (case c => omega); (case d => omega); (intro v H' v0 v1 w')))

theorem ok__law_take {f : Addr} {fd : FuncData} (F : Fun K "_law_take" "_law_take" s__law_take f fd) (B : Bn mg)  : FnOk P wd K mg base CX0 1 f fd ["_law_bag_here", "_law_many"] sp__law_take := by
  refine F.ok sc__law_take (fun vs H Q E h => ?_) (fun cdv A outer s H vs Q E hr h => ?_)
  · obtain ⟨I, M, b, c, o, m, rfl, w, ⟨⟨ns, cs, nn⟩, x, y, z, rfl, x0, y0, y1, z0⟩, h0, h1, k⟩ := h
    all_goals rfl
  · obtain ⟨I, M, b, c, o, m, rfl, w, ⟨⟨ns, cs, nn⟩, x, y, z, rfl, x0, y0, y1, z0⟩, h0, h1, k⟩ := h
    refine ⟨_, (pss_cons (ps_if (pt_cmpR (k_eq (K := K) rfl hr.units) (pe_ix (k_ix (K := K) rfl) (pv 0) pe_int (fun _ _ => rfl)) pe_int (nomark _)) (pss_cons (ps_set (i := 2) sc__law_take.nd rfl (Or.inl rfl) pe_int)
      (pss_cons (ps_if (pt_cmpR op_lt (pe_ix (k_ix (K := K) rfl) (pv 0) pe_int (fun _ _ => rfl)) (pe_callB (k_len (K := K) rfl) (by rfl) B.len_ (by decide +kernel) (pa_cons (pe_ix (k_ix (K := K) rfl) (pv 0) pe_int (fun _ _ => rfl)) pa_nil)) (nomark _)) (pss_cons (ps_set (i := 3) sc__law_take.nd rfl (Or.inl rfl) (pe_ix (k_ix (K := K) rfl) (pe_ix (k_ix (K := K) rfl) (pv 0) pe_int (fun _ _ => rfl)) (pe_ix (k_ix (K := K) rfl) (pv 0) pe_int (fun _ _ => rfl)) (fun _ _ => rfl)))
      (pss_cons (ps_augL (pv 0) pe_int pe_int)
      (pss_cons (ps_if (pt_cmpR op_ge (pv 3) pe_int (nomark _)) (pss_one (ps_asg (pv 3) (pg_sub (pv 0) pe_int set_list))) pss_nil)
      (pss_one (ps_set (i := 2) sc__law_take.nd rfl (Or.inl rfl) (pe_op (k_add (K := K) rfl) (pe_op op_mod (pv 3) pe_int) pe_int)))))) pss_nil)
      (pss_one (ps_asg (pe_op op_mod (pe_op (k_add (K := K) rfl) (pe_op uo_mul (pe_ix (k_ix (K := K) rfl) (pv 0) pe_int (fun _ _ => rfl)) pe_int) (pv 2)) pe_int) (pg_sub (pv 0) pe_int set_list))))) pss_nil)
      (pss_cons (ps_if (pt_cmpR op_gt (pe_ix (k_ix (K := K) rfl) (pv 0) pe_int (fun _ _ => rfl)) pe_int (nomark _)) (pss_cons (ps_set (i := 4) sc__law_take.nd rfl (Or.inl rfl) (pe_op op_mod (pe_ix (k_ix (K := K) rfl) (pv 0) pe_int (fun _ _ => rfl)) (pv 1)))
      (pss_cons (ps_asg (pe_op op_fdivW (pe_ix (k_ix (K := K) rfl) (pv 0) pe_int (fun _ _ => rfl)) (pv 1)) (pg_sub (pv 0) pe_int set_list))
      (pss_one (ps_ret (pv 4))))) pss_nil)
      (pss_cons (ps_set (i := 5) sc__law_take.nd rfl (Or.inl rfl) (pe_op op_mod (pe_op uo_mul (pe_ix (k_ix (K := K) rfl) (pv 0) pe_int (fun _ _ => rfl)) pe_int) pe_int))
      (pss_cons (ps_set (i := 6) sc__law_take.nd rfl (Or.inl rfl) (pe_op op_mod (pe_op uo_mul (pv 5) pe_int) pe_int))
      (pss_cons (ps_if (pt_cmpR op_gt (pv 1) pe_int (nomark _)) (pss_one (ps_ret (pe_op op_mod (pe_op (k_add (K := K) rfl) (pe_op uo_mul (pv 6) pe_int) (pv 5)) (pv 1)))) pss_nil)
      (pss_one (ps_ret (pe_op op_mod (pe_op op_fdivW (pv 6) pe_int) (pv 1))))))))), ?_⟩
    try dsimp only [cxOf, Cx.nox, Cx.wish, Cx.blk]
    have hc : Is I (.ref c) (.lst (ns.map D.int)) := .lst cs (IsA.ints ns)
    with_reducible refine s_mid (fun σ' H' => ∃ x y z v2 v3, σ' = [some (.ref b), some (.int m), v2, v3, none, none, none] ∧ 0 ≤ x ∧ 0 ≤ y ∧ y < 2147483647 ∧ 0 ≤ z ∧ W I H' ((b, .lst [.int x, .int y, .int z, .ref c]) :: M)) ?_ (fun N1 fin => ?_)
    · clear x0 y0 y1 z0 w
      rintro σ' H' ⟨x, y, z, v2, v3, rfl, x0, y0, y1, z0, w⟩
      wtm_at "go"
      wtm_at "fork"
      · wtm_at "go"
        refine s_I (show (0 : Int) < m from h0) ?_
        wtm_at "go"
        refine s_I (h1.cd h0) ?_
        wtm_at "go"
        refine take_end (x := x / m) (y := y) (z := z) cs nn (Int.ediv_nonneg x0 (by omega)) y0 y1 z0 k _ _ (Int.emod_nonneg _ (by omega)) (Int.emod_lt_of_pos _ h0) (by assumption)
      · wtm_at "go"
        wtm_at "goo"
        wtm_at "fork"
        · wtm_at "goo"
          exact take_end (x := x) (y := y) (z := z) cs nn x0 y0 y1 z0 k _ _ (Int.emod_nonneg _ (by omega)) (Int.emod_lt_of_pos _ h0) w
        · wtm_at "goo"
          exact take_end (x := x) (y := y) (z := z) cs nn x0 y0 y1 z0 k _ _ (Int.emod_nonneg _ (by omega)) (Int.emod_lt_of_pos _ h0) w
    · wtm_at "go"
      wtm_at "fork"
      · wtm_at "s1"; wtm_at "s1"; wtm_at "e1"; wtm_at "s1"
        with_reducible refine s_mid (fun σ' H' => ∃ x z v3, ∃ r : Int, σ' = [some (.ref b), some (.int m), some (.int r), v3, none, none, none] ∧ 0 ≤ r ∧ r ≤ 2147483647 ∧ 0 ≤ x ∧ 0 ≤ z ∧ W I H' ((b, .lst [.int x, .int y, .int z, .ref c]) :: M)) ?_ (fun N2 fin2 => ?_)
        · rintro σ' H' ⟨x', z', v3, r, rfl, r0, r1, x0', z0', w'⟩
          wtm_at "goo"
          exact fin _ _ ⟨x', (y * 48271 + r) % 2147483647, z', _, v3, rfl, x0', Int.emod_nonneg _ (by decide), Int.emod_lt_of_pos _ (by decide), z0', by assumption⟩
        · wtm_at "go"
          wtm_at "fork"
          · rename_i hz
            rw [List.length_map] at hz
            obtain ⟨n, hn, e⟩ := at_ints z0 hz
            have hn0 := nn n hn
            wtm_at "go"
            refine s_ixL w hc e ?_
            wtm_at "inv"
            wtm_at "go"
            wtm_at "fork"
            · wtm_at "goo"
              exact fin2 _ _ ⟨n, z + 1, _, _, rfl, by omega, by omega, by omega, by omega, by assumption⟩
            · wtm_at "goo"
              exact fin2 _ _ ⟨x, z + 1, _, _, rfl, by omega, by omega, by omega, by omega, by assumption⟩
          · wtm_at "go"
            exact fin2 _ _ ⟨x, z, none, 12345, rfl, by decide, by decide, x0, z0, w⟩
      · wtm_at "go"
        exact fin _ _ ⟨x, y, z, none, none, rfl, x0, y0, y1, z0, w⟩
abbrev s__law_length : Stmt := top 29
theorem sc__law_length : FnScope ["_law_bag_here", "_law_most", "_law_way_here"] ["_law_bag_here", "_law_most"] (defScope s__law_length) := ⟨rfl, rfl, rfl, by decide +kernel, rfl, by decide +kernel, by decide +kernel⟩
def sp__law_length : Sp := fun vs H Q _ => ∃ I M b c o, ∃ m : Int, vs = [.ref b, .int m] ∧ W I H ((b, o) :: M) ∧ Bag I c o ∧ 0 ≤ m ∧ m ≤ 1000000000000000000000000000000000000000000000 ∧ ∀ v o' H', 0 ≤ v → v ≤ m → Bag I c o' → W I H' ((b, o') :: M) → Q (.int v) H'
theorem use_length {I H : Hp} {M : List (Addr × HO)} {b c : Addr} {o : HO} {m : Int} {Q : VK} {E : XK} (w : W I H ((b, o) :: M)) (hb : Bag I c o) (h0 : 0 ≤ m) (h1 : m ≤ 1000000000000) (q : ∀ v o' H', 0 ≤ v → v ≤ m → Bag I c o' → W I H' ((b, o') :: M) → Q (.int v) H') : sp__law_length ([.ref b, .int m] ++ []) H Q E :=
  ⟨I, M, b, c, o, m, rfl, w, hb, h0, by omega, q⟩
theorem n_length {F : List (V × D)} {H : Hp} {M : List ME} {b : Addr} {m : Int} {Q : VK} {E : XK} (w : Wf F H M) (hb : .bag b ∈ M) (h0 : 0 ≤ m) (h1 : m ≤ 1000000000000) (q : ∀ v H', 0 ≤ v → v ≤ m → Wf F H' M → Q (.int v) H') : sp__law_length ([.ref b, .int m] ++ []) H Q E := by
  obtain ⟨I, Mc, c, o, w, hb, _, up, _⟩ := w.oldB hb
  exact use_length w hb h0 h1 fun v o' H' v0 v1 hb' w' => q v H' v0 v1 (up I H' o' (Same.refl _) w' hb')
theorem n_lengthB {F : List (V × D)} {H : Hp} {M : List ME} {b : Addr} {m : Int} {Q : VK} {E : XK} (w : Wf F H M) (hb : .bag b ∈ M) (h0 : 0 ≤ m) (h1 : m ≤ 1000000000000000000000000000000000000000000000) (q : ∀ v H', 0 ≤ v → v ≤ m → Wf F H' M → Q (.int v) H') : sp__law_length ([.ref b, .int m] ++ []) H Q E := by
  obtain ⟨I, Mc, c, o, w, hb, _, up, _⟩ := w.oldB hb
  exact ⟨I, Mc, b, c, o, m, rfl, w, hb, h0, h1, fun v o' H' v0 v1 hb' w' => q v H' v0 v1 (up I H' o' (Same.refl _) w' hb')⟩
local macro_rules | `(tactic| wtm_at "c1") => `(tactic| ((with_reducible refine' n_length (by assumption) ?b ?c ?d ?_); (case b => ktf_call "mem"); (case c => omega); (case d => omega); (intro v H' v0 v1 w')))

theorem ok__law_length {f : Addr} {fd : FuncData} (F : Fun K "_law_length" "_law_length" s__law_length f fd) (B : Bn mg) (c__law_take : Cal P wd K mg base "_law_take" 1 ["_law_bag_here", "_law_many"] [] sp__law_take)  : FnOk P wd K mg base CX0 2 f fd ["_law_bag_here", "_law_most"] sp__law_length := by
  refine F.ok sc__law_length (fun vs H Q E h => ?_) (fun cdv A outer s H vs Q E hr h => ?_)
  · obtain ⟨I, M, b, c, o, m, rfl, w, hb, h0, h1, k⟩ := h
    all_goals rfl
  · obtain ⟨I, M, b, c, o, m, rfl, w, hb, h0, h1, k⟩ := h
    refine ⟨_, (pss_cons (ps_set (i := 2) sc__law_length.nd rfl (Or.inl rfl) (pe_cal c__law_take (hr.mono (by decide)) (by rfl) (pa_cons (pv 0) (pa_cons pe_int pa_nil))))
      (pss_cons (ps_if (pt_cmpR (k_eq (K := K) rfl hr.units) (pv 2) pe_int (nomark _)) (pss_one (ps_ret (pe_cal c__law_take (hr.mono (by decide)) (by rfl) (pa_cons (pv 0) (pa_cons (pe_op (k_add (K := K) rfl) (pe_callB (k_min (K := K) rfl rfl) (by rfl) B.min_ (by decide +kernel) (pa_cons (pv 1) (pa_cons pe_int pa_nil))) pe_int) pa_nil))))) pss_nil)
      (pss_cons (ps_if (pt_cmpR (k_eq (K := K) rfl hr.units) (pv 2) pe_int (nomark _)) (pss_one (ps_ret (pe_cal c__law_take (hr.mono (by decide)) (by rfl) (pa_cons (pv 0) (pa_cons (pe_op (k_add (K := K) rfl) (pe_callB (k_min (K := K) rfl rfl) (by rfl) B.min_ (by decide +kernel) (pa_cons (pv 1) (pa_cons pe_int pa_nil))) pe_int) pa_nil))))) pss_nil)
      (pss_cons (ps_if (pt_cmpR (k_eq (K := K) rfl hr.units) (pv 2) pe_int (nomark _)) (pss_one (ps_ret (pe_op op_sub (pv 1) (pe_cal c__law_take (hr.mono (by decide)) (by rfl) (pa_cons (pv 0) (pa_cons (pe_op (k_add (K := K) rfl) (pe_callB (k_min (K := K) rfl rfl) (by rfl) B.min_ (by decide +kernel) (pa_cons (pv 1) (pa_cons pe_int pa_nil))) pe_int) pa_nil)))))) pss_nil)
      (pss_one (ps_ret (pe_cal c__law_take (hr.mono (by decide)) (by rfl) (pa_cons (pv 0) (pa_cons (pe_op (k_add (K := K) rfl) (pv 1) pe_int) pa_nil))))))))), ?_⟩
    try dsimp only [cxOf, Cx.nox, Cx.wish, Cx.blk]
    wtm_at "go"
    refine use_take w hb (by omega) (by omega) fun v o1 H1 v0 v1 hb1 w1 => ?_
    wtm_at "go"
    wtm_at "fork"
    · wtm_at "go"
      refine use_take w1 hb1 (by split <;> omega) (by split <;> omega) fun u o2 H2 u0 u1 hb2 w2 => ?_
      exact k u o2 H2 u0 (by split at u1 <;> omega) hb2 w2
    wtm_at "go"
    wtm_at "fork"
    · wtm_at "go"
      refine use_take w1 hb1 (by split <;> omega) (by split <;> omega) fun u o2 H2 u0 u1 hb2 w2 => ?_
      exact k u o2 H2 u0 (by split at u1 <;> omega) hb2 w2
    wtm_at "go"
    wtm_at "fork"
    · wtm_at "go"
      refine use_take w1 hb1 (by split <;> omega) (by split <;> omega) fun u o2 H2 u0 u1 hb2 w2 => ?_
      wtm_at "go"
      exact k _ o2 H2 (by split at u1 <;> omega) (by omega) hb2 w2
    wtm_at "go"
    refine use_take w1 hb1 (by omega) (by omega) fun u o2 H2 u0 u1 hb2 w2 => ?_
    exact k u o2 H2 u0 (by omega) hb2 w2
abbrev s__law_whole : Stmt := top 30
theorem sc__law_whole : FnScope ["_law_thing"] ["_law_thing"] (defScope s__law_whole) := ⟨rfl, rfl, rfl, by decide +kernel, rfl, by decide +kernel, by decide +kernel⟩
def sp__law_whole : Sp := fun vs H Q _ => ∃ I M v d a, vs = [v] ∧ W I H M ∧ Is I v d ∧ d.tn = some a ∧ Q (.bl d.whole) H
theorem use_wholeI {I H : Hp} {M : List (Addr × HO)} {n : Int} {Q : VK} {E : XK} (w : W I H M) (q : Q (.bl true) H) : sp__law_whole ([.int n] ++ []) H Q E := ⟨I, M, _, _, _, rfl, w, .int n, rfl, q⟩
theorem use_wholeN {I H : Hp} {M : List (Addr × HO)} {v : V} {d : D} {a : String} {Q : VK} {E : XK} (w : W I H M) (h : Is I v d) (ha : d.tn = some a) (hd : d.whole = false) (q : Q (.bl false) H) : sp__law_whole ([v] ++ []) H Q E := ⟨I, M, _, _, _, rfl, w, h, ha, by rw [hd]; exact q⟩
theorem n_wh {F : List (V × D)} {H : Hp} {M : List ME} {v : V} {d : D} {Q : VK} {E : XK} (w : Wf F H M) (hv : Rk F M v d) (ht : Ty d) (q : Q (.bl d.whole) H) : sp__law_whole ([v] ++ []) H Q E := by
  obtain ⟨a, ha⟩ := ht
  exact ⟨H, [], v, d, a, rfl, W.self, w.rd hv, ha, q⟩
theorem n_whI {n : Int} {H : Hp} {Q : VK} {E : XK} (q : Q (.bl true) H) : sp__law_whole ([.int n] ++ []) H Q E := ⟨H, [], .int n, .int n, _, rfl, W.self, .int n, rfl, q⟩
local macro_rules | `(tactic| wtm_at "c0") => `(tactic| with_reducible refine n_whI ?_)

theorem ok__law_whole {f : Addr} {fd : FuncData} (F : Fun K "_law_whole" "_law_whole" s__law_whole f fd) (B : Bn mg)  : FnOk P wd K mg base CX0 1 f fd ["_law_thing"] sp__law_whole := by
  refine F.ok sc__law_whole (fun vs H Q E h => ?_) (fun cdv A outer s H vs Q E hr h => ?_)
  · obtain ⟨I, M, v, d, a, rfl, w, hv, ha, k⟩ := h
    all_goals rfl
  · obtain ⟨I, M, v, d, a, rfl, w, hv, ha, k⟩ := h
    refine ⟨_, (pss_one (ps_ret (pe_and (pe_callB (k_isi (K := K) rfl) (by rfl) B.isinstance_ (by decide +kernel) (pa_cons (pv 0) (pa_cons (pe_bltn (v := .ty "int") (by rfl) B.int_ (by decide +kernel) rfl) pa_nil))) (pe_one (pe_not (pe_callB (k_isi (K := K) rfl) (by rfl) B.isinstance_ (by decide +kernel) (pa_cons (pv 0) (pa_cons (pe_bltn (v := .ty "bool") (by rfl) B.bool_ (by decide +kernel) rfl) pa_nil)))))))), ?_⟩
    try dsimp only [cxOf, Cx.nox, Cx.wish, Cx.blk]
    cases d with
    | int n => wtm_at "go"; exact k
    | bl n => wtm_at "go"; exact k
    | non => wtm_at "go"; exact k
    | str n => wtm_at "go"; exact k
    | tup n => wtm_at "go"; exact k
    | lst n => wtm_at "go"; exact k
    | ref n => cases ha
    | ty n => cases ha
    | obj n m => cases ha
    | fact _ => cases ha
    | dict => wtm_at "go"; exact k
abbrev s__law_low : Stmt := top 31
theorem sc__law_low : FnScope ["_law_top", "_law_bottom", "_law_one", "_law_other"] ["_law_top", "_law_bottom"] (defScope s__law_low) := ⟨rfl, rfl, rfl, by decide +kernel, rfl, by decide +kernel, by decide +kernel⟩
def sp__law_low : Sp := fun vs H Q _ => ∃ F M, ∃ t b : Int, vs = [.int t, .int b] ∧ Wf F H M ∧ 0 < b ∧ Bd 8000 b ∧ ∀ r H', Wf ((r, frq (Rat.divInt t b)) :: F) H' M → Q r H'
theorem n_llow {F : List (V × D)} {H : Hp} {M : List ME} {t b : Int} {Q : VK} {E : XK} (w : Wf F H M) (hb : 0 < b) (hB : Bd 8000 b) (q : ∀ r H', Wf ((r, frq (Rat.divInt t b)) :: F) H' M → Q r H') : sp__law_low ([.int t, .int b] ++ []) H Q E := ⟨F, M, t, b, rfl, w, hb, hB, q⟩

theorem ok__law_low {f : Addr} {fd : FuncData} (F : Fun K "_law_low" "_law_low" s__law_low f fd) (B : Bn mg)  : FnOk P wd K mg base CX0 1 f fd ["_law_top", "_law_bottom"] sp__law_low := by
  refine F.ok sc__law_low (fun vs H Q E h => ?_) (fun cdv A outer s H vs Q E hr h => ?_)
  · obtain ⟨F, M, t, b, rfl, w, hb, hB, k⟩ := h
    all_goals rfl
  · obtain ⟨F, M, t, b, rfl, w, hb, hB, k⟩ := h
    refine ⟨_, (pss_cons (ps_set (i := 2) sc__law_low.nd rfl (Or.inl rfl) (pe_callB uc_abs (by rfl) B.abs_ (by decide +kernel) (pa_cons (pv 0) pa_nil)))
      (pss_cons (ps_set (i := 3) sc__law_low.nd rfl (Or.inl rfl) (pv 1))
      (pss_cons (ps_while PassesOwn.never (pt_cmpR (k_ne (K := K) rfl hr.units) (pv 3) pe_int (nomark _)) (pss_one (ps_par (i := 2) (j := 3) rfl sc__law_low.nd rfl rfl (by decide) rfl rfl (pa_cons (pv 3) (pa_cons (pe_op op_mod (pv 2) (pv 3)) pa_nil)) rfl)))
      (pss_one (ps_ret (pe_tup (pa_cons (pe_op op_fdivW (pv 0) (pv 2)) (pa_cons (pe_op op_fdivW (pv 1) (pv 2)) pa_nil)))))))), ?_⟩
    try dsimp only [cxOf, Cx.nox, Cx.wish, Cx.blk]
    have hb' : b ≠ 0 := by omega
    have hg := gcd_pos' (t := t) hb'
    have hgb : Bd 8000 (Int.gcd t b : Int) := hB.le (gcd_le_right' hb')
    have e0 : Int.gcd (if t < 0 then -t else t) b = Int.gcd t b := by
      have := gcd_abs t b
      rw [if_neg (show ¬ b < 0 by omega)] at this
      exact this
    wtm_at "n"
    refine s_while (fun σ' H' => H' = H ∧ ∃ a' b' : Int, σ' = [some (.int t), some (.int b), some (.int a'), some (.int b')] ∧ 0 ≤ a' ∧ 0 ≤ b' ∧ Int.gcd a' b' = Int.gcd t b) (fun σ => match σ with | [_, _, _, some (.int b)] => b.toNat | _ => 0) ⟨rfl, _, b, rfl, by split <;> omega, by omega, e0⟩ ?_
    rintro σ' H' ⟨rfl, a', b', rfl, ha', hb'', e⟩
    wtm_at "n"
    wtm_at "fork"
    · rename_i e1
      subst e1
      have e2 : a' = (Int.gcd t b : Int) := by
        rw [← e]
        exact (gcd_end ha').symm
      subst e2
      wtm_at "go"
      refine s_I (hgb.cd hg) ?_
      wtm_at "go"
      refine s_I (hgb.cd hg) ?_
      have ln := low_num (t := t) hb'
      have ld := low_den (t := t) hb'
      rw [if_neg (show ¬ b < 0 by omega)] at ln ld
      rw [ln, ld]
      refine n_newT w (ds := [.int (Rat.divInt t b).num, .int (Rat.divInt t b).den]) (.cons (.int _) (.cons (.int _) .nil)) (by simp) fun t2 H5 w => ?_
      exact k _ _ w
    · rename_i e1
      refine s_wN ?_
      wtm_at "goo"
      exact ⟨⟨rfl, b', a' % b', rfl, hb'', Int.emod_nonneg _ e1, by rw [gcd_step ha' hb'', e]⟩, by
        have := Int.emod_lt_of_pos a' (show 0 < b' by omega)
        have := Int.emod_nonneg a' e1
        show (a' % b').toNat < b'.toNat
        omega⟩
abbrev s__law_fraction : Stmt := top 32
theorem sc__law_fraction : FnScope ["_law_thing"] ["_law_thing"] (defScope s__law_fraction) := ⟨rfl, rfl, rfl, by decide +kernel, rfl, by decide +kernel, by decide +kernel⟩
def sp__law_fraction : Sp := fun vs H Q _ => ∃ F M v, ∃ q : Rat, vs = [v] ∧ Wf F H M ∧ Kn F v (frq q) ∧ Sz 8000 q ∧ ∀ H', Wf F H' M → Q (.bl true) H'
theorem n_lfrac {F : List (V × D)} {H : Hp} {M : List ME} {v : V} {q : Rat} {Q : VK} {E : XK} (w : Wf F H M) (hv : Kn F v (frq q)) (sq : Sz 8000 q) (k : ∀ H', Wf F H' M → Q (.bl true) H') : sp__law_fraction ([v] ++ []) H Q E := ⟨F, M, v, q, rfl, w, hv, sq, k⟩

theorem ok__law_fraction {f : Addr} {fd : FuncData} (F : Fun K "_law_fraction" "_law_fraction" s__law_fraction f fd) (B : Bn mg) (c__law_whole : Cal P wd K mg base "_law_whole" 1 ["_law_thing"] [] sp__law_whole) (c__law_low : Cal P wd K mg base "_law_low" 1 ["_law_top", "_law_bottom"] [] sp__law_low)  : FnOk P wd K mg base CX0 2 f fd ["_law_thing"] sp__law_fraction := by
  refine F.ok sc__law_fraction (fun vs H Q E h => ?_) (fun cdv A outer s H vs Q E hr h => ?_)
  · obtain ⟨F, M, v, q, rfl, w, hv, sq, k⟩ := h
    all_goals rfl
  · obtain ⟨F, M, v, q, rfl, w, hv, sq, k⟩ := h
    refine ⟨_, (pss_cons (ps_if (pw_or (pt_not (pt_val (pe_callB (k_isi (K := K) rfl) (by rfl) B.isinstance_ (by decide +kernel) (pa_cons (pv 0) (pa_cons (pe_bltn (v := .ty "tuple") (by rfl) B.tuple_ (by decide +kernel) rfl) pa_nil))))) (pw_or1 (pt_cmpR (k_ne (K := K) rfl hr.units) (pe_callB (k_len (K := K) rfl) (by rfl) B.len_ (by decide +kernel) (pa_cons (pv 0) pa_nil)) pe_int (nomark _)))).pt (pss_one (ps_ret pe_bl)) pss_nil)
      (pss_cons (ps_if (pw_or (pt_not (pt_val (pe_cal c__law_whole (hr.mono (by decide)) (by rfl) (pa_cons (pe_ix (k_ix (K := K) rfl) (pv 0) pe_int (fun _ _ => rfl)) pa_nil)))) (pw_or (pt_not (pt_val (pe_cal c__law_whole (hr.mono (by decide)) (by rfl) (pa_cons (pe_ix (k_ix (K := K) rfl) (pv 0) pe_int (fun _ _ => rfl)) pa_nil)))) (pw_or1 (pt_cmpR op_lt (pe_ix (k_ix (K := K) rfl) (pv 0) pe_int (fun _ _ => rfl)) pe_int (nomark _))))).pt (pss_one (ps_ret pe_bl)) pss_nil)
      (pss_one (ps_ret (pe_cmpR (k_eq (K := K) rfl hr.units) (pe_cal c__law_low (hr.mono (by decide)) (by rfl) (pa_cons (pe_ix (k_ix (K := K) rfl) (pv 0) pe_int (fun _ _ => rfl)) (pa_cons (pe_ix (k_ix (K := K) rfl) (pv 0) pe_int (fun _ _ => rfl)) pa_nil))) (pv 0) (nomark _)))))), ?_⟩
    try dsimp only [cxOf, Cx.nox, Cx.wish, Cx.blk]
    have hv' : Rk F M v (frq q) := hv.rkT
    have hd := den_pos' q
    wtm_at "n"
    refine s_iteDn (by omega) ?_
    wtm_at "n"
    refine n_llow w hd sq.d fun r H1 w => ?_
    rw [show Rat.divInt q.num q.den = q from Rat.num_divInt_den q] at w
    wtm_at "n"
    refine n_eqT (d := frq q) w (.mem List.mem_cons_self) hv.more.rkT NB.fr ?_
    exact k _ (by wtm_at "wf")
abbrev s__law_sum : Stmt := top 33
theorem sc__law_sum : FnScope ["_law_one", "_law_other"] ["_law_one", "_law_other"] (defScope s__law_sum) := ⟨rfl, rfl, rfl, by decide +kernel, rfl, by decide +kernel, by decide +kernel⟩
def sp__law_sum : Sp := fun vs H Q _ => ∃ F M u v, ∃ p q : Rat, vs = [u, v] ∧ Wf F H M ∧ Kn F u (frq p) ∧ Kn F v (frq q) ∧ Sz2 8000 3900 p ∧ Sz2 8000 3900 q ∧ ∀ r H', Wf ((r, frq (p + q)) :: F) H' M → Q r H'
theorem n_lsum2 {F : List (V × D)} {H : Hp} {M : List ME} {u v : V} {p q : Rat} {Q : VK} {E : XK} (w : Wf F H M) (hu : Kn F u (frq p)) (hv : Kn F v (frq q)) (sp : Sz 3000 p) (sq : Sz 3000 q) (k : ∀ r H', Wf ((r, frq (p + q)) :: F) H' M → Q r H') : sp__law_sum ([u, v] ++ []) H Q E := ⟨F, M, u, v, p, q, rfl, w, hu, hv, sp.sz2.mono (by decide) (by decide), sq.sz2.mono (by decide) (by decide), k⟩
theorem n_lsum3 {F : List (V × D)} {H : Hp} {M : List ME} {u v : V} {p q : Rat} {Q : VK} {E : XK} (w : Wf F H M) (hu : Kn F u (frq p)) (hv : Kn F v (frq q)) (sp : Sz2 8000 3900 p) (sq : Sz2 8000 3900 q) (k : ∀ r H', Wf ((r, frq (p + q)) :: F) H' M → Q r H') : sp__law_sum ([u, v] ++ []) H Q E := ⟨F, M, u, v, p, q, rfl, w, hu, hv, sp, sq, k⟩

theorem ok__law_sum {f : Addr} {fd : FuncData} (F : Fun K "_law_sum" "_law_sum" s__law_sum f fd) (B : Bn mg) (c__law_low : Cal P wd K mg base "_law_low" 1 ["_law_top", "_law_bottom"] [] sp__law_low)  : FnOk P wd K mg base CX0 2 f fd ["_law_one", "_law_other"] sp__law_sum := by
  refine F.ok sc__law_sum (fun vs H Q E h => ?_) (fun cdv A outer s H vs Q E hr h => ?_)
  · obtain ⟨F, M, u, v, p, q, rfl, w, hu, hv, sp, sq, k⟩ := h
    all_goals rfl
  · obtain ⟨F, M, u, v, p, q, rfl, w, hu, hv, sp, sq, k⟩ := h
    refine ⟨_, (pss_one (ps_ret (pe_cal c__law_low (hr.mono (by decide)) (by rfl) (pa_cons (pe_op (k_add (K := K) rfl) (pe_op uo_mul (pe_ix (k_ix (K := K) rfl) (pv 0) pe_int (fun _ _ => rfl)) (pe_ix (k_ix (K := K) rfl) (pv 1) pe_int (fun _ _ => rfl))) (pe_op uo_mul (pe_ix (k_ix (K := K) rfl) (pv 1) pe_int (fun _ _ => rfl)) (pe_ix (k_ix (K := K) rfl) (pv 0) pe_int (fun _ _ => rfl)))) (pa_cons (pe_op uo_mul (pe_ix (k_ix (K := K) rfl) (pv 0) pe_int (fun _ _ => rfl)) (pe_ix (k_ix (K := K) rfl) (pv 1) pe_int (fun _ _ => rfl))) pa_nil))))), ?_⟩
    try dsimp only [cxOf, Cx.nox, Cx.wish, Cx.blk]
    have hu' : Rk F M u (frq p) := hu.rkT
    have hv' : Rk F M v (frq q) := hv.rkT
    have d1 := den_pos' p
    have d2 := den_pos' q
    wtm_at "n"
    refine s_mul (sp.n.cm sq.d) ?_
    wtm_at "n"
    refine s_mul (sq.n.cm sp.d) ?_
    wtm_at "n"
    refine s_mul (sp.d.cm sq.d) ?_
    wtm_at "n"
    refine n_llow w (Int.mul_pos d1 d2) ((sp.d.mul sq.d).mono (by decide)) fun r H1 w => ?_
    rw [add_dv] at w
    exact k _ _ w
abbrev s__law_less : Stmt := top 34
theorem sc__law_less : FnScope ["_law_one", "_law_other"] ["_law_one", "_law_other"] (defScope s__law_less) := ⟨rfl, rfl, rfl, by decide +kernel, rfl, by decide +kernel, by decide +kernel⟩
def sp__law_less : Sp := fun vs H Q _ => ∃ F M u v, ∃ (p q : Rat), vs = [u, v] ∧ Wf F H M ∧ Kn F u (frq p) ∧ Kn F v (frq q) ∧ Sz 8000 p ∧ Sz 8000 q ∧ Q (.bl (decide (p < q))) H
theorem n_lless {F : List (V × D)} {H : Hp} {M : List ME} {u v : V} {p q : Rat} {Q : VK} {E : XK} (w : Wf F H M) (hu : Kn F u (frq p)) (hv : Kn F v (frq q)) (sp : Sz 8000 p) (sq : Sz 8000 q) (k : Q (.bl (decide (p < q))) H) : sp__law_less ([u, v] ++ []) H Q E := ⟨F, M, u, v, p, q, rfl, w, hu, hv, sp, sq, k⟩

theorem ok__law_less {f : Addr} {fd : FuncData} (F : Fun K "_law_less" "_law_less" s__law_less f fd) (B : Bn mg)  : FnOk P wd K mg base CX0 1 f fd ["_law_one", "_law_other"] sp__law_less := by
  refine F.ok sc__law_less (fun vs H Q E h => ?_) (fun cdv A outer s H vs Q E hr h => ?_)
  · obtain ⟨F, M, u, v, p, q, rfl, w, hu, hv, sp, sq, k⟩ := h
    all_goals rfl
  · obtain ⟨F, M, u, v, p, q, rfl, w, hu, hv, sp, sq, k⟩ := h
    refine ⟨_, (pss_one (ps_ret (pe_cmpR op_lt (pe_op uo_mul (pe_ix (k_ix (K := K) rfl) (pv 0) pe_int (fun _ _ => rfl)) (pe_ix (k_ix (K := K) rfl) (pv 1) pe_int (fun _ _ => rfl))) (pe_op uo_mul (pe_ix (k_ix (K := K) rfl) (pv 1) pe_int (fun _ _ => rfl)) (pe_ix (k_ix (K := K) rfl) (pv 0) pe_int (fun _ _ => rfl))) (nomark _)))), ?_⟩
    try dsimp only [cxOf, Cx.nox, Cx.wish, Cx.blk]
    have hu' : Rk F M u (frq p) := hu.rkT
    have hv' : Rk F M v (frq q) := hv.rkT
    wtm_at "n"
    refine s_mul (sp.n.cm sq.d) ?_
    wtm_at "n"
    refine s_mul (sq.n.cm sp.d) ?_
    wtm_at "n"
    rw [show decide (p.num * (q.den : Int) < q.num * (p.den : Int)) = decide (p < q) by rw [decide_eq_decide]; exact (Rat.lt_iff _ _).symm]
    exact k
abbrev s__law_alike : Stmt := top 35
theorem sc__law_alike : FnScope ["_law_found", "_law_due"] ["_law_found", "_law_due"] (defScope s__law_alike) := ⟨rfl, rfl, rfl, by decide +kernel, rfl, by decide +kernel, by decide +kernel⟩
def sp__law_alike : Sp := fun vs H Q _ => ∃ F M u v, ∃ o : Option Rat, vs = [u, v] ∧ Wf F H M ∧ Kn F u (shD o) ∧ Kn F v (shD o) ∧ (∀ p, o = some p → Sz 8000 p) ∧ ∀ H', Wf F H' M → Q (.bl true) H'
theorem n_lalikeO {F : List (V × D)} {H : Hp} {M : List ME} {u v : V} {o : Option Rat} {Q : VK} {E : XK} (w : Wf F H M) (hu : Kn F u (shD o)) (hv : Kn F v (shD o)) (so : ∀ p, o = some p → Sz 8000 p) (k : ∀ H', Wf F H' M → Q (.bl true) H') : sp__law_alike ([u, v] ++ []) H Q E := ⟨F, M, u, v, o, rfl, w, hu, hv, so, k⟩

theorem ok__law_alike {f : Addr} {fd : FuncData} (F : Fun K "_law_alike" "_law_alike" s__law_alike f fd) (B : Bn mg) (c__law_fraction : Cal P wd K mg base "_law_fraction" 2 ["_law_thing"] [] sp__law_fraction)  : FnOk P wd K mg base CX0 3 f fd ["_law_found", "_law_due"] sp__law_alike := by
  refine F.ok sc__law_alike (fun vs H Q E h => ?_) (fun cdv A outer s H vs Q E hr h => ?_)
  · obtain ⟨F, M, u, v, o, rfl, w, hu, hv, so, k⟩ := h
    all_goals rfl
  · obtain ⟨F, M, u, v, o, rfl, w, hu, hv, so, k⟩ := h
    refine ⟨_, (pss_cons (ps_if (pt_cmp (pc_isN (pv 1))) (pss_one (ps_ret (pe_cmp (pc_isN (pv 0))))) pss_nil)
      (pss_one (ps_ret (pe_and (pe_cal c__law_fraction (hr.mono (by decide)) (by rfl) (pa_cons (pv 0) pa_nil)) (pe_one (pe_cmpR (k_eq (K := K) rfl hr.units) (pv 0) (pv 1) (nomark _))))))), ?_⟩
    try dsimp only [cxOf, Cx.nox, Cx.wish, Cx.blk]
    cases o with
    | none =>
      have w1 := w.sub (F' := [(u, .non), (v, .non)]) (.cons hu (.cons hv KS.nil)) (.refl _)
      obtain ⟨rfl, w2⟩ := w1.non0
      obtain ⟨rfl, w3⟩ := w2.non0
      wtm_at "n"
      exact k _ w
    | some q =>
      have hu : Kn F u (frq q) := hu
      have hv : Kn F v (frq q) := hv
      obtain ⟨vp, rfl⟩ := Wf.tup0 (w.sub (F' := [(v, frq q)]) (.cons hv KS.nil) (.refl _))
      wtm_at "n"
      refine n_lfrac w hu (so q rfl) fun H1 w => ?_
      wtm_at "n"
      refine n_eqT (d := frq q) w hu.rkT hv.rkT NB.fr ?_
      exact k _ w
abbrev s__law_number : Stmt := top 36
theorem sc__law_number : FnScope ["_law_bag_here"] ["_law_bag_here"] (defScope s__law_number) := ⟨rfl, rfl, rfl, by decide +kernel, rfl, by decide +kernel, by decide +kernel⟩
def sp__law_number : Sp := fun vs H Q _ => ∃ F M b, vs = [.ref b] ∧ Wf F H M ∧ .bag b ∈ M ∧ ∀ v H', 0 ≤ v → v ≤ 1000000000000000000 → Wf F H' M → Q (.int v) H'
theorem n_lnumber {F : List (V × D)} {H : Hp} {M : List ME} {b : Addr} {Q : VK} {E : XK} (w : Wf F H M) (hb : .bag b ∈ M) (q : ∀ v H', 0 ≤ v → v ≤ 1000000000000000000 → Wf F H' M → Q (.int v) H') : sp__law_number ([.ref b] ++ []) H Q E := ⟨F, M, b, rfl, w, hb, q⟩

theorem ok__law_number {f : Addr} {fd : FuncData} (F : Fun K "_law_number" "_law_number" s__law_number f fd) (B : Bn mg) (c__law_take : Cal P wd K mg base "_law_take" 1 ["_law_bag_here", "_law_many"] [] sp__law_take)  : FnOk P wd K mg base CX0 2 f fd ["_law_bag_here"] sp__law_number := by
  refine F.ok sc__law_number (fun vs H Q E h => ?_) (fun cdv A outer s H vs Q E hr h => ?_)
  · obtain ⟨F, M, b, rfl, w, hb, k⟩ := h
    all_goals rfl
  · obtain ⟨F, M, b, rfl, w, hb, k⟩ := h
    refine ⟨_, (pss_cons (ps_if (pt_cmpR (k_eq (K := K) rfl hr.units) (pe_cal c__law_take (hr.mono (by decide)) (by rfl) (pa_cons (pv 0) (pa_cons pe_int pa_nil))) pe_int (nomark _)) (pss_one (ps_ret (pe_cal c__law_take (hr.mono (by decide)) (by rfl) (pa_cons (pv 0) (pa_cons pe_int pa_nil))))) pss_nil)
      (pss_one (ps_ret (pe_cal c__law_take (hr.mono (by decide)) (by rfl) (pa_cons (pv 0) (pa_cons pe_int pa_nil)))))), ?_⟩
    try dsimp only [cxOf, Cx.nox, Cx.wish, Cx.blk]
    wtm_at "n"
    refine n_take w hb (by omega) (by omega) fun c1 H1 c10 c11 w => ?_
    wtm_at "n"
    wtm_at "fork"
    · wtm_at "n"
      refine n_take w hb (by omega) (by omega) fun c2 H2 c20 c21 w => ?_
      exact k _ _ c20 (by omega) w
    wtm_at "n"
    refine n_take w hb (by omega) (by omega) fun c2 H2 c20 c21 w => ?_
    exact k _ _ c20 (by omega) w
abbrev s__law_nodes : Stmt := top 37
theorem sc__law_nodes : FnScope ["_law_bag_here", "_law_many", "_law_nodes_here", "_law_k", "_law_far", "_law_side"] ["_law_bag_here", "_law_many"] (defScope s__law_nodes) := ⟨rfl, rfl, rfl, by decide +kernel, rfl, by decide +kernel, by decide +kernel⟩
def sp__law_nodes : Sp := fun vs H Q _ => ∃ F M b, ∃ m : Int, vs = [.ref b, .int m] ∧ Wf F H M ∧ .bag b ∈ M ∧ 0 ≤ m ∧ m ≤ 60 ∧ ∀ p H' ns, NsOk ns → Wf F H' (.ml p (ns.map nD) :: M) → Q (.ref p) H'
theorem n_lnodes {F : List (V × D)} {H : Hp} {M : List ME} {b : Addr} {m : Int} {Q : VK} {E : XK} (w : Wf F H M) (hb : .bag b ∈ M) (h0 : 0 ≤ m) (h1 : m ≤ 60) (q : ∀ p H' ns, NsOk ns → Wf F H' (.ml p (ns.map nD) :: M) → Q (.ref p) H') : sp__law_nodes ([.ref b, .int m] ++ []) H Q E := ⟨F, M, b, m, rfl, w, hb, h0, h1, q⟩

theorem ok__law_nodes {f : Addr} {fd : FuncData} (F : Fun K "_law_nodes" "_law_nodes" s__law_nodes f fd) (B : Bn mg) (c__law_take : Cal P wd K mg base "_law_take" 1 ["_law_bag_here", "_law_many"] [] sp__law_take) (c__law_number : Cal P wd K mg base "_law_number" 2 ["_law_bag_here"] [] sp__law_number)  : FnOk P wd K mg base CX0 3 f fd ["_law_bag_here", "_law_many"] sp__law_nodes := by
  refine F.ok sc__law_nodes (fun vs H Q E h => ?_) (fun cdv A outer s H vs Q E hr h => ?_)
  · obtain ⟨F, M, b, m, rfl, w, hb, h0, h1, k⟩ := h
    all_goals rfl
  · obtain ⟨F, M, b, m, rfl, w, hb, h0, h1, k⟩ := h
    refine ⟨_, (pss_cons (ps_set (i := 2) sc__law_nodes.nd rfl (Or.inl rfl) (pe_lst (pa_cons (pe_tup (pa_cons pe_int (pa_cons pe_int pa_nil))) pa_nil)))
      (pss_cons (ps_for PassesOwn.never rfl (pi_range1 (by rfl) B.range_ (pa_cons (pv 1) pa_nil)) (pg_name (i := 3) sc__law_nodes.nd rfl (Or.inl rfl)) (pss_cons (ps_asg (pe_ix (k_ix (K := K) rfl) (pv 2) (pe_un un_neg pe_int) (fun _ _ => rfl)) (kpg_tup (K := K) (n := 2) rfl rfl (pgs_cons (pg_name (i := 4) sc__law_nodes.nd rfl (Or.inl rfl)) (pgs_cons (pg_name (i := 5) sc__law_nodes.nd rfl (Or.inl rfl)) pgs_nil))))
      (pss_one (ps_if (pt_cmpR (k_eq (K := K) rfl hr.units) (pe_cal c__law_take (hr.mono (by decide)) (by rfl) (pa_cons (pv 0) (pa_cons pe_int pa_nil))) pe_int (nomark _)) (pss_one (ps_expr (pe_bm PySem.F.plainAttrs_list PySem.F.slot_list_append PySem.F.type_list_append mt_append (pv 2) (pa_cons (pe_tup (pa_cons (pv 4) (pa_cons (pe_op (k_add (K := K) rfl) (pe_op (k_add (K := K) rfl) (pv 5) pe_int) (pe_cal c__law_number (hr.mono (by decide)) (by rfl) (pa_cons (pv 0) pa_nil))) pa_nil))) pa_nil)))) (pss_one (ps_expr (pe_bm PySem.F.plainAttrs_list PySem.F.slot_list_append PySem.F.type_list_append mt_append (pv 2) (pa_cons (pe_tup (pa_cons (pe_op (k_add (K := K) rfl) (pe_op (k_add (K := K) rfl) (pv 4) pe_int) (pe_cal c__law_number (hr.mono (by decide)) (by rfl) (pa_cons (pv 0) pa_nil))) (pa_cons (pe_cal c__law_number (hr.mono (by decide)) (by rfl) (pa_cons (pv 0) pa_nil)) pa_nil))) pa_nil))))))))
      (pss_one (ps_ret (pv 2))))), ?_⟩
    try dsimp only [cxOf, Cx.nox, Cx.wish, Cx.blk]
    rw [show L2.start (["_law_bag_here", "_law_many", "_law_nodes_here", "_law_k", "_law_far", "_law_side"] : List Str) [.ref b, .int m] = [some (.ref b), some (.int m), none, none, none, none] from rfl]
    wtm_at "n"
    rename_i p0 H4 w4 pn H5 w5
    have w : Wf F H5 (.ml pn (([] ++ [((0, 0) : Nd)]).map nD) :: M) := w5.sub (fun f hf => .mem (by simp [hf])) (.refl _)
    clear w4 w5
    refine s_rng1' (by omega) (by omega) ?_
    refine n_forR w (fun i σ' F' M' => ∃ (l : List Nd) (a : Nd) (x3 x4 x5 : Option V), σ' = [some (.ref b), some (.int m), some (.ref pn), x3, x4, x5] ∧ F = F' ∧ M' = .ml pn ((l ++ [a]).map nD) :: M ∧ l.length = i ∧ (l ++ [a]).getD 0 (0, 0) = (0, 0) ∧ ∀ n ∈ l ++ [a], 0 ≤ n.1 ∧ 0 ≤ n.2 ∧ n.1 ≤ i * 1000000000000000001 ∧ n.2 ≤ i * 1000000000000000001) ⟨[], (0, 0), _, _, _, rfl, rfl, rfl, rfl, rfl, fun n hn => by rw [List.mem_singleton.mp hn]; simp⟩ ?_ ?_
    rotate_left
    · clear w
      rintro σ' H' F' M' ⟨l, a, x3, x4, x5, rfl, rfl, rfl, hl, hz, hb'⟩ w
      wtm_at "n"
      exact k _ _ _ ⟨by simp, by rw [List.length_append, List.length_singleton]; omega, hz, fun n hn => by obtain ⟨a1, a2, a3, a4⟩ := hb' n hn; exact ⟨a1, a2, by omega, by omega⟩⟩ w
    clear w
    rintro i σ' H' F' M' hi ⟨l, a, x3, x4, x5, rfl, rfl, rfl, hl, hz, hb'⟩ w
    rw [List.map_append] at w
    have w : Wf F H' (.ml pn (l.map nD ++ [nD a]) :: M) := w
    obtain ⟨a1, a2, a3, a4⟩ := hb' a (by simp)
    wtm_at "n"
    rename_i u0 w0
    refine n_gtup2 (d0 := .int a.1) (d1 := .int a.2) w0 (.mem List.mem_cons_self) fun u1 u2 w => ?_
    obtain ⟨rfl, w1⟩ := w.eq0
    obtain ⟨rfl, w2⟩ := w1.eq0
    clear w w0 w1
    have w : Wf F H' (.ml pn (l.map nD ++ [nD a]) :: M) := w2.tail
    clear w2
    have fin : ∀ c : Nd, 0 ≤ c.1 → 0 ≤ c.2 → c.1 ≤ a.1 + 1000000000000000001 → c.2 ≤ a.2 + 1000000000000000001 → ∃ (l' : List Nd) (a' : Nd), l ++ [a] ++ [c] = l' ++ [a'] ∧ l'.length = i + 1 ∧ (l' ++ [a']).getD 0 (0, 0) = (0, 0) ∧ ∀ n ∈ l' ++ [a'], 0 ≤ n.1 ∧ 0 ≤ n.2 ∧ n.1 ≤ (i + 1 : Nat) * 1000000000000000001 ∧ n.2 ≤ (i + 1 : Nat) * 1000000000000000001 := fun c c1 c2 c3 c4 => ⟨l ++ [a], c, rfl, by rw [List.length_append, List.length_singleton, hl], by
        rw [List.getD_eq_getElem?_getD, List.getElem?_append_left (by simp), ← List.getD_eq_getElem?_getD]
        exact hz, fun n hn => by
        rcases List.mem_append.mp hn with h | h
        · obtain ⟨b1, b2, b3, b4⟩ := hb' n h
          exact ⟨b1, b2, by omega, by omega⟩
        · rw [List.mem_singleton.mp h]
          exact ⟨c1, c2, by omega, by omega⟩⟩
    wtm_at "n"
    refine n_take w (by ktf_call "mem") (by omega) (by omega) fun c1 H6 c10 c11 w => ?_
    wtm_at "n"
    wtm_at "fork"
    · wtm_at "n"
      refine n_lnumber w (by ktf_call "mem") fun v H7 v0 v1 w => ?_
      wtm_at "n"
      rename_i t8 H8 w8 H9 w9
      obtain ⟨l', a', e1, e2, e3, e4⟩ := fin (a.1, a.2 + 1 + v) (by simp only; omega) (by simp only; omega) (by simp only; omega) (by simp only; omega)
      refine ⟨_, _, ⟨l', a', _, _, _, rfl, rfl, rfl, e2, e3, e4⟩, ?_⟩
      rw [← e1, List.map_append, List.map_append]
      exact w9.sub (fun f hf => .mem (by simp [hf])) (.refl _)
    wtm_at "n"
    refine n_lnumber w (by ktf_call "mem") fun v H7 v0 v1 w => ?_
    wtm_at "n"
    refine n_lnumber w (by ktf_call "mem") fun v2 H8 v20 v21 w => ?_
    wtm_at "n"
    rename_i t8 H8 w8 H9 w9
    obtain ⟨l', a', e1, e2, e3, e4⟩ := fin (a.1 + 1 + v, v2) (by simp only; omega) (by simp only; omega) (by simp only; omega) (by simp only; omega)
    refine ⟨_, _, ⟨l', a', _, _, _, rfl, rfl, rfl, e2, e3, e4⟩, ?_⟩
    rw [← e1, List.map_append, List.map_append]
    exact w9.sub (fun f hf => .mem (by simp [hf])) (.refl _)
abbrev s__law_cost : Stmt := top 38
theorem sc__law_cost : FnScope ["_law_bag_here", "_law_way_here"] ["_law_bag_here", "_law_way_here"] (defScope s__law_cost) := ⟨rfl, rfl, rfl, by decide +kernel, rfl, by decide +kernel, by decide +kernel⟩
def sp__law_cost : Sp := fun vs H Q _ => ∃ F M b, ∃ y : Int, vs = [.ref b, .int y] ∧ Wf F H M ∧ .bag b ∈ M ∧ ∀ t H' (q : Rat), 0 ≤ q → Sz2 140 32 q → Wf ((t, frq q) :: F) H' M → Q t H'
theorem n_lcost {F : List (V × D)} {H : Hp} {M : List ME} {b : Addr} {y : Int} {Q : VK} {E : XK} (w : Wf F H M) (hb : .bag b ∈ M) (q : ∀ t H' (q : Rat), 0 ≤ q → Sz2 140 32 q → Wf ((t, frq q) :: F) H' M → Q t H') : sp__law_cost ([.ref b, .int y] ++ []) H Q E := ⟨F, M, b, y, rfl, w, hb, q⟩

theorem ok__law_cost {f : Addr} {fd : FuncData} (F : Fun K "_law_cost" "_law_cost" s__law_cost f fd) (B : Bn mg) (c__law_take : Cal P wd K mg base "_law_take" 1 ["_law_bag_here", "_law_many"] [] sp__law_take) (c__law_low : Cal P wd K mg base "_law_low" 1 ["_law_top", "_law_bottom"] [] sp__law_low) (c__law_length : Cal P wd K mg base "_law_length" 2 ["_law_bag_here", "_law_most"] [] sp__law_length)  : FnOk P wd K mg base CX0 3 f fd ["_law_bag_here", "_law_way_here"] sp__law_cost := by
  refine F.ok sc__law_cost (fun vs H Q E h => ?_) (fun cdv A outer s H vs Q E hr h => ?_)
  · obtain ⟨F, M, b, y, rfl, w, hb, k⟩ := h
    all_goals rfl
  · obtain ⟨F, M, b, y, rfl, w, hb, k⟩ := h
    refine ⟨_, (pss_cons (ps_if (pt_cmpR (k_eq (K := K) rfl hr.units) (pv 1) pe_int (nomark _)) (pss_one (ps_ret (pe_tup (pa_cons (pe_cal c__law_take (hr.mono (by decide)) (by rfl) (pa_cons (pv 0) (pa_cons pe_int pa_nil))) (pa_cons pe_int pa_nil))))) pss_nil)
      (pss_cons (ps_if (pt_cmpR (k_eq (K := K) rfl hr.units) (pv 1) pe_int (nomark _)) (pss_one (ps_ret (pe_cal c__law_low (hr.mono (by decide)) (by rfl) (pa_cons (pe_cal c__law_take (hr.mono (by decide)) (by rfl) (pa_cons (pv 0) (pa_cons pe_int pa_nil))) (pa_cons (pe_op (k_add (K := K) rfl) pe_int (pe_cal c__law_take (hr.mono (by decide)) (by rfl) (pa_cons (pv 0) (pa_cons pe_int pa_nil)))) pa_nil))))) pss_nil)
      (pss_one (ps_ret (pe_cal c__law_low (hr.mono (by decide)) (by rfl) (pa_cons (pe_cal c__law_length (hr.mono (by decide)) (by rfl) (pa_cons (pv 0) (pa_cons (pe_op (op_powC 10000000000000000000000000000000000000000) pe_int pe_int) pa_nil))) (pa_cons (pe_op (k_add (K := K) rfl) pe_int (pe_cal c__law_length (hr.mono (by decide)) (by rfl) (pa_cons (pv 0) (pa_cons (pe_op (op_powC 1000000000) pe_int pe_int) pa_nil)))) pa_nil))))))), ?_⟩
    try dsimp only [cxOf, Cx.nox, Cx.wish, Cx.blk]
    wtm_at "n"
    wtm_at "fork"
    · wtm_at "n"
      refine n_take w hb (by omega) (by omega) fun c1 H1 c10 c11 w => ?_
      wtm_at "n"
      rename_i t2 H2 w2
      obtain rfl | rfl : c1 = 0 ∨ c1 = 1 := by omega
      · exact k _ _ 0 (by decide) (Sz2.zero (by decide) (by decide)) w2
      · exact k _ _ 1 (by decide) ⟨Bd.of 1 (by decide) (by decide), Bd.of 1 (by decide) (by decide)⟩ w2
    have fin : ∀ (t m : Int), 0 ≤ t → t ≤ 10000000000000000000000000000000000000000 → 1 ≤ m → m ≤ 1000000001 → 0 ≤ Rat.divInt t m ∧ Sz2 140 32 (Rat.divInt t m) := fun t m t0 t1 m0 m1 => ⟨Rat.divInt_nonneg t0 (by omega), Bd.le (Bd.of 10000000000000000000000000000000000000000 (by omega) (by decide)) (num_le (by omega)), Bd.le (Bd.of 1000000001 (by omega) (by decide)) (den_le (by omega))⟩
    wtm_at "n"
    wtm_at "fork"
    · wtm_at "n"
      refine n_take w hb (by omega) (by omega) fun c1 H1 c10 c11 w => ?_
      wtm_at "n"
      refine n_take w hb (by omega) (by omega) fun c2 H2 c20 c21 w => ?_
      wtm_at "n"
      refine n_llow w (by omega) (Bd.of 1000 (by omega) (by decide +kernel)) fun t3 H3 w => ?_
      obtain ⟨e1, e2⟩ := fin c1 (1 + c2) (by omega) (by omega) (by omega) (by omega)
      exact k _ _ _ e1 e2 w
    wtm_at "n"
    refine n_lengthB w hb (by omega) (by omega) fun c1 H1 c10 c11 w => ?_
    wtm_at "n"
    refine n_lengthB w hb (by omega) (by omega) fun c2 H2 c20 c21 w => ?_
    wtm_at "n"
    refine n_llow w (by omega) (Bd.of 1000000001 (by omega) (by decide +kernel)) fun t3 H3 w => ?_
    obtain ⟨e1, e2⟩ := fin c1 (1 + c2) (by omega) (by omega) (by omega) (by omega)
    exact k _ _ _ e1 e2 w
abbrev s__law_moves : Stmt := top 39
theorem sc__law_moves : FnScope ["_law_bag_here", "_law_nodes_here", "_law_many", "_law_way_here", "_law_steady", "_law_moves_here", "_law_k", "_law_at", "_law_other", "_law_one"] ["_law_bag_here", "_law_nodes_here", "_law_many"] (defScope s__law_moves) := ⟨rfl, rfl, rfl, by decide +kernel, rfl, by decide +kernel, by decide +kernel⟩
def sp__law_moves : Sp := fun vs H Q _ => ∃ F M b v, ∃ (ns : List Nd) (m : Int), vs = [.ref b, v, .int m] ∧ Wf F H M ∧ .bag b ∈ M ∧ Rk F M v (.lst (ns.map nD)) ∧ NsOk ns ∧ 0 ≤ m ∧ m ≤ 400 ∧ ∀ p H' (ms : List Mv), (∀ x ∈ ms, MvOk ns x) → ms.length ≤ 400 → Wf F H' (.ml p (ms.map mvD) :: M) → Q (.ref p) H'
theorem n_lmoves {F : List (V × D)} {H : Hp} {M : List ME} {b : Addr} {v : V} {ns : List Nd} {m : Int} {Q : VK} {E : XK} (w : Wf F H M) (hb : .bag b ∈ M) (hv : Rk F M v (.lst (ns.map nD))) (ok : NsOk ns) (h0 : 0 ≤ m) (h1 : m ≤ 400) (q : ∀ p H' (ms : List Mv), (∀ x ∈ ms, MvOk ns x) → ms.length ≤ 400 → Wf F H' (.ml p (ms.map mvD) :: M) → Q (.ref p) H') : sp__law_moves ([.ref b, v, .int m] ++ []) H Q E := ⟨F, M, b, v, ns, m, rfl, w, hb, hv, ok, h0, h1, q⟩

theorem ok__law_moves {f : Addr} {fd : FuncData} (F : Fun K "_law_moves" "_law_moves" s__law_moves f fd) (B : Bn mg) (c__law_take : Cal P wd K mg base "_law_take" 1 ["_law_bag_here", "_law_many"] [] sp__law_take) (c__law_cost : Cal P wd K mg base "_law_cost" 3 ["_law_bag_here", "_law_way_here"] [] sp__law_cost)  : FnOk P wd K mg base CX0 4 f fd ["_law_bag_here", "_law_nodes_here", "_law_many"] sp__law_moves := by
  refine F.ok sc__law_moves (fun vs H Q E h => ?_) (fun cdv A outer s H vs Q E hr h => ?_)
  · obtain ⟨F, M, b, v, ns, m, rfl, w, hb, hv, ok, h0, h1, k⟩ := h
    all_goals rfl
  · obtain ⟨F, M, b, v, ns, m, rfl, w, hb, hv, ok, h0, h1, k⟩ := h
    refine ⟨_, (pss_cons (ps_set (i := 3) sc__law_moves.nd rfl (Or.inl rfl) (pe_cal c__law_take (hr.mono (by decide)) (by rfl) (pa_cons (pv 0) (pa_cons pe_int pa_nil))))
      (pss_cons (ps_if (pt_cmpR op_gt (pv 2) pe_int (nomark _)) (pss_one (ps_set (i := 3) sc__law_moves.nd rfl (Or.inl rfl) (pe_callB (k_min (K := K) rfl rfl) (by rfl) B.min_ (by decide +kernel) (pa_cons (pv 3) (pa_cons pe_int pa_nil))))) pss_nil)
      (pss_cons (ps_set (i := 4) sc__law_moves.nd rfl (Or.inl rfl) (pe_cal c__law_take (hr.mono (by decide)) (by rfl) (pa_cons (pv 0) (pa_cons pe_int pa_nil))))
      (pss_cons (ps_set (i := 5) sc__law_moves.nd rfl (Or.inl rfl) (pe_lst pa_nil))
      (pss_cons (ps_for PassesOwn.never rfl (pi_range1 (by rfl) B.range_ (pa_cons (pv 2) pa_nil)) (pg_name (i := 6) sc__law_moves.nd rfl (Or.inl rfl)) (pss_cons (ps_set (i := 7) sc__law_moves.nd rfl (Or.inl rfl) (pe_cal c__law_take (hr.mono (by decide)) (by rfl) (pa_cons (pv 0) (pa_cons (pe_callB (k_len (K := K) rfl) (by rfl) B.len_ (by decide +kernel) (pa_cons (pv 1) pa_nil)) pa_nil))))
      (pss_cons (ps_if (pt_cmpR (k_eq (K := K) rfl hr.units) (pv 4) pe_int (nomark _)) (pss_one (ps_set (i := 7) sc__law_moves.nd rfl (Or.inl rfl) (pe_op op_mod (pv 6) (pe_callB (k_len (K := K) rfl) (by rfl) B.len_ (by decide +kernel) (pa_cons (pv 1) pa_nil))))) pss_nil)
      (pss_cons (ps_set (i := 8) sc__law_moves.nd rfl (Or.inl rfl) (pe_ix (k_ix (K := K) rfl) (pv 1) (pe_cal c__law_take (hr.mono (by decide)) (by rfl) (pa_cons (pv 0) (pa_cons (pe_callB (k_len (K := K) rfl) (by rfl) B.len_ (by decide +kernel) (pa_cons (pv 1) pa_nil)) pa_nil))) (fun _ _ => rfl)))
      (pss_cons (ps_if (pt_cmpR (k_eq (K := K) rfl hr.units) (pe_cal c__law_take (hr.mono (by decide)) (by rfl) (pa_cons (pv 0) (pa_cons pe_int pa_nil))) pe_int (nomark _)) (pss_one (ps_set (i := 8) sc__law_moves.nd rfl (Or.inl rfl) (pe_ix (k_ix (K := K) rfl) (pv 1) (pe_callB (k_min (K := K) rfl rfl) (by rfl) B.min_ (by decide +kernel) (pa_cons (pe_op (k_add (K := K) rfl) (pe_op (k_add (K := K) rfl) (pv 7) pe_int) (pe_cal c__law_take (hr.mono (by decide)) (by rfl) (pa_cons (pv 0) (pa_cons pe_int pa_nil)))) (pa_cons (pe_op op_sub (pe_callB (k_len (K := K) rfl) (by rfl) B.len_ (by decide +kernel) (pa_cons (pv 1) pa_nil)) pe_int) pa_nil))) (fun _ _ => rfl)))) pss_nil)
      (pss_cons (ps_set (i := 9) sc__law_moves.nd rfl (Or.inl rfl) (pe_ix (k_ix (K := K) rfl) (pv 1) (pv 7) (fun _ _ => rfl)))
      (pss_cons (ps_if (pt_cmpR op_gt (pe_ix (k_ix (K := K) rfl) (pv 9) pe_int (fun _ _ => rfl)) (pe_ix (k_ix (K := K) rfl) (pv 8) pe_int (fun _ _ => rfl)) (nomark _)) (pss_one (ps_par (i := 9) (j := 8) rfl sc__law_moves.nd rfl rfl (by decide) rfl rfl (pa_cons (pv 8) (pa_cons (pv 9) pa_nil)) rfl)) pss_nil)
      (pss_one (ps_if (pt_cmpR op_lt (pe_ix (k_ix (K := K) rfl) (pv 9) pe_int (fun _ _ => rfl)) (pe_ix (k_ix (K := K) rfl) (pv 8) pe_int (fun _ _ => rfl)) (nomark _)) (pss_one (ps_expr (pe_bm PySem.F.plainAttrs_list PySem.F.slot_list_append PySem.F.type_list_append mt_append (pv 5) (pa_cons (pe_tup (pa_cons (pv 9) (pa_cons (pe_cal c__law_cost (hr.mono (by decide)) (by rfl) (pa_cons (pv 0) (pa_cons (pv 3) pa_nil))) (pa_cons (pv 8) pa_nil)))) pa_nil)))) pss_nil)))))))))
      (pss_one (ps_ret (pv 5)))))))), ?_⟩
    try dsimp only [cxOf, Cx.nox, Cx.wish, Cx.blk]
    have hn1 := ok.ne
    have hn2 := ok.le
    rw [show L2.start (["_law_bag_here", "_law_nodes_here", "_law_many", "_law_way_here", "_law_steady", "_law_moves_here", "_law_k", "_law_at", "_law_other", "_law_one"] : List Str) [.ref b, v, .int m] = [some (.ref b), some v, some (.int m), none, none, none, none, none, none, none] from rfl]
    wtm_at "n"
    refine n_take w hb (by omega) (by omega) fun c1 H1 c10 c11 w => ?_
    wtm_at "sq2"
    simp only [List.set_cons_succ, List.set_cons_zero]
    with_reducible refine s_midW (fun σ' H' => ∃ y : Int, σ' = [some (.ref b), some v, some (.int m), some (.int y), none, none, none, none, none, none] ∧ Wf F H' M) ?_ (fun N fin => ?_)
    rotate_left
    · wtm_at "n"
      wtm_at "fork"
      · wtm_at "n"
        exact fin _ _ ⟨_, rfl, w⟩
      · wtm_at "n"
        exact fin _ _ ⟨_, rfl, w⟩
    clear w
    rintro σ' H' ⟨y, rfl, w⟩
    wtm_at "n"
    refine n_take w hb (by omega) (by omega) fun c2 H2 c20 c21 w => ?_
    wtm_at "n"
    rename_i pm H3 w3
    have w3 : Wf F H3 (.ml pm (([] : List Mv).map mvD) :: M) := w3
    refine s_rng1' (by omega) (by omega) ?_
    refine n_forR w3 (fun i σ' F' M' => ∃ (ms : List Mv) (x6 x7 x8 x9 : Option V), σ' = [some (.ref b), some v, some (.int m), some (.int y), some (.int c2), some (.ref pm), x6, x7, x8, x9] ∧ F = F' ∧ M' = .ml pm (ms.map mvD) :: M ∧ ms.length ≤ i ∧ ∀ x ∈ ms, MvOk ns x) ⟨[], _, _, _, _, rfl, rfl, rfl, Nat.le_refl _, fun _ h => nomatch h⟩ ?_ ?_
    rotate_left
    · clear w w3
      rintro σ' H' F' M' ⟨ms, x6, x7, x8, x9, rfl, rfl, rfl, hl, hm⟩ w
      wtm_at "n"
      exact k _ _ ms hm (by omega) w
    clear w w3
    rintro i σ' H' F' M' hi ⟨ms, x6, x7, x8, x9, rfl, rfl, rfl, hl, hm⟩ w
    wtm_at "n"
    rw [List.length_map]
    refine n_take w (List.mem_cons_of_mem _ hb) (by omega) (by omega) fun c4 H4 c40 c41 w => ?_
    wtm_at "sq2"
    simp only [List.set_cons_succ, List.set_cons_zero]
    with_reducible refine s_midW (fun σ' H' => ∃ j : Nat, σ' = [some (.ref b), some v, some (.int m), some (.int y), some (.int c2), some (.ref pm), some (.int (0 + (i : Int))), some (.int (j : Int)), x8, x9] ∧ j < ns.length ∧ Wf F H' (.ml pm (ms.map mvD) :: M)) ?_ (fun N fin => ?_)
    rotate_left
    · wtm_at "n"
      wtm_at "fork"
      · wtm_at "n"
        rw [List.length_map]
        refine s_I (show (0 : Int) < (ns.length : Int) by omega) ?_
        wtm_at "n"
        have e0 := Int.emod_nonneg (0 + (i : Int)) (show (ns.length : Int) ≠ 0 by omega)
        have e1 := Int.emod_lt_of_pos (0 + (i : Int)) (show (0 : Int) < ns.length by omega)
        exact fin _ _ ⟨((0 + (i : Int)) % (ns.length : Int)).toNat, by rw [Int.toNat_of_nonneg e0]; rfl, by omega, w⟩
      · wtm_at "n"
        exact fin _ _ ⟨c4.toNat, by rw [Int.toNat_of_nonneg c40], by omega, w⟩
    clear w
    rintro σ' H' ⟨j, rfl, hj, w⟩
    wtm_at "n"
    rw [List.length_map]
    refine n_take w (List.mem_cons_of_mem _ hb) (by omega) (by omega) fun c5 H5 c50 c51 w => ?_
    refine n_ixM (f := nD) (z := (0, 0)) (j := c5.toNat) w hv.more (by omega) (by omega) fun uo w => ?_
    wtm_at "sq2"
    simp only [List.set_cons_succ, List.set_cons_zero]
    have hmem : ∀ k : Nat, k < ns.length → ns.getD k (0, 0) ∈ ns := fun k hk => by rw [List.getD_eq_getElem?_getD, List.getElem?_eq_getElem hk]; exact List.getElem_mem hk
    with_reducible refine s_midW (fun σ' H' => ∃ (uo : V) (e : Nd), σ' = [some (.ref b), some v, some (.int m), some (.int y), some (.int c2), some (.ref pm), some (.int (0 + (i : Int))), some (.int (j : Int)), some uo, x9] ∧ e ∈ ns ∧ Wf ((uo, nD e) :: F) H' (.ml pm (ms.map mvD) :: M)) ?_ (fun N fin => ?_)
    rotate_left
    · wtm_at "n"
      refine n_take w (List.mem_cons_of_mem _ hb) (by omega) (by omega) fun c6 H6 c60 c61 w => ?_
      wtm_at "n"
      by_cases h6 : c6 = 0
      · rw [decide_eq_true (show V.int c6 = V.int 0 by rw [h6])]
        wtm_at "n"
        refine n_take w (List.mem_cons_of_mem _ hb) (by omega) (by omega) fun c7 H7 c70 c71 w => ?_
        wtm_at "n"
        rw [List.length_map]
        obtain ⟨aa, eaa⟩ : ∃ aa : Int, aa = (if (ns.length : Int) - 1 < (j : Int) + 1 + c7 then (ns.length : Int) - 1 else (j : Int) + 1 + c7) := ⟨_, rfl⟩
        rw [← eaa]
        have ha0 : 0 ≤ aa := by rw [eaa]; split <;> omega
        have ha1 : aa < ns.length := by rw [eaa]; split <;> omega
        refine n_ixM (f := nD) (z := (0, 0)) (j := aa.toNat) w hv.more.moreF (by omega) (by omega) fun u2 w => ?_
        wtm_at "n"
        exact fin _ _ ⟨u2, _, rfl, hmem _ (by omega), w.sub (KS.cons (.mem List.mem_cons_self) fun f hf => .mem (by simp [hf])) (.refl _)⟩
      · rw [decide_eq_false (show ¬ V.int c6 = V.int 0 from fun e => h6 (V.int.inj e))]
        wtm_at "n"
        exact fin _ _ ⟨uo, _, rfl, hmem _ (by omega), w⟩
    clear w
    rintro σ' H' ⟨uo, e, rfl, he, w⟩
    wtm_at "n"
    refine n_ixM (f := nD) (z := (0, 0)) (j := j) w hv.more.moreF rfl (by omega) fun ua w => ?_
    obtain ⟨e1, ee1⟩ : ∃ e1, e1 = ns.getD j (0, 0) := ⟨_, rfl⟩
    have he1 : e1 ∈ ns := by rw [ee1]; exact hmem _ hj
    rw [← ee1] at w
    have w : Wf ((ua, .tup [.int e1.1, .int e1.2]) :: (uo, .tup [.int e.1, .int e.2]) :: F) H' (.ml pm (ms.map mvD) :: M) := w
    wtm_at "sq2"
    simp only [List.set_cons_succ, List.set_cons_zero]
    with_reducible refine s_midW (fun σ' H' => ∃ (ua uo : V) (e1 e : Nd), σ' = [some (.ref b), some v, some (.int m), some (.int y), some (.int c2), some (.ref pm), some (.int (0 + (i : Int))), some (.int (j : Int)), some uo, some ua] ∧ e1 ∈ ns ∧ e ∈ ns ∧ Wf ((ua, .tup [.int e1.1, .int e1.2]) :: (uo, .tup [.int e.1, .int e.2]) :: F) H' (.ml pm (ms.map mvD) :: M)) ?_ (fun N fin => ?_)
    rotate_left
    · wtm_at "n"
      wtm_at "fork"
      · wtm_at "n"
        exact fin _ _ ⟨uo, ua, e, e1, rfl, he, he1, w.sub (KS.cons (.mem (by simp)) (KS.cons (.mem (by simp)) fun f hf => .mem (by simp [hf]))) (.refl _)⟩
      · wtm_at "n"
        exact fin _ _ ⟨ua, uo, e1, e, rfl, he1, he, w⟩
    clear w
    rintro σ' H' ⟨ua, uo, e1, e, rfl, he1, he, w⟩
    wtm_at "n"
    wtm_at "fork"
    rotate_left
    · wtm_at "n"
      exact ⟨_, _, ⟨ms, _, _, _, _, rfl, rfl, rfl, by omega, hm⟩, w.sub (fun f hf => .mem (by simp [hf])) (.refl _)⟩
    rename_i hup
    wtm_at "n"
    refine n_lcost w (List.mem_cons_of_mem _ hb) fun t H8 q q0 qz w => ?_
    wtm_at "n"
    rename_i t9 H9 w9 H10 w10
    refine ⟨_, _, ⟨ms ++ [(e1, q, e)], _, _, _, _, rfl, rfl, rfl, by rw [List.length_append, List.length_singleton]; omega, fun x hx => ?_⟩, ?_⟩
    · rcases List.mem_append.mp hx with h | h
      · exact hm x h
      · rw [List.mem_singleton.mp h]
        exact ⟨he1, he, hup, q0, qz⟩
    rw [List.map_append]
    exact w10.sub (fun f hf => .mem (by simp [hf])) (.refl _)
abbrev s__law_ends : Stmt := top 40
theorem sc__law_ends : FnScope ["_law_bag_here", "_law_nodes_here", "_law_ends_here", "_law_k"] ["_law_bag_here", "_law_nodes_here"] (defScope s__law_ends) := ⟨rfl, rfl, rfl, by decide +kernel, rfl, by decide +kernel, by decide +kernel⟩
theorem ixM1 {l : List Nd} (h : 1 ≤ l.length) : ∃ t a, l = t ++ [a] := ⟨l.dropLast, l.getLast (fun e => by rw [e] at h; simp at h), (List.dropLast_concat_getLast _).symm⟩
def sp__law_ends : Sp := fun vs H Q _ => ∃ F M b v, ∃ ns : List Nd, vs = [.ref b, v] ∧ Wf F H M ∧ .bag b ∈ M ∧ Rk F M v (.lst (ns.map nD)) ∧ NsOk ns ∧ ∀ p H' (es : List Nd), (∀ x ∈ es, 0 ≤ x.1 ∧ 0 ≤ x.2) → es.length ≤ 100 → Wf F H' (.ml p (es.map nD) :: M) → Q (.ref p) H'
theorem n_lends {F : List (V × D)} {H : Hp} {M : List ME} {b : Addr} {v : V} {ns : List Nd} {Q : VK} {E : XK} (w : Wf F H M) (hb : .bag b ∈ M) (hv : Rk F M v (.lst (ns.map nD))) (ok : NsOk ns) (q : ∀ p H' (es : List Nd), (∀ x ∈ es, 0 ≤ x.1 ∧ 0 ≤ x.2) → es.length ≤ 100 → Wf F H' (.ml p (es.map nD) :: M) → Q (.ref p) H') : sp__law_ends ([.ref b, v] ++ []) H Q E := ⟨F, M, b, v, ns, rfl, w, hb, hv, ok, q⟩

theorem ok__law_ends {f : Addr} {fd : FuncData} (F : Fun K "_law_ends" "_law_ends" s__law_ends f fd) (B : Bn mg) (c__law_take : Cal P wd K mg base "_law_take" 1 ["_law_bag_here", "_law_many"] [] sp__law_take)  : FnOk P wd K mg base CX0 2 f fd ["_law_bag_here", "_law_nodes_here"] sp__law_ends := by
  refine F.ok sc__law_ends (fun vs H Q E h => ?_) (fun cdv A outer s H vs Q E hr h => ?_)
  · obtain ⟨F, M, b, v, ns, rfl, w, hb, hv, ok, k⟩ := h
    all_goals rfl
  · obtain ⟨F, M, b, v, ns, rfl, w, hb, hv, ok, k⟩ := h
    refine ⟨_, (pss_cons (ps_set (i := 2) sc__law_ends.nd rfl (Or.inl rfl) (pe_lst pa_nil))
      (pss_cons (ps_for PassesOwn.never rfl (pi_range1 (by rfl) B.range_ (pa_cons (pe_callB (k_len (K := K) rfl) (by rfl) B.len_ (by decide +kernel) (pa_cons (pv 1) pa_nil)) pa_nil)) (pg_name (i := 3) sc__law_ends.nd rfl (Or.inl rfl)) (pss_one (ps_if (pt_cmpR (k_eq (K := K) rfl hr.units) (pe_cal c__law_take (hr.mono (by decide)) (by rfl) (pa_cons (pv 0) (pa_cons (pe_ix (k_ix (K := K) rfl) (pe_lst (pa_cons pe_int (pa_cons pe_int pa_nil))) (pe_callB (k_min (K := K) rfl rfl) (by rfl) B.min_ (by decide +kernel) (pa_cons (pv 3) (pa_cons pe_int pa_nil))) (fun _ _ => rfl)) pa_nil))) pe_int (nomark _)) (pss_one (ps_expr (pe_bm PySem.F.plainAttrs_list PySem.F.slot_list_append PySem.F.type_list_append mt_append (pv 2) (pa_cons (pe_ix (k_ix (K := K) rfl) (pv 1) (pv 3) (fun _ _ => rfl)) pa_nil)))) pss_nil)))
      (pss_cons (ps_if (pt_cmpR op_gt (pe_cal c__law_take (hr.mono (by decide)) (by rfl) (pa_cons (pv 0) (pa_cons pe_int pa_nil))) pe_int (nomark _)) (pss_one (ps_expr (pe_bm PySem.F.plainAttrs_list PySem.F.slot_list_append PySem.F.type_list_append mt_append (pv 2) (pa_cons (pe_ix (k_ix (K := K) rfl) (pv 1) (pe_un un_neg pe_int) (fun _ _ => rfl)) pa_nil)))) pss_nil)
      (pss_cons (ps_if (pt_cmpR (k_eq (K := K) rfl hr.units) (pe_cal c__law_take (hr.mono (by decide)) (by rfl) (pa_cons (pv 0) (pa_cons pe_int pa_nil))) pe_int (nomark _)) (pss_one (ps_expr (pe_bm PySem.F.plainAttrs_list PySem.F.slot_list_append PySem.F.type_list_append mt_append (pv 2) (pa_cons (pe_tup (pa_cons (pe_op (k_add (K := K) rfl) (pe_ix (k_ix (K := K) rfl) (pe_ix (k_ix (K := K) rfl) (pv 1) (pe_un un_neg pe_int) (fun _ _ => rfl)) pe_int (fun _ _ => rfl)) pe_int) (pa_cons pe_int pa_nil))) pa_nil)))) pss_nil)
      (pss_one (ps_ret (pv 2))))))), ?_⟩
    try dsimp only [cxOf, Cx.nox, Cx.wish, Cx.blk]
    have hn1 := ok.ne
    have hn2 := ok.le
    have hmem : ∀ k : Nat, k < ns.length → ns.getD k (0, 0) ∈ ns := fun k hk => by rw [List.getD_eq_getElem?_getD, List.getElem?_eq_getElem hk]; exact List.getElem_mem hk
    have hz : ∀ n ∈ ns, 0 ≤ n.1 ∧ 0 ≤ n.2 := fun n hn => ⟨(ok.ok n hn).1, (ok.ok n hn).2.1⟩
    rw [show L2.start (["_law_bag_here", "_law_nodes_here", "_law_ends_here", "_law_k"] : List Str) [.ref b, v] = [some (.ref b), some v, none, none] from rfl]
    wtm_at "n"
    rename_i pe H3 w3
    have w3 : Wf F H3 (.ml pe (([] : List Nd).map nD) :: M) := w3
    rw [List.length_map]
    refine s_rng1' (by omega) (by omega) ?_
    rw [Int.toNat_natCast]
    refine n_forR w3 (fun i σ' F' M' => ∃ (es : List Nd) (x3 : Option V), σ' = [some (.ref b), some v, some (.ref pe), x3] ∧ F = F' ∧ M' = .ml pe (es.map nD) :: M ∧ es.length ≤ i ∧ ∀ x ∈ es, 0 ≤ x.1 ∧ 0 ≤ x.2) ⟨[], _, rfl, rfl, rfl, Nat.le_refl _, fun _ h => nomatch h⟩ ?_ ?_
    · clear w w3
      rintro i σ' H' F' M' hi ⟨es, x3, rfl, rfl, rfl, hl, he⟩ w
      wtm_at "n"
      rename_i pl Hl wl
      clear w
      refine n_ixInts (ns := [12, 5]) wl (.ml List.mem_cons_self) (by split <;> omega) (by show _ < (2 : Int); split <;> omega) fun m hm => ?_
      have hm2 : 5 ≤ m ∧ m ≤ 12 := by
        split at hm
        · cases hm; omega
        · have e : (0 + (i : Int)).toNat = 0 ∨ (0 + (i : Int)).toNat = 1 := by omega
          rcases e with e | e <;> rw [e] at hm <;> cases hm <;> omega
      wtm_at "n"
      refine n_take wl (List.mem_cons_of_mem _ (List.mem_cons_of_mem _ hb)) (by omega) (by omega) fun c H1 c0 c1 w => ?_
      clear wl
      wtm_at "n"
      wtm_at "fork"
      · wtm_at "n"
        refine n_ixM (f := nD) (z := (0, 0)) (j := i) w hv.more.more (by omega) hi fun u w => ?_
        wtm_at "n"
        rename_i H2 w2
        refine ⟨_, _, ⟨es ++ [ns.getD i (0, 0)], _, rfl, rfl, rfl, by rw [List.length_append, List.length_singleton]; omega, fun x hx => ?_⟩, ?_⟩
        · rcases List.mem_append.mp hx with h | h
          · exact he x h
          · rw [List.mem_singleton.mp h]; exact hz _ (hmem i hi)
        · rw [List.map_append]
          exact w2.sub (fun f hf => .mem (by simp [hf])) (.cons _ (.refl _))
      · wtm_at "n"
        exact ⟨_, _, ⟨es, _, rfl, rfl, rfl, by omega, he⟩, w.sub (fun f hf => .mem (by simp [hf])) (.cons _ (.refl _))⟩
    clear w w3
    rintro σ' H' F' M' ⟨es, x3, rfl, rfl, rfl, hl, he⟩ w
    obtain ⟨t, a, ea⟩ := ixM1 hn1
    have ha : 0 ≤ a.1 ∧ 0 ≤ a.2 := hz a (by rw [ea]; simp)
    have hv2 : Rk F M v (.lst (t.map nD ++ [nD a])) := by rw [ea, List.map_append] at hv; exact hv
    wtm_at "sq2"
    with_reducible refine s_midW (fun σ' H' => ∃ es : List Nd, σ' = [some (.ref b), some v, some (.ref pe), x3] ∧ Wf F H' (.ml pe (es.map nD) :: M) ∧ es.length ≤ 62 ∧ ∀ x ∈ es, 0 ≤ x.1 ∧ 0 ≤ x.2) ?_ (fun N fin => ?_)
    rotate_left
    · wtm_at "n"
      refine n_take w (List.mem_cons_of_mem _ hb) (by omega) (by omega) fun c H1 c0 c1 w => ?_
      wtm_at "n"
      wtm_at "fork"
      · wtm_at "n"
        rename_i u w1 H2 w2
        refine fin _ _ ⟨es ++ [a], rfl, ?_, by rw [List.length_append, List.length_singleton]; omega, fun x hx => ?_⟩
        · rw [List.map_append]
          exact w2.sub (fun f hf => .mem (by simp [hf])) (.refl _)
        · rcases List.mem_append.mp hx with h | h
          · exact he x h
          · rw [List.mem_singleton.mp h]; exact ha
      · wtm_at "n"
        exact fin _ _ ⟨es, rfl, w, by omega, he⟩
    clear w he hl
    rintro σ' H' ⟨es, rfl, w, hl, he⟩
    wtm_at "n"
    refine n_take w (List.mem_cons_of_mem _ hb) (by omega) (by omega) fun c H1 c0 c1 w => ?_
    wtm_at "n"
    wtm_at "fork"
    · wtm_at "n"
      rename_i u w1
      have w2 : Wf ((u, .tup [.int a.1, .int a.2]) :: F) H1 (.ml pe (es.map nD) :: M) := w1
      clear w w1
      wtm_at "n"
      rename_i t9 H9 w9 H10 w10
      refine k pe _ (es ++ [(a.1 + 3, 0)]) (fun x hx => ?_) (by rw [List.length_append, List.length_singleton]; omega) ?_
      · rcases List.mem_append.mp hx with h | h
        · exact he x h
        · rw [List.mem_singleton.mp h]; simp only; omega
      · rw [List.map_append]
        exact w10.sub (fun f hf => .mem (by simp [hf])) (.refl _)
    · wtm_at "n"
      exact k pe _ es he (by omega) w
abbrev s__law_graph : Stmt := top 41
theorem sc__law_graph : FnScope ["_law_bag_here", "_law_way_here", "_law_many", "_law_size", "_law_nodes_here"] ["_law_bag_here"] (defScope s__law_graph) := ⟨rfl, rfl, rfl, by decide +kernel, rfl, by decide +kernel, by decide +kernel⟩
def sp__law_graph : Sp := fun vs H Q _ => ∃ F M b, vs = [.ref b] ∧ Wf F H M ∧ .bag b ∈ M ∧ ∀ r H' (ns : List Nd) (ms : List Mv) (es : List Nd), GrOk ns ms es → Wf ((r, .tup [.lst (ns.map nD), .lst (ms.map mvD), .lst (es.map nD)]) :: F) H' M → Q r H'
theorem n_lgraph {F : List (V × D)} {H : Hp} {M : List ME} {b : Addr} {Q : VK} {E : XK} (w : Wf F H M) (hb : .bag b ∈ M) (q : ∀ r H' (ns : List Nd) (ms : List Mv) (es : List Nd), GrOk ns ms es → Wf ((r, .tup [.lst (ns.map nD), .lst (ms.map mvD), .lst (es.map nD)]) :: F) H' M → Q r H') : sp__law_graph ([.ref b] ++ []) H Q E := ⟨F, M, b, rfl, w, hb, q⟩

theorem ok__law_graph {f : Addr} {fd : FuncData} (F : Fun K "_law_graph" "_law_graph" s__law_graph f fd) (B : Bn mg) (c__law_take : Cal P wd K mg base "_law_take" 1 ["_law_bag_here", "_law_many"] [] sp__law_take) (c__law_nodes : Cal P wd K mg base "_law_nodes" 3 ["_law_bag_here", "_law_many"] [] sp__law_nodes) (c__law_ends : Cal P wd K mg base "_law_ends" 2 ["_law_bag_here", "_law_nodes_here"] [] sp__law_ends) (c__law_moves : Cal P wd K mg base "_law_moves" 4 ["_law_bag_here", "_law_nodes_here", "_law_many"] [] sp__law_moves)  : FnOk P wd K mg base CX0 5 f fd ["_law_bag_here"] sp__law_graph := by
  refine F.ok sc__law_graph (fun vs H Q E h => ?_) (fun cdv A outer s H vs Q E hr h => ?_)
  · obtain ⟨F, M, b, rfl, w, hb, k⟩ := h
    all_goals rfl
  · obtain ⟨F, M, b, rfl, w, hb, k⟩ := h
    refine ⟨_, (pss_cons (ps_set (i := 1) sc__law_graph.nd rfl (Or.inl rfl) (pe_cal c__law_take (hr.mono (by decide)) (by rfl) (pa_cons (pv 0) (pa_cons pe_int pa_nil))))
      (pss_cons (ps_set (i := 2) sc__law_graph.nd rfl (Or.inl rfl) (pe_cal c__law_take (hr.mono (by decide)) (by rfl) (pa_cons (pv 0) (pa_cons pe_int pa_nil))))
      (pss_cons (ps_set (i := 3) sc__law_graph.nd rfl (Or.inl rfl) (pe_cal c__law_take (hr.mono (by decide)) (by rfl) (pa_cons (pv 0) (pa_cons pe_int pa_nil))))
      (pss_cons (ps_if (pt_cmpR (k_eq (K := K) rfl hr.units) (pv 1) pe_int (nomark _)) (pss_cons (ps_set (i := 2) sc__law_graph.nd rfl (Or.inl rfl) pe_int)
      (pss_one (ps_set (i := 3) sc__law_graph.nd rfl (Or.inl rfl) (pe_op op_sub pe_int (pe_cal c__law_take (hr.mono (by decide)) (by rfl) (pa_cons (pv 0) (pa_cons pe_int pa_nil))))))) pss_nil)
      (pss_cons (ps_if (pt_chain op_le op_lt pe_int (pv 1) pe_int) (pss_cons (ps_set (i := 2) sc__law_graph.nd rfl (Or.inl rfl) pe_int)
      (pss_one (ps_set (i := 3) sc__law_graph.nd rfl (Or.inl rfl) pe_int))) pss_nil)
      (pss_cons (ps_set (i := 4) sc__law_graph.nd rfl (Or.inl rfl) (pe_cal c__law_nodes (hr.mono (by decide)) (by rfl) (pa_cons (pv 0) (pa_cons (pv 2) pa_nil))))
      (pss_one (ps_ret (pe_tup (pa_cons (pv 4) (pa_cons (pe_cal c__law_moves (hr.mono (by decide)) (by rfl) (pa_cons (pv 0) (pa_cons (pv 4) (pa_cons (pv 3) pa_nil)))) (pa_cons (pe_cal c__law_ends (hr.mono (by decide)) (by rfl) (pa_cons (pv 0) (pa_cons (pv 4) pa_nil))) pa_nil)))))))))))), ?_⟩
    try dsimp only [cxOf, Cx.nox, Cx.wish, Cx.blk]
    rw [show L2.start (["_law_bag_here", "_law_way_here", "_law_many", "_law_size", "_law_nodes_here"] : List Str) [.ref b] = [some (.ref b), none, none, none, none] from rfl]
    wtm_at "n"
    refine n_take w hb (by omega) (by omega) fun c1 H1 c10 c11 w => ?_
    wtm_at "n"
    refine n_take w hb (by omega) (by omega) fun c2 H2 c20 c21 w => ?_
    wtm_at "n"
    refine n_take w hb (by omega) (by omega) fun c3 H3 c30 c31 w => ?_
    wtm_at "sq2"
    simp only [List.set_cons_succ, List.set_cons_zero]
    with_reducible refine s_midW (fun σ' H' => ∃ m z : Int, σ' = [some (.ref b), some (.int c1), some (.int m), some (.int z), none] ∧ Wf F H' M ∧ 0 ≤ m ∧ m ≤ 60 ∧ 0 ≤ z ∧ z ≤ 400) ?_ (fun N fin => ?_)
    rotate_left
    · wtm_at "n"
      wtm_at "fork"
      · wtm_at "n"
        refine n_take w hb (by omega) (by omega) fun c4 H4 c40 c41 w => ?_
        wtm_at "n"
        exact fin _ _ ⟨_, _, rfl, w, by omega, by omega, by omega, by omega⟩
      · wtm_at "n"
        exact fin _ _ ⟨_, _, rfl, w, by omega, by omega, by omega, by omega⟩
    clear w
    rintro σ' H4 ⟨m, z, rfl, w, m0, m1, z0, z1⟩
    wtm_at "sq2"
    with_reducible refine s_midW (fun σ' H' => ∃ m z : Int, σ' = [some (.ref b), some (.int c1), some (.int m), some (.int z), none] ∧ Wf F H' M ∧ 0 ≤ m ∧ m ≤ 60 ∧ 0 ≤ z ∧ z ≤ 400) ?_ (fun N fin => ?_)
    rotate_left
    · by_cases h1 : 1 ≤ c1
      · by_cases h2 : c1 < 4
        · wtm_at "no"
          exact fin _ _ ⟨_, _, rfl, w, by omega, by omega, by omega, by omega⟩
        · wtm_at "no"
          exact fin _ _ ⟨_, _, rfl, w, by omega, by omega, by omega, by omega⟩
      · wtm_at "no"
        exact fin _ _ ⟨_, _, rfl, w, by omega, by omega, by omega, by omega⟩
    clear w m0 m1 z0 z1
    rintro σ' H5 ⟨m, z, rfl, w, m0, m1, z0, z1⟩
    wtm_at "n"
    refine n_lnodes w hb m0 m1 fun pn H6 ns hns w => ?_
    wtm_at "n"
    refine n_lmoves w (List.mem_cons_of_mem _ hb) (.ml List.mem_cons_self) hns z0 z1 fun pm H7 ms hms hml w => ?_
    wtm_at "n"
    refine n_lends w (List.mem_cons_of_mem _ (List.mem_cons_of_mem _ hb)) (Rk.ml List.mem_cons_self).more hns fun pe H8 es hes hel w => ?_
    have w := ((w.frzL .here).frzL .here).frzL .here
    wtm_at "n"
    rename_i t H9 w9
    exact k _ _ ns ms es ⟨hns, hms, hml, hes, hel⟩ (w9.sub (KS.cons (.mem List.mem_cons_self) fun f hf => .mem (by simp [hf])) (.refl _))
/-! ### the law's prices of listed ways -/
theorem leastP_congr {l m : List (Option Rat)} (h : ∀ x, some x ∈ l ↔ some x ∈ m) : leastP l = leastP m := by
  cases hl : leastP l with
  | none =>
    cases hm : leastP m with
    | none => rfl
    | some q =>
      obtain ⟨p, hp, _⟩ := leastP_le ((h q).mpr (leastP_mem hm))
      rw [hl] at hp
      cases hp
  | some p =>
    obtain ⟨q, hq, hle⟩ := leastP_le ((h p).mp (leastP_mem hl))
    obtain ⟨p', hp', hle'⟩ := leastP_le ((h q).mpr (leastP_mem hq))
    rw [hl] at hp'
    cases hp'
    rw [hq, Rat.le_antisymm hle hle']
def rowsL (ms : List Mv) : List Mv := ms.mergeSort fun a b => decide (a.1.1 ≤ b.1.1)
theorem keyD_mv {d : D} {ms : List Mv} (h : d ∈ ms.map mvD) : KeyD d := by
  obtain ⟨m, _, rfl⟩ := List.mem_map.mp h
  exact ⟨m.1.1, _, _, rfl⟩
theorem rows_map (ms : List Mv) : ((ms.map mvD).mergeSort fun a b => decide (keyI a ≤ keyI b)) = (rowsL ms).map mvD := (PySem.W.sort_maps mvD fun _ _ _ _ => rfl).symm
theorem rows_mem {ms : List Mv} {m : Mv} : m ∈ rowsL ms ↔ m ∈ ms := (List.mergeSort_perm _ _).mem_iff
theorem rows_len (ms : List Mv) : (rowsL ms).length = ms.length := (List.mergeSort_perm _ _).length_eq
theorem rows_srt (ms : List Mv) : (rowsL ms).Pairwise fun a b => a.1.1 ≤ b.1.1 := by
  have h := List.pairwise_mergeSort (le := fun a b : Mv => decide (a.1.1 ≤ b.1.1)) (fun a b c h1 h2 => by
    have h1 := of_decide_eq_true h1
    have h2 := of_decide_eq_true h2
    exact decide_eq_true (by omega)) (fun a b => by
    by_cases h : a.1.1 ≤ b.1.1
    · simp [h]
    · have : b.1.1 ≤ a.1.1 := by omega
      simp [this]) ms
  exact h.imp fun h => of_decide_eq_true h
/-! which nodes are reached -/
structure RcI (g : Wgr) (rs : List Mv) (i : Nat) (ts : List Nd) : Prop where
  nd : ts.Nodup
  z : (0, 0) ∈ ts
  rc : ∀ n ∈ ts, Reach g n
  cl : ∀ j m, j < i → rs[j]? = some m → Reach g m.1 → g.fin m.1 = false → m.2.2 ∈ ts
section
variable {ns : List Nd} {ms : List Mv} {es : List Nd} {ts : List Nd} {i : Nat} {m : Mv}
theorem RcI.start : RcI (liG ns ms es) (rowsL ms) 0 [(0, 0)] := ⟨by simp, List.mem_cons_self, fun n hn => by rw [List.mem_singleton.mp hn]; exact .z, fun _ _ h => absurd h (by omega)⟩
/-- a node is reached by rows that stand ahead -/
theorem RcI.has (ok : GrOk ns ms es) (h : RcI (liG ns ms es) (rowsL ms) i ts) {n : Nd} (hn : Reach (liG ns ms es) n) (hup : ∀ j m, (rowsL ms)[j]? = some m → m.1.1 < n.1 → j < i) : n ∈ ts := by
  cases hn with
  | z => exact h.z
  | @s n0 s h0 hf hs =>
    have hm : (n0, s) ∈ ms := mem_mvF.mp hs
    obtain ⟨j, hj⟩ := List.mem_iff_getElem?.mp (rows_mem.mpr hm)
    exact h.cl j (n0, s) (hup j _ hj (ok.m _ hm).up) hj h0 hf
theorem row_before {rs : List Mv} (hs : rs.Pairwise fun a b => a.1.1 ≤ b.1.1) (hm : rs[i]? = some m) {j : Nat} {m' : Mv} (hj : rs[j]? = some m') (hlt : m'.1.1 < m.1.1) : j < i := by
  obtain ⟨hi, e1⟩ := List.getElem?_eq_some_iff.mp hm
  obtain ⟨hj', e2⟩ := List.getElem?_eq_some_iff.mp hj
  rcases Nat.lt_trichotomy j i with h | h | h
  · exact h
  · subst h
    rw [hm] at hj
    cases hj
    omega
  · have := List.pairwise_iff_getElem.mp hs i j hi hj' h
    rw [e1, e2] at this
    omega
theorem RcI.at (ok : GrOk ns ms es) (h : RcI (liG ns ms es) (rowsL ms) i ts) (hm : (rowsL ms)[i]? = some m) : m.1 ∈ ts ↔ Reach (liG ns ms es) m.1 :=
  ⟨h.rc _, fun hr => h.has ok hr fun _ _ hj hlt => row_before (rows_srt ms) hm hj hlt⟩
theorem RcI.all (ok : GrOk ns ms es) (h : RcI (liG ns ms es) (rowsL ms) (rowsL ms).length ts) (n : Nd) : n ∈ ts ↔ Reach (liG ns ms es) n :=
  ⟨h.rc _, fun hr => h.has ok hr fun _ _ hj _ => (List.getElem?_eq_some_iff.mp hj).1⟩
theorem RcI.skip (ok : GrOk ns ms es) (h : RcI (liG ns ms es) (rowsL ms) i ts) (hm : (rowsL ms)[i]? = some m) (hn : m.1 ∉ ts ∨ (liG ns ms es).fin m.1 = true) : RcI (liG ns ms es) (rowsL ms) (i + 1) ts :=
  ⟨h.nd, h.z, h.rc, fun j m' hj hm' hr hf => by
    rcases Nat.lt_succ_iff_lt_or_eq.mp hj with hj | rfl
    · exact h.cl j m' hj hm' hr hf
    · rw [hm] at hm'
      cases hm'
      rcases hn with hn | hn
      · exact absurd ((h.at ok hm).mpr hr) hn
      · rw [hn] at hf
        cases hf⟩
theorem RcI.old (h : RcI (liG ns ms es) (rowsL ms) i ts) (hm : (rowsL ms)[i]? = some m) (ha : m.2.2 ∈ ts) : RcI (liG ns ms es) (rowsL ms) (i + 1) ts :=
  ⟨h.nd, h.z, h.rc, fun j m' hj hm' hr hf => by
    rcases Nat.lt_succ_iff_lt_or_eq.mp hj with hj | rfl
    · exact h.cl j m' hj hm' hr hf
    · rw [hm] at hm'
      cases hm'
      exact ha⟩
theorem RcI.new (h : RcI (liG ns ms es) (rowsL ms) i ts) (hm : (rowsL ms)[i]? = some m) (hn : m.1 ∈ ts) (hf : (liG ns ms es).fin m.1 = false) (ha : m.2.2 ∉ ts) : RcI (liG ns ms es) (rowsL ms) (i + 1) (ts ++ [m.2.2]) := by
  have hr : Reach (liG ns ms es) m.2.2 := .s (h.rc _ hn) hf (mem_mvF.mpr (rows_mem.mp (List.mem_of_getElem? hm)))
  refine ⟨List.nodup_append.mpr ⟨h.nd, by simp, fun a h1 b h2 e => ha (by rw [List.mem_singleton.mp h2] at e; exact e ▸ h1)⟩, List.mem_append_left _ h.z, fun n hn => ?_, fun j m' hj hm' hr' hf' => ?_⟩
  · rcases List.mem_append.mp hn with hn | hn
    · exact h.rc n hn
    · rw [List.mem_singleton.mp hn]
      exact hr
  · rcases Nat.lt_succ_iff_lt_or_eq.mp hj with hj | rfl
    · exact List.mem_append_left _ (h.cl j m' hj hm' hr' hf')
    · rw [hm] at hm'
      cases hm'
      simp
end
theorem tab_old {f : Nd → D} {ns : List Nd} {n : Nd} {d : D} (h : n ∈ ns) : putP (tabN f ns) (ndK n) d = tabN (fun m => if m = n then d else f m) ns := by
  unfold putP
  have : ((tabN f ns).any fun kv => decide (kv.1 = ndK n)) = true := by
    rw [List.any_eq_true]
    exact ⟨(ndK n, f n), List.mem_map.mpr ⟨n, h, rfl⟩, decide_eq_true rfl⟩
  rw [this, if_pos rfl]
  unfold tabN
  rw [List.map_map]
  apply List.map_congr_left
  intro m hm
  by_cases e : m = n
  · subst e
    simp
  · have : ¬ ndK m = ndK n := fun z => e (ndK_inj z)
    simp [Function.comp, this, e]
theorem dp_sz {ns : List Nd} {ms : List Mv} {es : List Nd} (gok : GrOk ns ms es) {n : Nd} {q : Rat} (hn : n ∈ ns) (h : prc (liG ns ms es) 61 n = some q) : Sz2 4100 2000 q := (prF_sz (li_ok gok) 62 hn h).mono (by decide) (by decide)
theorem path_end {g : Wgr} {U : List Nd} {M k : Nat} (ok : WgOk g U M k) : ∀ (i : Nat) {n : Nd} {q : Rat}, n ∈ U → prc g M n = some q → (M : Int) - g.rk n < i → g.fin ((pathF g (prc g M) i n).getD ((pathF g (prc g M) i n).length - 1) (0, 0)) = true
  | 0, n, q, hn, hq, hi => by have := ok.lo n hn; omega
  | i + 1, n, q, hn, hq, hi => by
    cases hf : g.fin n with
    | true =>
      rw [pathF_end hf]
      exact hf
    | false =>
      obtain ⟨s, hs, e1, e2⟩ := nxt_some ok hn hf hq
      have hgo := ok.go n hn hf s hs
      have hup := ok.up n hn hf s hs
      cases hp : prc g M s.2 with
      | none => rw [hp] at e2; cases e2
      | some p =>
        have h2 := path_end ok i hgo.1 hp (by omega)
        obtain ⟨t, ht⟩ := pathF_head g (prc g M) i s.2
        rw [pathF_step hf e1]
        generalize pathF g (prc g M) i s.2 = l at h2 ht
        have hln : l.length = (l.length - 1) + 1 := by rw [ht]; rfl
        rw [List.length_cons, Nat.add_sub_cancel, hln, List.getD_cons_succ]
        exact h2
/-! what is known of the prices behind some rows -/
def lpr (g : Wgr) (pr : Nd → Option Rat) (L : List Mv) (n : Nd) : Option Rat := if g.fin n = true then some 0 else leastP ((mvF L n).map fun s => addO s.1 (pr s.2))
theorem lpr_snoc {g : Wgr} {pr : Nd → Option Rat} {L : List Mv} {m : Mv} {n : Nd} : lpr g pr (L ++ [m]) n = if g.fin n = true then some 0 else if m.1 = n then bestO (lpr g pr L n) (addO m.2.1 (pr m.2.2)) else lpr g pr L n := by
  unfold lpr
  by_cases hf : g.fin n = true
  · rw [if_pos hf, if_pos hf]
  · rw [if_neg hf, if_neg hf, if_neg hf, mvF_snoc]
    by_cases e : m.1 = n
    · rw [if_pos e, if_pos e, List.map_append, List.map_cons, List.map_nil, leastP_snoc]
    · rw [if_neg e, if_neg e]
theorem lpr_nil {g : Wgr} {pr : Nd → Option Rat} {n : Nd} : lpr g pr [] n = if g.fin n = true then some 0 else none := rfl
section
variable {ns : List Nd} {ms : List Mv} {es : List Nd} {L : List Mv} {n : Nd} {i : Nat} {m : Mv}
theorem lpr_full (ok : GrOk ns ms es) (hn : n ∈ ns) (h : ∀ s, (n, s) ∈ L ↔ (n, s) ∈ ms) : lpr (liG ns ms es) (prc (liG ns ms es) 61) L n = prc (liG ns ms es) 61 n := by
  unfold lpr
  by_cases hf : (liG ns ms es).fin n = true
  · rw [if_pos hf, prc_end hf]
  · rw [if_neg hf, prc_eq (li_ok ok) hn (by simpa using hf)]
    apply leastP_congr
    intro x
    rw [List.mem_map, List.mem_map]
    constructor
    · rintro ⟨s, hs, e⟩
      exact ⟨s, mem_mvF.mpr ((h s).mp (mem_mvF.mp hs)), e⟩
    · rintro ⟨s, hs, e⟩
      exact ⟨s, mem_mvF.mpr ((h s).mpr (mem_mvF.mp hs)), e⟩
theorem lpr_all (ok : GrOk ns ms es) (hn : n ∈ ns) : lpr (liG ns ms es) (prc (liG ns ms es) 61) (rowsL ms).reverse n = prc (liG ns ms es) 61 n :=
  lpr_full ok hn fun s => by rw [List.mem_reverse, rows_mem]
/-- behind the rows that begin farther on, the price of where a row leads is known -/
theorem lpr_after (ok : GrOk ns ms es) (hm : (rowsL ms).reverse[i]? = some m) : lpr (liG ns ms es) (prc (liG ns ms es) 61) ((rowsL ms).reverse.take i) m.2.2 = prc (liG ns ms es) 61 m.2.2 := by
  have hmm : m ∈ ms := rows_mem.mp (List.mem_reverse.mp (List.mem_of_getElem? hm))
  have hup := (ok.m _ hmm).up
  refine lpr_full ok (ok.m _ hmm).b fun s => ⟨fun h => rows_mem.mp (List.mem_reverse.mp (List.mem_of_mem_take h)), fun h => ?_⟩
  obtain ⟨j, hj⟩ := List.mem_iff_getElem?.mp (List.mem_reverse.mpr (rows_mem.mpr h))
  have hs : (rowsL ms).reverse.Pairwise fun a b => b.1.1 ≤ a.1.1 := List.pairwise_reverse.mpr (rows_srt ms)
  obtain ⟨hi, e1⟩ := List.getElem?_eq_some_iff.mp hm
  obtain ⟨hj', e2⟩ := List.getElem?_eq_some_iff.mp hj
  have hji : j < i := by
    rcases Nat.lt_trichotomy j i with q | q | q
    · exact q
    · subst q
      have e := congrArg (fun x : Mv => x.1) (Option.some.inj (hm.symm.trans hj))
      simp only at e
      rw [e] at hup
      omega
    · have := List.pairwise_iff_getElem.mp hs i j hi hj' q
      rw [e1, e2] at this
      simp only at this
      omega
  exact List.mem_take_iff_getElem.mpr ⟨j, by omega, e2⟩
theorem lpr_sz (ok : GrOk ns ms es) (hL : ∀ x ∈ L, x ∈ ms) {q : Rat} (h : lpr (liG ns ms es) (prc (liG ns ms es) 61) L n = some q) : Sz2 6000 3600 q := by
  unfold lpr at h
  split at h
  · cases h
    exact Sz2.zero (by decide) (by decide)
  · obtain ⟨s, hs, e⟩ := List.mem_map.mp (leastP_mem h)
    have hm := ok.m _ (hL _ (mem_mvF.mp hs))
    cases hp : prc (liG ns ms es) 61 s.2 with
    | none => rw [hp] at e; cases e
    | some p =>
      rw [hp] at e
      cases e
      exact (hm.sz.add (dp_sz ok hm.b hp) 6000 (by decide) (by decide)).mono (by decide) (by decide)
end
/-! the first move by which the price comes about -/
theorem nxt_find (ns : List Nd) (ms : List Mv) (es : List Nd) (pr : Nd → Option Rat) (n : Nd) : nxtN (liG ns ms es) pr n = (ms.find? fun m => decide (m.1 = n) && decide (addO m.2.1 (pr m.2.2) = pr n)).map (·.2.2) := by
  show ((((ms.filter fun m => decide (m.1 = n)).map (·.2)).find? fun s => decide (addO s.1 (pr s.2) = pr n)).map (·.2)) = _
  rw [List.find?_map, List.find?_filter, Option.map_map]
  congr 2
  funext m
  simp [Function.comp]
theorem find_at {α : Type} {p : α → Bool} {l : List α} {i : Nat} {a : α} (h : (l.take i).find? p = none) (ha : l[i]? = some a) (hp : p a = true) : l.find? p = some a := by
  obtain ⟨hi, e⟩ := List.getElem?_eq_some_iff.mp ha
  conv => lhs; rw [← List.take_append_drop i l]
  rw [List.find?_append, h, List.drop_eq_getElem_cons hi, e, List.find?_cons, hp]
  rfl
theorem find_snoc {α : Type} {p : α → Bool} {l : List α} {i : Nat} {a : α} (h : (l.take i).find? p = none) (ha : l[i]? = some a) (hp : p a = false) : (l.take (i + 1)).find? p = none := by
  rw [take_snoc ha, List.find?_append, h, List.find?_cons, hp]
  rfl
/-! the way -/
section
variable {ns : List Nd} {ms : List Mv} {es : List Nd}
theorem wayN_at (ok : GrOk ns ms es) {c : Rat} (hc : prc (liG ns ms es) 61 (0, 0) = some c) : (∀ j, j + 1 < (wayN (liG ns ms es) 61).length → (liG ns ms es).fin ((wayN (liG ns ms es) 61).getD j (0, 0)) = false ∧ nxtN (liG ns ms es) (prc (liG ns ms es) 61) ((wayN (liG ns ms es) 61).getD j (0, 0)) = some ((wayN (liG ns ms es) 61).getD (j + 1) (0, 0))) ∧
    (liG ns ms es).fin ((wayN (liG ns ms es) 61).getD ((wayN (liG ns ms es) 61).length - 1) (0, 0)) = true ∧ (wayN (liG ns ms es) 61).getD 0 (0, 0) = (0, 0) ∧ 1 ≤ (wayN (liG ns ms es) 61).length := by
  have k := li_ok ok
  have h2 := path_end k (61 + 1) k.u0 hc (by have := k.lo _ k.u0; omega)
  obtain ⟨t, ht⟩ := pathF_head (liG ns ms es) (prc (liG ns ms es) 61) (61 + 1) (0, 0)
  have hw : wayN (liG ns ms es) 61 = (0, 0) :: t := ht
  exact ⟨fun j hj => path_nxt (61 + 1) j hj, h2, by rw [hw]; rfl, by rw [hw]; simp⟩
theorem way_pr (ok : GrOk ns ms es) {c : Rat} (hc : prc (liG ns ms es) 61 (0, 0) = some c) : ∀ j, j < (wayN (liG ns ms es) 61).length → Reach (liG ns ms es) ((wayN (liG ns ms es) 61).getD j (0, 0)) ∧ ∃ q, prc (liG ns ms es) 61 ((wayN (liG ns ms es) 61).getD j (0, 0)) = some q
  | 0, _ => by
    rw [(wayN_at ok hc).2.2.1]
    exact ⟨.z, c, hc⟩
  | j + 1, h => by
    obtain ⟨h1, q, h2⟩ := way_pr ok hc j (by omega)
    obtain ⟨hf, hn⟩ := (wayN_at ok hc).1 j h
    obtain ⟨s, hs, e1, e2⟩ := nxt_some (li_ok ok) (h1.inU (li_ok ok)) hf h2
    rw [hn] at e1
    have e1 := Option.some.inj e1
    rw [e1]
    refine ⟨.s h1 hf hs, ?_⟩
    cases hp : prc (liG ns ms es) 61 s.2 with
    | none => rw [hp] at e2; cases e2
    | some p => exact ⟨p, rfl⟩
/-- no more steps than moves -/
theorem way_len (ok : GrOk ns ms es) {c : Rat} (hc : prc (liG ns ms es) 61 (0, 0) = some c) : (wayN (liG ns ms es) 61).length ≤ ms.length + 1 := by
  obtain ⟨h1, h2, h3, h4⟩ := wayN_at ok hc
  have hp := way_pr ok hc
  generalize hW : wayN (liG ns ms es) 61 = W at *
  have up : ∀ j, j + 1 < W.length → (W.getD j (0, 0)).1 < (W.getD (j + 1) (0, 0)).1 ∧ W.getD j (0, 0) ∈ ms.map (·.1) := fun j hj => by
    obtain ⟨hf, hn⟩ := h1 j hj
    obtain ⟨hr, q, hq⟩ := hp j (by omega)
    obtain ⟨s, hs, e1, _⟩ := nxt_some (li_ok ok) (hr.inU (li_ok ok)) hf hq
    rw [hn] at e1
    rw [Option.some.inj e1]
    exact ⟨((li_ok ok).go _ (hr.inU (li_ok ok)) hf s hs).2, List.mem_map.mpr ⟨(_, s), mem_mvF.mp hs, rfl⟩⟩
  have inc : ∀ j i, i < j → j < W.length → (W.getD i (0, 0)).1 < (W.getD j (0, 0)).1 := fun j => by
    induction j with
    | zero => intro i hi; omega
    | succ j ih =>
      intro i hi hj
      have := (up j hj).1
      rcases Nat.lt_succ_iff_lt_or_eq.mp hi with q | q
      · have := ih i q (by omega)
        omega
      · rw [q]
        exact this
  have hg : ∀ j (h : j < W.length), W.getD j (0, 0) = W[j] := fun j h => by rw [List.getD_eq_getElem?_getD, List.getElem?_eq_getElem h]; rfl
  have nd : (W.take (W.length - 1)).Nodup := by
    refine List.pairwise_iff_getElem.mpr fun i j hi hj hij e => ?_
    rw [List.length_take] at hi hj
    have := inc j i hij (by omega)
    rw [hg i (by omega), hg j (by omega)] at this
    rw [List.getElem_take, List.getElem_take] at e
    rw [e] at this
    omega
  have := len_sub (l := W.take (W.length - 1)) (m := ms.map (·.1)) nd fun x hx => by
    obtain ⟨j, hj, rfl⟩ := List.mem_take_iff_getElem.mp hx
    rw [← hg j (by omega)]
    exact (up j (by omega)).2
  rw [List.length_take, List.length_map] at this
  omega
/-- turned about, the prices stay -/
theorem mvF_rev (n : Nd) (s : Rat × Nd) : s ∈ mvF ms.reverse n ↔ s ∈ mvF ms n := by rw [mem_mvF, mem_mvF, List.mem_reverse]
theorem prF_rev (es : List Nd) : ∀ (i : Nat) (n : Nd), prF (liG ns ms.reverse es) i n = prF (liG ns ms es) i n
  | 0, n => rfl
  | i + 1, n => by
    unfold prF
    show (if decide (n ∈ es) = true then some 0 else leastP _) = (if decide (n ∈ es) = true then some 0 else leastP _)
    congr 1
    apply leastP_congr
    intro x
    rw [List.mem_map, List.mem_map]
    constructor
    · rintro ⟨s, hs, e⟩
      exact ⟨s, (mvF_rev n s).mp hs, by rw [← prF_rev es i]; exact e⟩
    · rintro ⟨s, hs, e⟩
      exact ⟨s, (mvF_rev n s).mpr hs, by rw [prF_rev es i]; exact e⟩
theorem prc_rev (n : Nd) : prc (liG ns ms.reverse es) 61 n = prc (liG ns ms es) 61 n := prF_rev es _ n
theorem reach_rev {n : Nd} : Reach (liG ns ms.reverse es) n ↔ Reach (liG ns ms es) n := by
  constructor
  · intro h
    induction h with
    | z => exact .z
    | s _ hf hs ih => exact .s ih hf ((mvF_rev _ _).mp hs)
  · intro h
    induction h with
    | z => exact .z
    | s _ hf hs ih => exact .s ih hf ((mvF_rev _ _).mpr hs)
theorem GrOk.rev (ok : GrOk ns ms es) : GrOk ns ms.reverse es := ⟨ok.n, fun x hx => ok.m x (List.mem_reverse.mp hx), by rw [List.length_reverse]; exact ok.ml, ok.e, ok.el⟩
end
/-- two tables of the same nodes -/
theorem tab_same {f : Nd → D} {ms ns : List Nd} (h1 : ms.Nodup) (h2 : ns.Nodup) (h : ∀ n, n ∈ ms ↔ n ∈ ns) : (tabN f ms).length = (tabN f ns).length ∧ ∀ kv ∈ tabN f ms, getP (tabN f ns) kv.1 = some kv.2 := by
  have l1 := len_sub h1 fun x hx => (h x).mp hx
  have l2 := len_sub h2 fun x hx => (h x).mpr hx
  refine ⟨by rw [tab_len, tab_len]; omega, fun kv hk => ?_⟩
  obtain ⟨n, hn, rfl⟩ := List.mem_map.mp hk
  exact tab_in ((h n).mp hn)
/-- what the law's way tells -/
def wydD (g : Wgr) : D := match prc g 61 (0, 0) with
  | none => .non
  | some c => .tup [frq c, .lst ((wayN g 61).map nD)]
theorem dp_notake {ms : List Nd} (hp : ms.Nodup) {i : Nat} {m : Nd} (hm : ms[i]? = some m) : m ∉ ms.take i := fun h => by
  obtain ⟨j, hj, e⟩ := List.mem_take_iff_getElem.mp h
  obtain ⟨hi, e2⟩ := List.getElem?_eq_some_iff.mp hm
  have := List.pairwise_iff_getElem.mp hp j i (by omega) hi (by omega)
  exact this (e.trans e2.symm)
theorem dp_tabL {f : Nd → D} {ms : List Nd} {i : Nat} {k : List Key} {e : D} (h : (tabN f ms)[i]? = some (k, e)) : ∃ n, ms[i]? = some n ∧ k = ndK n ∧ e = f n := by
  unfold tabN at h
  rw [List.getElem?_map] at h
  cases hn : ms[i]? with
  | none => rw [hn] at h; cases h
  | some n => rw [hn] at h; cases h; exact ⟨n, rfl, rfl, rfl⟩
theorem dp_congr {f f' : Nd → D} {ns : List Nd} (h : ∀ n ∈ ns, f n = f' n) : tabN f ns = tabN f' ns := by
  unfold tabN
  exact List.map_congr_left fun n hn => by rw [h n hn]
section
variable {g : Wgr} {pr : Nd → Option Rat} {rv : List Mv} {i : Nat} {m : Mv} {ts : List Nd}
theorem lpr_same (hm : rv[i]? = some m) (h : m.1 ∉ ts ∨ g.fin m.1 = true ∨ pr m.2.2 = none) : tabN (fun n => oqD (lpr g pr (rv.take (i + 1)) n)) ts = tabN (fun n => oqD (lpr g pr (rv.take i) n)) ts := by
  refine dp_congr fun n hn => ?_
  rw [take_snoc hm, lpr_snoc]
  by_cases hf : g.fin n = true
  · rw [if_pos hf]
    unfold lpr
    rw [if_pos hf]
  · rw [if_neg hf]
    by_cases e : m.1 = n
    · rw [if_pos e]
      rcases h with h | h | h
      · exact absurd (e ▸ hn) h
      · exact absurd (e ▸ h) hf
      · rw [h]
        rfl
    · rw [if_neg e]
theorem lpr_put (hm : rv[i]? = some m) {q : Rat} (hp : pr m.2.2 = some q) (hf : g.fin m.1 = false) {d : D} (hd : oqD (bestO (lpr g pr (rv.take i) m.1) (some (m.2.1 + q))) = d) : tabN (fun n => if n = m.1 then d else oqD (lpr g pr (rv.take i) n)) ts = tabN (fun n => oqD (lpr g pr (rv.take (i + 1)) n)) ts := by
  refine dp_congr fun n hn => ?_
  rw [take_snoc hm, lpr_snoc]
  by_cases e : n = m.1
  · subst e
    rw [if_pos rfl, if_neg (by rw [hf]; decide), if_pos rfl, hp, ← hd]
    rfl
  · rw [if_neg e]
    by_cases hf2 : g.fin n = true
    · rw [if_pos hf2]
      unfold lpr
      rw [if_pos hf2]
    · rw [if_neg hf2, if_neg (fun z => e z.symm)]
end
theorem Wf.upDp {F : List (V × D)} {H : Hp} {M : List ME} {t : V} {p : Addr} {ds : List D} {d : D} (w : Wf F H M) (h : Kn F t (.tup [d, .ref p])) (h2 : Kn F (.ref p) (.lst ds)) : Wf ((t, .tup [d, .lst ds]) :: F) H M := by
  obtain ⟨I, Mc, w, ac, hF⟩ := w.ex
  refine ⟨I, Mc, w, ac, fun f hf => ?_⟩
  rcases List.mem_cons.mp hf with rfl | hf
  · have h1 := h.is hF
    have h3 := h2.is hF
    cases h1 with
    | tup ht ha =>
      cases ha with
      | cons a1 ha =>
        cases ha with
        | cons a2 ha =>
          cases ha
          cases a2
          exact .tup ht (.cons a1 (.cons h3 .nil))
  · exact hF f hf
theorem Wf.pureD {H : Hp} {G : List (V × D)} (hG : ∀ f ∈ G, Is H f.1 f.2) : Wf ((.non, .fact fun _ J => J = H) :: G) H [] := ⟨H, [], W.self, .nil, fun f hf => by
  rcases List.mem_cons.mp hf with rfl | hf
  · exact .fact (Same.refl _) rfl
  · exact hG f hf⟩
theorem Wf.unpureD {H : Hp} {G : List (V × D)} {H' : Hp} (w : Wf ((.non, .fact fun _ J => J = H) :: G) H' []) : Same H H' := by
  obtain ⟨I, Mc, w1, a, hF⟩ := w.ex
  have h := hF _ List.mem_cons_self
  cases h with
  | fact s e =>
    subst e
    exact fun x o h => w1.imm _ _ (s _ _ h)

abbrev s__law_prices : Stmt := top 42
theorem sc__law_prices : FnScope ["_law_moves_here", "_law_ends_here", "_law_rows_here", "_law_reached", "_law_node", "_law_cost_here", "_law_after", "_law_prices_here", "_law_price"] ["_law_moves_here", "_law_ends_here"] (defScope s__law_prices) := ⟨rfl, rfl, rfl, by decide +kernel, rfl, by decide +kernel, by decide +kernel⟩
structure PrcP (F : List (V × D)) (H : Hp) (M : List ME) (Pt : Addr) (x y : V) (ns : List Nd) (ms : List Mv) (es : List Nd) : Prop where
  w : Wf F H M
  tb : .tb Pt ("_law_prices.<locals>." ++ "<lambda>") ∈ M
  hx : Rk F M x (.lst (ms.map mvD))
  hy : Rk F M y (.lst (es.map nD))
  ok : GrOk ns ms es
def sp__law_prices (Pt : Addr) : Sp := fun vs H Q _ => ∃ F M x y, ∃ (ns : List Nd) (ms : List Mv) (es : List Nd), vs = [x, y] ∧ PrcP F H M Pt x y ns ms es ∧ ∀ p H' (ts : List Nd), ts.Nodup → (∀ n, n ∈ ts ↔ Reach (liG ns ms es) n) → Wf F H' (.dt p (tabN (fun n => oqD (prc (liG ns ms es) 61 n)) ts) :: M) → Q (.ref p) H'
theorem n_lprices {Pt : Addr} {F : List (V × D)} {H : Hp} {M : List ME} {x y : V} {ns : List Nd} {ms : List Mv} {es : List Nd} {Q : VK} {E : XK} (h : PrcP F H M Pt x y ns ms es) (q : ∀ p H' (ts : List Nd), ts.Nodup → (∀ n, n ∈ ts ↔ Reach (liG ns ms es) n) → Wf F H' (.dt p (tabN (fun n => oqD (prc (liG ns ms es) 61 n)) ts) :: M) → Q (.ref p) H') : sp__law_prices Pt ([x, y] ++ []) H Q E := ⟨F, M, x, y, ns, ms, es, rfl, h, q⟩

theorem ok__law_prices {f : Addr} {fd : FuncData} (F : Fun K "_law_prices" "_law_prices" s__law_prices f fd) (B : Bn mg) (c__law_sum : Cal P wd K mg base "_law_sum" 2 ["_law_one", "_law_other"] [] sp__law_sum) (c__law_less : Cal P wd K mg base "_law_less" 1 ["_law_one", "_law_other"] [] sp__law_less) {c__law_prices : Addr} (T : fd.code = .ref c__law_prices) (TB : LamX.TabB base mg c__law_prices P__law_prices)  : FnOk P wd K mg base CX0 3 f fd ["_law_moves_here", "_law_ends_here"] (sp__law_prices P__law_prices) := by
  refine F.okT T sc__law_prices (fun vs H Q E h => ?_) (fun A outer s H vs Q E hr h => ?_)
  · obtain ⟨F, M, x, y, ns, ms, es, rfl, ⟨w, htb, hx, hy, gok⟩, k⟩ := h
    all_goals rfl
  · obtain ⟨F, M, x, y, ns, ms, es, rfl, ⟨w, htb, hx, hy, gok⟩, k⟩ := h
    refine ⟨_, (pss_cons (ps_set (i := 2) sc__law_prices.nd rfl (Or.inl rfl) (pe_callBK (k_sortKeyV (P := P) (w := wd) (K := K) (mg := mg) (base := base) (hr.mono (by decide)) rfl rfl rfl rfl rfl) (by rfl) B.sorted_ (by decide +kernel) (pa_cons (pv 0) pa_nil) (pk_cons (pe_lamV TB rfl rfl (lamFree_by (sc := defScope s__law_prices) (by decide +kernel))) pk_nil)))
      (pss_cons (ps_set (i := 3) sc__law_prices.nd rfl (Or.inl rfl) (pe_disp1T (hu1 hr.units) (pe_tup (pa_cons pe_int (pa_cons pe_int pa_nil))) pe_bl))
      (pss_cons (ps_for PassesOwn.never rfl (kpi_list (K := K) rfl (pv 2)) (kpg_tup (K := K) (n := 3) rfl rfl (pgs_cons (pg_name (i := 4) sc__law_prices.nd rfl (Or.inl rfl)) (pgs_cons (pg_name (i := 5) sc__law_prices.nd rfl (Or.inl rfl)) (pgs_cons (pg_name (i := 6) sc__law_prices.nd rfl (Or.inl rfl)) pgs_nil)))) (pss_one (ps_if (pw_and (pt_cmp (pc_din (hu1 hr.units) (pv 4) (pv 3))) (pw_and1 (pt_cmpR (k_notinD (K := K) rfl (hu65 hr)) (pv 4) (pv 1) (by with_unfolding_all rfl)))).pt (pss_one (ps_dput (hu1 hr.units) (pv 3) (pv 6) pe_bl rfl)) pss_nil)))
      (pss_cons (ps_set (i := 7) sc__law_prices.nd rfl (Or.inl rfl) pe_dnewT)
      (pss_cons (ps_lock (ps_for PassesOwn.never rfl (pi_keys (pv 3)) (pg_name (i := 4) sc__law_prices.nd rfl (Or.inl rfl)) (pss_cons (ps_dput (hu1 hr.units) (pv 7) (pv 4) pe_non rfl)
      (pss_one (ps_if (pt_cmpR (k_inD (K := K) rfl (hu65 hr)) (pv 4) (pv 1) (by with_unfolding_all rfl)) (pss_one (ps_dput (hu1 hr.units) (pv 7) (pv 4) (pe_tup (pa_cons pe_int (pa_cons pe_int pa_nil))) rfl)) pss_nil)))))
      (pss_cons (ps_for PassesOwn.never rfl (kpi_list (K := K) rfl (pe_revL (pv 2))) (kpg_tup (K := K) (n := 3) rfl rfl (pgs_cons (pg_name (i := 4) sc__law_prices.nd rfl (Or.inl rfl)) (pgs_cons (pg_name (i := 5) sc__law_prices.nd rfl (Or.inl rfl)) (pgs_cons (pg_name (i := 6) sc__law_prices.nd rfl (Or.inl rfl)) pgs_nil)))) (pss_one (ps_if (pw_and (pt_cmp (pc_din (hu1 hr.units) (pv 4) (pv 3))) (pw_and (pt_cmpR (k_notinD (K := K) rfl (hu65 hr)) (pv 4) (pv 1) (by with_unfolding_all rfl)) (pw_and1 (pt_cmp (pc_notN (pe_dget (hu1 hr.units) (pv 7) (pv 6) (fun _ _ => rfl))))))).pt (pss_cons (ps_set (i := 8) sc__law_prices.nd rfl (Or.inl rfl) (pe_cal c__law_sum (hr.mono (by decide)) (by rfl) (pa_cons (pv 5) (pa_cons (pe_dget (hu1 hr.units) (pv 7) (pv 6) (fun _ _ => rfl)) pa_nil))))
      (pss_one (ps_if (pw_or (pt_cmp (pc_isN (pe_dget (hu1 hr.units) (pv 7) (pv 4) (fun _ _ => rfl)))) (pw_or1 (pt_val (pe_cal c__law_less (hr.mono (by decide)) (by rfl) (pa_cons (pv 8) (pa_cons (pe_dget (hu1 hr.units) (pv 7) (pv 4) (fun _ _ => rfl)) pa_nil)))))).pt (pss_one (ps_dput (hu1 hr.units) (pv 7) (pv 4) (pv 8) rfl)) pss_nil))) pss_nil)))
      (pss_one (ps_ret (pv 7))))))))), ?_⟩
    try dsimp only [cxOf, Cx.nox, Cx.wish, Cx.blk]
    have ok := li_ok gok
    rw [show L2.start (["_law_moves_here", "_law_ends_here", "_law_rows_here", "_law_reached", "_law_node", "_law_cost_here", "_law_after", "_law_prices_here", "_law_price"] : List Str) [x, y] = [some x, some y, none, none, none, none, none, none, none] from rfl]
    wtm_at "n"
    refine s_ckw ?_
    wtm_at "n"
    refine n_lam (φ := KeyV P wd K mg base) w (show ME.tb P__law_prices ("_law_prices.<locals>." ++ "<lambda>") ∈ _ from htb) (fun f c I hf hc => keyV_lam (x := "_law_move") ?S1 rfl (by decide) (fun pm cv ctv us hl => match us, hl with | [_], _ => rfl) rfl hf hc) fun ff H1 w => ?_
    case S1 =>
      dsimp only
      exact NdefX.nscope_by (by decide +kernel)
    wtm_at "n"
    refine n_sortKey w hx.moreF (.mem (.head _)) (fun d hd => keyD_mv hd) fun pr H2 w => ?_
    rw [rows_map] at w
    wtm_at "n"
    refine s_disp1T w fun pd H3 w => ?_
    wtm_at "n"
    rename_i ut H4 w4
    refine ⟨w4.dtNil (by simp), ?_⟩
    refine n_dputT (k := ndK (0, 0)) (d := .bl true) w4 .here (.mem (List.mem_cons_self)) (.bl true) (by simp) fun H5 w => ?_
    have w : Wf F H5 (.dt pd (tabN (fun _ => .bl true) [(0, 0)]) :: .ml pr ((rowsL ms).map mvD) :: M) := w.sub (fun f hf => .mem (by simp [hf])) (.refl _)
    clear w4
    wtm_at "n"
    refine n_forL w (fun i σ' F' M' => ∃ (ts : List Nd) (x4 x5 x6 : Option V), σ' = [some x, some y, some (.ref pr), some (.ref pd), x4, x5, x6, none, none] ∧ F = F' ∧ M' = .dt pd (tabN (fun _ => .bl true) ts) :: .ml pr ((rowsL ms).map mvD) :: M ∧ RcI (liG ns ms es) (rowsL ms) i ts) (by rintro i σ' F' M' ⟨_, _, _, _, rfl, rfl, rfl, _⟩; exact .ml (.tail _ (.head _))) ⟨_, _, _, _, rfl, rfl, rfl, RcI.start⟩ ?_ ?_
    · clear w
      rintro i d z σ' H' F' M' hd ⟨ts, x4, x5, x6, rfl, rfl, rfl, rci⟩ w
      obtain ⟨m, hm, rfl⟩ := map_get hd
      refine n_gtup3 (d0 := nD m.1) (d1 := frq m.2.1) (d2 := nD m.2.2) w (.mem List.mem_cons_self) fun a c e w => ?_
      wtm_at "n"
      simp only [List.set_cons_succ, List.set_cons_zero]
      have hlt : ts.length ≤ 100000 := by
        have := len_sub rci.nd fun n hn => (rci.rc n hn).inU ok
        have := gok.n.le
        omega
      refine n_dinT (k := ndK m.1) w (.head _) (.mem (.head _)) ?_
      rw [tab_get]
      by_cases hmt : m.1 ∈ ts
      rotate_left
      · rw [if_neg hmt]
        wtm_at "n"
        exact ⟨_, _, ⟨ts, _, _, _, rfl, rfl, rfl, rci.skip gok hm (.inl hmt)⟩, w.sub (fun f hf => .mem (by simp [hf])) (.refl _)⟩
      rw [if_pos hmt, Option.isSome_some]
      wtm_at "n"
      refine n_notinN (n := m.1) (l := es) w (.mem (.head _)) hy.more.more.moreF.moreF.moreF.moreF ?_
      by_cases hfe : m.1 ∈ es
      · rw [decide_eq_true hfe]
        wtm_at "n"
        exact ⟨_, _, ⟨ts, _, _, _, rfl, rfl, rfl, rci.skip gok hm (.inr (decide_eq_true hfe))⟩, w.sub (fun f hf => .mem (by simp [hf])) (.refl _)⟩
      rw [decide_eq_false hfe]
      wtm_at "n"
      refine n_dputT (k := ndK m.2.2) (d := .bl true) w .here (.mem (.tail _ (.tail _ (.head _)))) (.bl true) (by rw [tab_len]; exact hlt) fun H7 w => ?_
      by_cases hat : m.2.2 ∈ ts
      · rw [tab_old hat] at w
        simp only [ite_self] at w
        exact ⟨_, _, ⟨ts, _, _, _, rfl, rfl, rfl, rci.old hm hat⟩, w.sub (fun f hf => .mem (by simp [hf])) (.refl _)⟩
      · rw [tab_new hat, ← tab_snoc (f := fun _ => D.bl true)] at w
        exact ⟨_, _, ⟨ts ++ [m.2.2], _, _, _, rfl, rfl, rfl, rci.new hm hmt (decide_eq_false hfe) hat⟩, w.sub (fun f hf => .mem (by simp [hf])) (.refl _)⟩
    clear w
    rintro σ' H' F' M' ⟨ts, x4, x5, x6, rfl, rfl, rfl, rci⟩ w
    rw [List.length_map] at rci
    have hall := rci.all gok
    have hnd := rci.nd
    have hlt : ts.length ≤ 100000 := by
      have := len_sub rci.nd fun n hn => (rci.rc n hn).inU ok
      have := gok.n.le
      omega
    clear rci
    wtm_at "n"
    refine s_dnewT w fun pp H6 w => ?_
    wtm_at "n"
    refine n_forKT w (.there .here) (fun H' Q h => s_var rfl h) fun od ds FX hFX hkn2 => ⟨fun i σ' F' M' => ∃ z4 : Option V, σ' = [some x, some y, some (.ref pr), some (.ref pd), z4, x5, x6, some (.ref pp), none] ∧ F' = FX ∧ M' = .dt pp (tabN (fun n => oqD (lpr (liG ns ms es) (prc (liG ns ms es) 61) [] n)) (ts.take i)) :: .ml pr ((rowsL ms).map mvD) :: M, fun i σ F' M' h => (by obtain ⟨_, rfl, rfl, rfl⟩ := h; exact hkn2), ⟨_, rfl, rfl, rfl⟩, ?_, ?_⟩
    · clear w
      rintro i kk e xk σ' H' F' M' he ⟨z4, rfl, rfl, rfl⟩ w
      obtain ⟨n, hn', rfl, rfl⟩ := dp_tabL he
      have hnt := dp_notake hnd hn'
      have hl2 : (ts.take i).length ≤ 90000 := by
        have := len_sub hnd fun n hn => ((hall n).mp hn).inU ok
        have := gok.n.le
        rw [List.length_take]
        omega
      wtm_at "n"
      simp only [List.set_cons_succ, List.set_cons_zero]
      refine n_dputT (k := ndK n) (d := .non) w (.there .here) (.mem (.head _)) .non (by rw [tab_len]; omega) fun H7 w => ?_
      rw [tab_new hnt] at w
      wtm_at "n"
      have hyF : Rk F' (.raw pd (.frz od (.dT ds)) :: .dt pp (tabN (fun n => oqD (lpr (liG ns ms es) (prc (liG ns ms es) 61) [] n)) (ts.take i) ++ [(ndK n, .non)]) :: .ml pr ((rowsL ms).map mvD) :: M) y (.lst (es.map nD)) := by
        cases hy with
        | mem h => exact Rk.of (hFX _ h) (by simp)
        | ml h => exact .ml (by simp [h])
      refine n_inN (n := n) (l := es) w (.mem (.head _)) hyF.moreF ?_
      by_cases hfe : n ∈ es
      · rw [decide_eq_true hfe]
        wtm_at "n"
        rename_i ut Ht wt
        refine n_dputT (k := ndK n) (d := .tup [.int 0, .int 1]) wt (.there .here) (.mem (by simp [nD, ndK, keyD])) (.mem (.head _)) (by rw [List.length_append, tab_len, List.length_singleton]; omega) fun H8 w8 => ?_
        rw [tab_again hnt] at w8
        refine ⟨F', _, ⟨_, rfl, rfl, rfl⟩, ?_⟩
        rw [take_snoc hn', tab_snoc, lpr_nil, if_pos (show (liG ns ms es).fin n = true from decide_eq_true hfe)]
        exact w8.sub (fun f hf => .mem (by simp [hf])) (.refl _)
      · rw [decide_eq_false hfe]
        wtm_at "n"
        refine ⟨F', _, ⟨_, rfl, rfl, rfl⟩, ?_⟩
        rw [take_snoc hn', tab_snoc, lpr_nil, if_neg (by simp [liG, hfe])]
        exact w.sub (fun f hf => .mem (by simp [hf])) (.refl _)
    clear w
    rintro σ' H' F' M' ⟨z4, rfl, rfl, rfl⟩ w
    rw [tab_len, List.take_length] at w
    have w := w.sub hFX (.refl _)
    clear hkn2 hFX
    wtm_at "n"
    rename_i pv H7 w7
    rw [← List.map_reverse] at w7
    refine n_forL w7 (fun i σ' F' M' => ∃ (x4 x5 x6 x8 : Option V), σ' = [some x, some y, some (.ref pr), some (.ref pd), x4, x5, x6, some (.ref pp), x8] ∧ F = F' ∧ M' = .ml pv ((rowsL ms).reverse.map mvD) :: .dt pd (tabN (fun _ => .bl true) ts) :: .dt pp (tabN (fun n => oqD (lpr (liG ns ms es) (prc (liG ns ms es) 61) ((rowsL ms).reverse.take i) n)) ts) :: .ml pr ((rowsL ms).map mvD) :: M) (by rintro i σ' F' M' ⟨_, _, _, _, rfl, rfl, rfl⟩; exact .ml (.head _)) ⟨_, _, _, _, rfl, rfl, rfl⟩ ?_ ?_
    rotate_left
    · clear w w7
      rintro σ' H' F' M' ⟨x4, x5, x6, x8, rfl, rfl, rfl⟩ w
      wtm_at "n"
      rw [List.length_map, List.take_length] at w
      refine k pp _ ts hnd hall ?_
      rw [dp_congr (f := fun n => oqD (prc (liG ns ms es) 61 n)) (f' := fun n => oqD (lpr (liG ns ms es) (prc (liG ns ms es) 61) (rowsL ms).reverse n)) (fun n hn => by rw [lpr_all gok (((hall n).mp hn).inU ok)])]
      exact w.sub (fun f hf => .mem hf) (.cons _ (.cons _ (.cons_cons _ (.cons _ (.refl _)))))
    clear w w7
    rintro i d z σ' H' F' M' hd ⟨x4, x5, x6, x8, rfl, rfl, rfl⟩ w
    obtain ⟨m, hm, rfl⟩ := map_get hd
    have hmm : m ∈ ms := rows_mem.mp (List.mem_reverse.mp (List.mem_of_getElem? hm))
    have mok := gok.m m hmm
    have same : ∀ {F2 : List (V × D)} {H2 : Hp} {x4 x5 x6 x8 : Option V}, (m.1 ∉ ts ∨ (liG ns ms es).fin m.1 = true ∨ prc (liG ns ms es) 61 m.2.2 = none) → (∀ f ∈ F, f ∈ F2) → Wf F2 H2 (.ml pv ((rowsL ms).reverse.map mvD) :: .dt pd (tabN (fun _ => .bl true) ts) :: .dt pp (tabN (fun n => oqD (lpr (liG ns ms es) (prc (liG ns ms es) 61) ((rowsL ms).reverse.take i) n)) ts) :: .ml pr ((rowsL ms).map mvD) :: M) → LI (fun σ' F' M' => ∃ (x4 x5 x6 x8 : Option V), σ' = [some x, some y, some (.ref pr), some (.ref pd), x4, x5, x6, some (.ref pp), x8] ∧ F = F' ∧ M' = .ml pv ((rowsL ms).reverse.map mvD) :: .dt pd (tabN (fun _ => .bl true) ts) :: .dt pp (tabN (fun n => oqD (lpr (liG ns ms es) (prc (liG ns ms es) 61) ((rowsL ms).reverse.take (i + 1)) n)) ts) :: .ml pr ((rowsL ms).map mvD) :: M) [some x, some y, some (.ref pr), some (.ref pd), x4, x5, x6, some (.ref pp), x8] H2 := fun h hF w => ⟨F, _, ⟨_, _, _, _, rfl, rfl, rfl⟩, by rw [lpr_same hm h]; exact w.sub (fun f hf => .mem (hF f hf)) (.refl _)⟩
    refine n_gtup3 (d0 := nD m.1) (d1 := frq m.2.1) (d2 := nD m.2.2) w (.mem List.mem_cons_self) fun a c e w => ?_
    wtm_at "n"
    simp only [List.set_cons_succ, List.set_cons_zero]
    refine n_dinT (k := ndK m.1) w (.tail _ (.head _)) (.mem (.head _)) ?_
    rw [tab_get]
    by_cases hmt : m.1 ∈ ts
    rotate_left
    · rw [if_neg hmt]
      wtm_at "n"
      exact same (.inl hmt) (fun f hf => by simp [hf]) w
    rw [if_pos hmt, Option.isSome_some]
    wtm_at "n"
    refine n_notinN (n := m.1) (l := es) w (.mem (.head _)) hy.more.more.more.more.moreF.moreF.moreF.moreF ?_
    by_cases hfe : m.1 ∈ es
    · rw [decide_eq_true hfe]
      wtm_at "n"
      exact same (.inr (.inl (decide_eq_true hfe))) (fun f hf => by simp [hf]) w
    rw [decide_eq_false hfe]
    have hff : (liG ns ms es).fin m.1 = false := decide_eq_false hfe
    have hat : m.2.2 ∈ ts := (hall _).mpr (.s ((hall _).mp hmt) hff (mem_mvF.mpr hmm))
    wtm_at "n"
    refine n_dgetT (k := ndK m.2.2) w (.tail _ (.tail _ (.head _))) (.mem (.tail _ (.tail _ (.head _)))) (tab_in (f := fun n => oqD (lpr (liG ns ms es) (prc (liG ns ms es) 61) ((rowsL ms).reverse.take i) n)) hat) fun u w => ?_
    rw [lpr_after gok hm] at w
    cases hp : prc (liG ns ms es) 61 m.2.2 with
    | none =>
      rw [hp] at w
      obtain ⟨rfl, w⟩ := w.non0
      wtm_at "n"
      exact same (.inr (.inr hp)) (fun f hf => by simp [hf]) w
    | some q =>
      have hqz := dp_sz gok mok.b hp
      rw [hp] at w
      obtain ⟨pu, rfl⟩ := (show Wf ((u, .tup [.int q.num, .int (q.den : Int)]) :: _) _ _ from w).tup0
      wtm_at "n"
      refine n_dgetT (k := ndK m.2.2) w (.tail _ (.tail _ (.head _))) (.mem (by simp [nD, ndK, keyD])) (tab_in (f := fun n => oqD (lpr (liG ns ms es) (prc (liG ns ms es) 61) ((rowsL ms).reverse.take i) n)) hat) fun u2 w => ?_
      rw [lpr_after gok hm, hp] at w
      wtm_at "n"
      refine n_lsum3 (p := m.2.1) (q := q) w (.mem (by simp)) (.mem (.head _)) (mok.sz.mono (by decide) (by decide)) (hqz.mono (by decide) (by decide)) fun r H8 w => ?_
      obtain ⟨prr, rfl⟩ := (show Wf ((r, .tup [.int (m.2.1 + q).num, .int ((m.2.1 + q).den : Int)]) :: _) _ _ from w).tup0
      have hsz : Sz 8000 (m.2.1 + q) := (mok.sz.add hqz 6000 (by decide) (by decide)).sz (by decide) (by decide)
      have w : Wf ((.ref prr, frq (m.2.1 + q)) :: (a, nD m.1) :: F) H8 _ := w.sub (KS.cons (.mem (.head _)) (KS.cons (.mem (by simp)) fun f hf => .mem (by simp [hf]))) (.refl _)
      wtm_at "n"
      refine n_dgetT (k := ndK m.1) w (.tail _ (.tail _ (.head _))) (.mem (.tail _ (.head _))) (tab_in (f := fun n => oqD (lpr (liG ns ms es) (prc (liG ns ms es) 61) ((rowsL ms).reverse.take i) n)) hmt) fun u3 w => ?_
      cases hb : lpr (liG ns ms es) (prc (liG ns ms es) 61) ((rowsL ms).reverse.take i) m.1 with
      | none =>
        rw [hb] at w
        obtain ⟨rfl, wz⟩ := w.non0
        clear w
        have w := wz
        clear wz
        wtm_at "n"
        refine n_dputT (k := ndK m.1) (d := frq (m.2.1 + q)) w (.there (.there .here)) (.mem (.tail _ (.head _))) (.mem (.head _)) (by rw [tab_len]; exact hlt) fun H9 w => ?_
        rw [tab_old hmt, lpr_put hm hp hff (by rw [hb]; rfl)] at w
        exact ⟨F, _, ⟨_, _, _, _, rfl, rfl, rfl⟩, w.sub (fun f hf => .mem (by simp [hf])) (.refl _)⟩
      | some b =>
        rw [hb] at w
        obtain ⟨pb, rfl⟩ := (show Wf ((u3, .tup [.int b.num, .int (b.den : Int)]) :: _) _ _ from w).tup0
        have hbz : Sz2 6000 3600 b := lpr_sz gok (fun x hx => rows_mem.mp (List.mem_reverse.mp (List.mem_of_mem_take hx))) hb
        wtm_at "n"
        refine n_dgetT (k := ndK m.1) w (.tail _ (.tail _ (.head _))) (.mem (by simp [nD, ndK, keyD])) (tab_in (f := fun n => oqD (lpr (liG ns ms es) (prc (liG ns ms es) 61) ((rowsL ms).reverse.take i) n)) hmt) fun u4 w => ?_
        rw [hb] at w
        wtm_at "n"
        refine n_lless (p := m.2.1 + q) (q := b) w (.mem (by simp)) (.mem (.head _)) hsz (hbz.sz (by decide) (by decide)) ?_
        by_cases hlt2 : m.2.1 + q < b
        · rw [decide_eq_true hlt2]
          wtm_at "n"
          refine n_dputT (k := ndK m.1) (d := frq (m.2.1 + q)) w (.there (.there .here)) (.mem (by simp [nD, ndK, keyD])) (.mem (by simp)) (by rw [tab_len]; exact hlt) fun H9 w => ?_
          rw [tab_old hmt, lpr_put hm hp hff (by rw [hb]; show oqD (if m.2.1 + q < b then some (m.2.1 + q) else some b) = _; rw [if_pos hlt2]; rfl)] at w
          exact ⟨F, _, ⟨_, _, _, _, rfl, rfl, rfl⟩, w.sub (fun f hf => .mem (by simp [hf])) (.refl _)⟩
        · rw [decide_eq_false hlt2]
          wtm_at "n"
          refine ⟨F, _, ⟨_, _, _, _, rfl, rfl, rfl⟩, ?_⟩
          have e := lpr_put (ts := ts) hm hp hff (d := oqD (some b)) (by rw [hb]; show oqD (if m.2.1 + q < b then some (m.2.1 + q) else some b) = _; rw [if_neg hlt2])
          rw [← e, dp_congr (f := fun n => if n = m.1 then oqD (some b) else oqD (lpr (liG ns ms es) (prc (liG ns ms es) 61) ((rowsL ms).reverse.take i) n)) (f' := fun n => oqD (lpr (liG ns ms es) (prc (liG ns ms es) 61) ((rowsL ms).reverse.take i) n)) (fun n _ => by
            by_cases z : n = m.1
            · rw [z, if_pos rfl, hb]
            · rw [if_neg z])]
          exact w.sub (fun f hf => .mem (by simp [hf])) (.refl _)
abbrev s__law_next : Stmt := top 43
theorem sc__law_next : FnScope ["_law_moves_here", "_law_prices_here", "_law_node", "_law_one", "_law_cost_here", "_law_after"] ["_law_moves_here", "_law_prices_here", "_law_node"] (defScope s__law_next) := ⟨rfl, rfl, rfl, by decide +kernel, rfl, by decide +kernel, by decide +kernel⟩
structure NxtP (F : List (V × D)) (H : Hp) (M : List ME) (x : V) (p : Addr) (nv : V) (ns : List Nd) (ms : List Mv) (es ts : List Nd) (n : Nd) (q : Rat) : Prop where
  w : Wf F H M
  hx : Rk F M x (.lst (ms.map mvD))
  hp : .dt p (tabN (fun n => oqD (prc (liG ns ms es) 61 n)) ts) ∈ M
  ht : ∀ n, n ∈ ts ↔ Reach (liG ns ms es) n
  hn : Kn F nv (nD n)
  ok : GrOk ns ms es
  hr : Reach (liG ns ms es) n
  hf : (liG ns ms es).fin n = false
  hq : prc (liG ns ms es) 61 n = some q
def sp__law_next : Sp := fun vs H Q _ => ∃ F M x p nv ns ms es ts n q, vs = [x, .ref p, nv] ∧ NxtP F H M x p nv ns ms es ts n q ∧ ∀ r H', Wf ((r, nD ((nxtN (liG ns ms es) (prc (liG ns ms es) 61) n).getD n)) :: F) H' M → Q r H'
theorem n_lnext {F : List (V × D)} {H : Hp} {M : List ME} {x : V} {p : Addr} {nv : V} {ns : List Nd} {ms : List Mv} {es ts : List Nd} {n : Nd} {q : Rat} {Q : VK} {E : XK} (h : NxtP F H M x p nv ns ms es ts n q) (k : ∀ r H', Wf ((r, nD ((nxtN (liG ns ms es) (prc (liG ns ms es) 61) n).getD n)) :: F) H' M → Q r H') : sp__law_next ([x, .ref p, nv] ++ []) H Q E := ⟨F, M, x, p, nv, ns, ms, es, ts, n, q, rfl, h, k⟩

theorem ok__law_next {f : Addr} {fd : FuncData} (F : Fun K "_law_next" "_law_next" s__law_next f fd) (B : Bn mg) (c__law_sum : Cal P wd K mg base "_law_sum" 2 ["_law_one", "_law_other"] [] sp__law_sum)  : FnOk P wd K mg base CX0 3 f fd ["_law_moves_here", "_law_prices_here", "_law_node"] sp__law_next := by
  refine F.ok sc__law_next (fun vs H Q E h => ?_) (fun cdv A outer s H vs Q E hr h => ?_)
  · obtain ⟨F, M, x, p, nv, ns, ms, es, ts, n, q, rfl, ⟨w, hx, hp, ht, hn, gok, hr', hf, hq⟩, k⟩ := h
    all_goals rfl
  · obtain ⟨F, M, x, p, nv, ns, ms, es, ts, n, q, rfl, ⟨w, hx, hp, ht, hn, gok, hr', hf, hq⟩, k⟩ := h
    refine ⟨_, (pss_cons (ps_for PassesOwn.never rfl (kpi_list (K := K) rfl (pv 0)) (kpg_tup (K := K) (n := 3) rfl rfl (pgs_cons (pg_name (i := 3) sc__law_next.nd rfl (Or.inl rfl)) (pgs_cons (pg_name (i := 4) sc__law_next.nd rfl (Or.inl rfl)) (pgs_cons (pg_name (i := 5) sc__law_next.nd rfl (Or.inl rfl)) pgs_nil)))) (pss_one (ps_if (pw_and (pt_cmpR (k_eq (K := K) rfl hr.units) (pv 3) (pv 2) (nomark _)) (pw_and (pt_cmp (pc_notN (pe_dget (hu1 hr.units) (pv 1) (pv 5) (fun _ _ => rfl)))) (pw_and1 (pt_cmpR (k_eq (K := K) rfl hr.units) (pe_cal c__law_sum (hr.mono (by decide)) (by rfl) (pa_cons (pv 4) (pa_cons (pe_dget (hu1 hr.units) (pv 1) (pv 5) (fun _ _ => rfl)) pa_nil))) (pe_dget (hu1 hr.units) (pv 1) (pv 2) (fun _ _ => rfl)) (nomark _))))).pt (pss_one (ps_ret (pv 5))) pss_nil)))
      (pss_one (ps_ret (pv 2)))), ?_⟩
    try dsimp only [cxOf, Cx.nox, Cx.wish, Cx.blk]
    rw [show L2.start (["_law_moves_here", "_law_prices_here", "_law_node", "_law_one", "_law_cost_here", "_law_after"] : List Str) [x, .ref p, nv] = [some x, some (.ref p), some nv, none, none, none] from rfl]
    wtm_at "n"
    refine n_forL w (fun i σ' F' M' => ∃ (x3 x4 x5 : Option V), σ' = [some x, some (.ref p), some nv, x3, x4, x5] ∧ F = F' ∧ M = M' ∧ (ms.take i).find? (fun m => decide (m.1 = n) && decide (addO m.2.1 (prc (liG ns ms es) 61 m.2.2) = prc (liG ns ms es) 61 n)) = none) (by rintro i σ' F' M' ⟨_, _, _, rfl, rfl, rfl, _⟩; exact hx) ⟨_, _, _, rfl, rfl, rfl, rfl⟩ ?_ ?_
    · clear w
      rintro i d z σ' H' F' M' hd ⟨x3, x4, x5, rfl, rfl, rfl, hno⟩ w
      obtain ⟨m, hm, rfl⟩ := map_get hd
      have hmm := List.mem_of_getElem? hm
      have mok := gok.m m hmm
      refine n_gtup3 (d0 := nD m.1) (d1 := frq m.2.1) (d2 := nD m.2.2) w (.mem List.mem_cons_self) fun a c e w => ?_
      wtm_at "n"
      simp only [List.set_cons_succ, List.set_cons_zero]
      have hnv : Rk F M nv (nD n) := Rk.of hn (by simp [nD])
      refine n_eq (d := nD m.1) (e := nD n) (b := decide (m.1 = n)) (j := 1) (k := 1) w (.mem (.head _)) hnv.moreF.moreF.moreF.moreF (nb_ndD _) (nb_ndD _) (by decide) (by decide) (by rw [decide_eq_true_iff]; exact ⟨fun e => by rw [e], ndD_inj⟩) ?_
      by_cases e1 : m.1 = n
      rotate_left
      · rw [decide_eq_false e1]
        wtm_at "n"
        exact ⟨_, _, ⟨_, _, _, rfl, rfl, rfl, find_snoc hno hm (by simp [e1])⟩, w.sub (fun f hf => .mem (by simp [hf])) (.refl _)⟩
      rw [decide_eq_true e1]
      have hat : m.2.2 ∈ ts := (ht _).mpr (.s hr' hf (mem_mvF.mpr (by rw [← e1]; exact hmm)))
      wtm_at "n"
      refine n_dgetT (k := ndK m.2.2) w hp (.mem (.tail _ (.tail _ (.head _)))) (tab_in (f := fun n => oqD (prc (liG ns ms es) 61 n)) hat) fun u w => ?_
      cases hpr : prc (liG ns ms es) 61 m.2.2 with
      | none =>
        rw [hpr] at w
        obtain ⟨rfl, wz⟩ := w.non0
        clear w
        have w := wz
        clear wz
        wtm_at "n"
        exact ⟨_, _, ⟨_, _, _, rfl, rfl, rfl, find_snoc hno hm (by simp [hpr, addO, hq])⟩, w.sub (fun f hf => .mem (by simp [hf])) (.refl _)⟩
      | some p' =>
        have hpz := dp_sz gok mok.b hpr
        rw [hpr] at w
        obtain ⟨pu, rfl⟩ := (show Wf ((u, .tup [.int p'.num, .int (p'.den : Int)]) :: _) _ _ from w).tup0
        wtm_at "n"
        refine n_dgetT (k := ndK m.2.2) w hp (.mem (by simp [nD, ndK, keyD])) (tab_in (f := fun n => oqD (prc (liG ns ms es) 61 n)) hat) fun u2 w => ?_
        rw [hpr] at w
        wtm_at "n"
        refine n_lsum3 (p := m.2.1) (q := p') w (.mem (by simp)) (.mem (.head _)) (mok.sz.mono (by decide) (by decide)) (hpz.mono (by decide) (by decide)) fun r H8 w => ?_
        have w : Wf ((r, frq (m.2.1 + p')) :: (e, nD m.2.2) :: F) H8 M := w.sub (KS.cons (.mem (.head _)) (KS.cons (.mem (by simp)) fun f hf => .mem (by simp [hf]))) (.refl _)
        wtm_at "n"
        refine n_dgetT (k := ndK n) w hp hnv.moreF.moreF (tab_in (f := fun n => oqD (prc (liG ns ms es) 61 n)) ((ht _).mpr hr')) fun u3 w => ?_
        rw [hq] at w
        wtm_at "n"
        refine n_eq (d := frq (m.2.1 + p')) (e := frq q) (b := decide (m.2.1 + p' = q)) (j := 1) (k := 1) w (.mem (.tail _ (.head _))) (.mem (.head _)) (NB.fr (k := 0)) (NB.fr (k := 0)) (by decide) (by decide) (by rw [decide_eq_true_iff]; exact ⟨fun e => by rw [e], frq_inj⟩) ?_
        by_cases hcq : m.2.1 + p' = q
        · rw [decide_eq_true hcq]
          wtm_at "n"
          refine k _ _ (w.sub (KS.cons ?_ fun f hf => .mem (by simp [hf])) (.refl _))
          rw [nxt_find, find_at hno hm (by simp [e1, hpr, addO, hq, hcq])]
          exact .mem (by simp)
        · rw [decide_eq_false hcq]
          wtm_at "n"
          exact ⟨_, _, ⟨_, _, _, rfl, rfl, rfl, find_snoc hno hm (by simp [e1, hpr, addO, hq, hcq])⟩, w.sub (fun f hf => .mem (by simp [hf])) (.refl _)⟩
    · clear w
      rintro σ' H' F' M' ⟨x3, x4, x5, rfl, rfl, rfl, hno⟩ w
      rw [List.length_map, List.take_length] at hno
      wtm_at "n"
      refine k _ _ (Wf.sub w (KS.cons ?_ KS.refl) (.refl _))
      rw [nxt_find, hno]
      exact hn
abbrev s__law_way : Stmt := top 44
theorem sc__law_way : FnScope ["_law_moves_here", "_law_ends_here", "_law_prices_here", "_law_nodes_here", "_law_k"] ["_law_moves_here", "_law_ends_here"] (defScope s__law_way) := ⟨rfl, rfl, rfl, by decide +kernel, rfl, by decide +kernel, by decide +kernel⟩
def sp__law_way (Pt : Addr) : Sp := fun vs H Q _ => ∃ F M x y, ∃ (ns : List Nd) (ms : List Mv) (es : List Nd), vs = [x, y] ∧ PrcP F H M Pt x y ns ms es ∧ ∀ r H', Wf ((r, wydD (liG ns ms es)) :: F) H' M → Q r H'
theorem n_lway {Pt : Addr} {F : List (V × D)} {H : Hp} {M : List ME} {x y : V} {ns : List Nd} {ms : List Mv} {es : List Nd} {Q : VK} {E : XK} (h : PrcP F H M Pt x y ns ms es) (q : ∀ r H', Wf ((r, wydD (liG ns ms es)) :: F) H' M → Q r H') : sp__law_way Pt ([x, y] ++ []) H Q E := ⟨F, M, x, y, ns, ms, es, rfl, h, q⟩

theorem ok__law_way {f : Addr} {fd : FuncData} (F : Fun K "_law_way" "_law_way" s__law_way f fd) (B : Bn mg) (c__law_prices : Cal P wd K mg base "_law_prices" 3 ["_law_moves_here", "_law_ends_here"] [] (sp__law_prices P__law_prices)) (c__law_next : Cal P wd K mg base "_law_next" 3 ["_law_moves_here", "_law_prices_here", "_law_node"] [] sp__law_next)  : FnOk P wd K mg base CX0 4 f fd ["_law_moves_here", "_law_ends_here"] (sp__law_way P__law_prices) := by
  refine F.ok sc__law_way (fun vs H Q E h => ?_) (fun cdv A outer s H vs Q E hr h => ?_)
  · obtain ⟨F, M, x, y, ns, ms, es, rfl, hp, k⟩ := h
    all_goals rfl
  · obtain ⟨F, M, x, y, ns, ms, es, rfl, hp, k⟩ := h
    refine ⟨_, (pss_cons (ps_set (i := 2) sc__law_way.nd rfl (Or.inl rfl) (pe_cal c__law_prices (hr.mono (by decide)) (by rfl) (pa_cons (pv 0) (pa_cons (pv 1) pa_nil))))
      (pss_cons (ps_if (pt_cmp (pc_isN (pe_dget (hu1 hr.units) (pv 2) (pe_tup (pa_cons pe_int (pa_cons pe_int pa_nil))) (fun _ _ => rfl)))) (pss_one (ps_ret pe_non)) pss_nil)
      (pss_cons (ps_set (i := 3) sc__law_way.nd rfl (Or.inl rfl) (pe_lst (pa_cons (pe_tup (pa_cons pe_int (pa_cons pe_int pa_nil))) pa_nil)))
      (pss_cons (ps_for PassesOwn.never rfl (pi_range1 (by rfl) B.range_ (pa_cons (pe_callB (k_len (K := K) rfl) (by rfl) B.len_ (by decide +kernel) (pa_cons (pv 0) pa_nil)) pa_nil)) (pg_name (i := 4) sc__law_way.nd rfl (Or.inl rfl)) (pss_one (ps_if (pt_cmpR (k_notinD (K := K) rfl (hu65 hr)) (pe_ix (k_ix (K := K) rfl) (pv 3) (pe_un un_neg pe_int) (fun _ _ => rfl)) (pv 1) (by with_unfolding_all rfl)) (pss_one (ps_expr (pe_bm PySem.F.plainAttrs_list PySem.F.slot_list_append PySem.F.type_list_append mt_append (pv 3) (pa_cons (pe_cal c__law_next (hr.mono (by decide)) (by rfl) (pa_cons (pv 0) (pa_cons (pv 2) (pa_cons (pe_ix (k_ix (K := K) rfl) (pv 3) (pe_un un_neg pe_int) (fun _ _ => rfl)) pa_nil)))) pa_nil)))) pss_nil)))
      (pss_one (ps_ret (pe_tup (pa_cons (pe_dget (hu1 hr.units) (pv 2) (pe_tup (pa_cons pe_int (pa_cons pe_int pa_nil))) (fun _ _ => rfl)) (pa_cons (pv 3) pa_nil))))))))), ?_⟩
    try dsimp only [cxOf, Cx.nox, Cx.wish, Cx.blk]
    have ⟨w, htb, hx, hy, gok⟩ := hp
    have ok := li_ok gok
    rw [show L2.start (["_law_moves_here", "_law_ends_here", "_law_prices_here", "_law_nodes_here", "_law_k"] : List Str) [x, y] = [some x, some y, none, none, none] from rfl]
    wtm_at "n"
    refine n_lprices hp fun p H1 ts hnd ht w => ?_
    wtm_at "n"
    rename_i ut H2 w2
    refine n_dgetT (k := ndK (0, 0)) w2 (.head _) (.mem (.head _)) (tab_in (f := fun n => oqD (prc (liG ns ms es) 61 n)) ((ht _).mpr .z)) fun u w => ?_
    cases hc : prc (liG ns ms es) 61 (0, 0) with
    | none =>
      rw [hc] at w
      obtain ⟨rfl, wz⟩ := w.non0
      wtm_at "n"
      refine k _ _ ?_
      rw [show wydD (liG ns ms es) = .non from by unfold wydD; rw [hc]]
      exact wz.sub (KS.cons .non fun f hf => .mem (by simp [hf])) (.cons _ (.refl _))
    | some c =>
      rw [hc] at w
      obtain ⟨pu, rfl⟩ := (show Wf ((u, .tup [.int c.num, .int (c.den : Int)]) :: _) _ _ from w).tup0
      have w := w.sub (F' := F) (M' := .dt p (tabN (fun n => oqD (prc (liG ns ms es) 61 n)) ts) :: M) (fun f hf => .mem (by simp [hf])) (.refl _)
      clear w2
      wtm_at "n"
      rename_i uz Hz wz pn H3 w3
      have w3 : Wf F H3 (.ml pn ([(0, 0)].map nD) :: .dt p (tabN (fun n => oqD (prc (liG ns ms es) 61 n)) ts) :: M) := w3.sub (fun f hf => .mem (by simp [hf])) (.refl _)
      clear w wz
      obtain ⟨hW1, hW2, hW3, hW4⟩ := wayN_at gok hc
      have hWp := way_pr gok hc
      have hWl := way_len gok hc
      have hWm : wydD (liG ns ms es) = .tup [frq c, .lst ((wayN (liG ns ms es) 61).map nD)] := by unfold wydD; rw [hc]
      generalize wayN (liG ns ms es) 61 = W at *
      have hg : ∀ j, j < W.length → W[j]? = some (W.getD j (0, 0)) := fun j h => by rw [List.getD_eq_getElem?_getD, List.getElem?_eq_getElem h]; rfl
      rw [List.length_map]
      have hml := gok.ml
      refine s_rng1' (by omega) (by omega) ?_
      rw [Int.toNat_natCast]
      refine n_forR w3 (fun i σ' F' M' => ∃ x4 : Option V, σ' = [some x, some y, some (.ref p), some (.ref pn), x4] ∧ F = F' ∧ M' = .ml pn ((W.take (i + 1)).map nD) :: .dt p (tabN (fun n => oqD (prc (liG ns ms es) 61 n)) ts) :: M) ⟨_, rfl, rfl, by rw [take_snoc (hg 0 (by omega)), hW3, List.take_zero]; rfl⟩ ?_ ?_
      · clear w3
        rintro i σ' H' F' M' hi ⟨x4, rfl, rfl, rfl⟩ w
        by_cases hcase : i + 1 < W.length
        · obtain ⟨hfa, hnx⟩ := hW1 i hcase
          obtain ⟨hra, qa, hqa⟩ := hWp i (by omega)
          have et := take_snoc (hg i (by omega))
          have et2 := take_snoc (hg (i + 1) (by omega))
          generalize W.getD i (0, 0) = a at *
          rw [et, List.map_append, List.map_cons, List.map_nil] at w
          wtm_at "n"
          rename_i ua wa
          refine n_notinN (n := a) (l := es) wa (.mem (.head _)) hy.more.more.moreF ?_
          rw [show decide (a ∈ es) = false from hfa]
          wtm_at "n"
          rename_i ub wb
          refine n_lnext ⟨wb, hx.more.more.moreF.moreF, .tail _ (.head _), ht, .mem (.head _), gok, hra, hfa, hqa⟩ fun r H5 w5 => ?_
          rw [hnx] at w5
          have w5 : Wf ((r, nD (W.getD (i + 1) (0, 0))) :: F) H5 (.ml pn ((W.take i).map nD ++ [nD a]) :: .dt p (tabN (fun n => oqD (prc (liG ns ms es) 61 n)) ts) :: M) := w5.sub (KS.cons (.mem (.head _)) fun f hf => .mem (by simp [hf])) (.refl _)
          clear w wa wb
          wtm_at "n"
          rename_i H6 w6
          refine ⟨F, _, ⟨_, rfl, rfl, rfl⟩, ?_⟩
          rw [et2, et, List.map_append, List.map_append]
          exact w6.sub (fun f hf => .mem (by simp [hf])) (.refl _)
        · have et := take_snoc (hg (W.length - 1) (by omega))
          rw [show W.length - 1 + 1 = W.length by omega, List.take_length] at et
          have e1 : W.take (i + 1) = W := List.take_of_length_le (by omega)
          have e2 : W.take (i + 1 + 1) = W := List.take_of_length_le (by omega)
          rw [e1] at w
          generalize W.getD (W.length - 1) (0, 0) = a at *
          have em : W.map nD = (W.take (W.length - 1)).map nD ++ [nD a] := (congrArg (List.map nD) et).trans (by rw [List.map_append]; rfl)
          have w9 : Wf F H' (.ml pn ((W.take (W.length - 1)).map nD ++ [nD a]) :: .dt p (tabN (fun n => oqD (prc (liG ns ms es) 61 n)) ts) :: M) := by
            rw [← em]
            exact w
          clear w
          wtm_at "n"
          rename_i ua wa
          refine n_notinN (n := a) (l := es) wa (.mem (.head _)) hy.more.more.moreF ?_
          rw [show decide (a ∈ es) = true from hW2]
          wtm_at "n"
          refine ⟨F, _, ⟨_, rfl, rfl, rfl⟩, ?_⟩
          rw [e2]
          rw [em]
          exact w9
      clear w3
      rintro σ' H' F' M' ⟨x4, rfl, rfl, rfl⟩ w
      rw [List.take_of_length_le (by omega)] at w
      have w := w.frzL .here
      wtm_at "n"
      rename_i uq Hq wq
      refine n_dgetT (k := ndK (0, 0)) wq (.head _) (.mem (.head _)) (tab_in (f := fun n => oqD (prc (liG ns ms es) 61 n)) ((ht _).mpr .z)) fun u w => ?_
      rw [hc] at w
      wtm_at "n"
      rename_i pt Ht wt
      refine k _ _ ?_
      rw [hWm]
      exact wt.sub (KS.cons (.mem (.head _)) fun f hf => .mem (by simp [hf])) (.cons _ (.refl _))
abbrev s__law_rows : Stmt := top 45
theorem sc__law_rows : FnScope ["_law_found", "_law_due", "_law_node"] ["_law_found", "_law_due"] (defScope s__law_rows) := ⟨rfl, rfl, rfl, by decide +kernel, rfl, by decide +kernel, by decide +kernel⟩
def sp__law_rows : Sp := fun vs H Q _ => ∃ F M u v, ∃ l : List Nd, vs = [u, v] ∧ Wf F H M ∧ Kn F u (.lst (l.map nD)) ∧ Kn F v (.lst (l.map nD)) ∧ ∀ H', Wf F H' M → Q (.bl true) H'
theorem n_lrowsD {F : List (V × D)} {H : Hp} {M : List ME} {u v : V} {l : List Nd} {Q : VK} {E : XK} (w : Wf F H M) (hu : Kn F u (.lst (l.map nD))) (hv : Kn F v (.lst (l.map nD))) (q : ∀ H', Wf F H' M → Q (.bl true) H') : sp__law_rows ([u, v] ++ []) H Q E := ⟨F, M, u, v, l, rfl, w, hu, hv, q⟩

theorem ok__law_rows {f : Addr} {fd : FuncData} (F : Fun K "_law_rows" "_law_rows" s__law_rows f fd) (B : Bn mg) (c__law_whole : Cal P wd K mg base "_law_whole" 1 ["_law_thing"] [] sp__law_whole)  : FnOk P wd K mg base CX0 2 f fd ["_law_found", "_law_due"] sp__law_rows := by
  refine F.ok sc__law_rows (fun vs H Q E h => ?_) (fun cdv A outer s H vs Q E hr h => ?_)
  · obtain ⟨F, M, u, v, l, rfl, w, hu, hv, k⟩ := h
    all_goals rfl
  · obtain ⟨F, M, u, v, l, rfl, w, hu, hv, k⟩ := h
    refine ⟨_, (pss_cons (ps_if (pw_or (pt_not (pt_val (pe_callB (k_isi (K := K) rfl) (by rfl) B.isinstance_ (by decide +kernel) (pa_cons (pv 0) (pa_cons (pe_bltn (v := .ty "list") (by rfl) B.list_ (by decide +kernel) rfl) pa_nil))))) (pw_or1 (pt_cmpR (k_ne (K := K) rfl hr.units) (pe_callB (k_len (K := K) rfl) (by rfl) B.len_ (by decide +kernel) (pa_cons (pv 0) pa_nil)) (pe_callB (k_len (K := K) rfl) (by rfl) B.len_ (by decide +kernel) (pa_cons (pv 1) pa_nil)) (nomark _)))).pt (pss_one (ps_ret pe_bl)) pss_nil)
      (pss_cons (ps_for PassesOwn.never rfl (kpi_list (K := K) rfl (pv 0)) (pg_name (i := 2) sc__law_rows.nd rfl (Or.inl rfl)) (pss_one (ps_if (pw_or (pt_not (pt_val (pe_callB (k_isi (K := K) rfl) (by rfl) B.isinstance_ (by decide +kernel) (pa_cons (pv 2) (pa_cons (pe_bltn (v := .ty "tuple") (by rfl) B.tuple_ (by decide +kernel) rfl) pa_nil))))) (pw_or (pt_cmpR (k_ne (K := K) rfl hr.units) (pe_callB (k_len (K := K) rfl) (by rfl) B.len_ (by decide +kernel) (pa_cons (pv 2) pa_nil)) pe_int (nomark _)) (pw_or (pt_not (pt_val (pe_cal c__law_whole (hr.mono (by decide)) (by rfl) (pa_cons (pe_ix (k_ix (K := K) rfl) (pv 2) pe_int (fun _ _ => rfl)) pa_nil)))) (pw_or1 (pt_not (pt_val (pe_cal c__law_whole (hr.mono (by decide)) (by rfl) (pa_cons (pe_ix (k_ix (K := K) rfl) (pv 2) pe_int (fun _ _ => rfl)) pa_nil)))))))).pt (pss_one (ps_ret pe_bl)) pss_nil)))
      (pss_one (ps_ret (pe_cmpR (k_eq (K := K) rfl hr.units) (pv 0) (pv 1) (nomark _)))))), ?_⟩
    try dsimp only [cxOf, Cx.nox, Cx.wish, Cx.blk]
    have hu' : Rk F M u (.lst (l.map nD)) := Rk.of hu (by simp)
    have hv' : Rk F M v (.lst (l.map nD)) := Rk.of hv (by simp)
    wtm_at "n"
    refine n_forL w (fun i σ' F' M' => (∃ x2, σ' = [some u, some v, x2]) ∧ F = F' ∧ M = M') (by rintro i σ' F' M' ⟨_, rfl, rfl⟩; exact hu') ⟨⟨_, rfl⟩, rfl, rfl⟩ ?_ ?_
    · clear w
      rintro i d x σ' H' F' M' hd ⟨⟨x2, rfl⟩, rfl, rfl⟩ w
      obtain ⟨m, hm, rfl⟩ := map_get hd
      have w : Wf ((x, .tup [.int m.1, .int m.2]) :: F) H' M := w
      wtm_at "n"
      exact ⟨_, _, ⟨⟨_, rfl⟩, rfl, rfl⟩, w.tail⟩
    clear w
    rintro σ' H' F' M' ⟨⟨x2, rfl⟩, rfl, rfl⟩ w
    wtm_at "n"
    refine n_eqT w hu' hv' ((NB.lst (k := 1) fun d hd => by obtain ⟨m, _, rfl⟩ := List.mem_map.mp hd; exact nb_ndD m).mono (by decide)) ?_
    exact k _ w
abbrev s__law_told : Stmt := top 46
theorem sc__law_told : FnScope ["_law_found", "_law_due"] ["_law_found", "_law_due"] (defScope s__law_told) := ⟨rfl, rfl, rfl, by decide +kernel, rfl, by decide +kernel, by decide +kernel⟩
def sp__law_told : Sp := fun vs H Q _ => ∃ F M u v, ∃ g : Wgr, vs = [u, v] ∧ Wf F H M ∧ Kn F u (wydD g) ∧ Kn F v (wydD g) ∧ (∀ c, prc g 61 (0, 0) = some c → Sz 8000 c) ∧ ∀ H', Wf F H' M → Q (.bl true) H'
theorem n_ltoldD {F : List (V × D)} {H : Hp} {M : List ME} {u v : V} {g : Wgr} {Q : VK} {E : XK} (w : Wf F H M) (hu : Kn F u (wydD g)) (hv : Kn F v (wydD g)) (hz : ∀ c, prc g 61 (0, 0) = some c → Sz 8000 c) (q : ∀ H', Wf F H' M → Q (.bl true) H') : sp__law_told ([u, v] ++ []) H Q E := ⟨F, M, u, v, g, rfl, w, hu, hv, hz, q⟩

theorem ok__law_told {f : Addr} {fd : FuncData} (F : Fun K "_law_told" "_law_told" s__law_told f fd) (B : Bn mg) (c__law_alike : Cal P wd K mg base "_law_alike" 3 ["_law_found", "_law_due"] [] sp__law_alike) (c__law_rows : Cal P wd K mg base "_law_rows" 2 ["_law_found", "_law_due"] [] sp__law_rows)  : FnOk P wd K mg base CX0 4 f fd ["_law_found", "_law_due"] sp__law_told := by
  refine F.ok sc__law_told (fun vs H Q E h => ?_) (fun cdv A outer s H vs Q E hr h => ?_)
  · obtain ⟨F, M, u, v, g, rfl, w, hu, hv, hz, k⟩ := h
    all_goals rfl
  · obtain ⟨F, M, u, v, g, rfl, w, hu, hv, hz, k⟩ := h
    refine ⟨_, (pss_cons (ps_if (pt_cmp (pc_isN (pv 1))) (pss_one (ps_ret (pe_cmp (pc_isN (pv 0))))) pss_nil)
      (pss_cons (ps_if (pw_or (pt_not (pt_val (pe_callB (k_isi (K := K) rfl) (by rfl) B.isinstance_ (by decide +kernel) (pa_cons (pv 0) (pa_cons (pe_bltn (v := .ty "tuple") (by rfl) B.tuple_ (by decide +kernel) rfl) pa_nil))))) (pw_or1 (pt_cmpR (k_ne (K := K) rfl hr.units) (pe_callB (k_len (K := K) rfl) (by rfl) B.len_ (by decide +kernel) (pa_cons (pv 0) pa_nil)) pe_int (nomark _)))).pt (pss_one (ps_ret pe_bl)) pss_nil)
      (pss_one (ps_ret (pe_and (pe_cal c__law_alike (hr.mono (by decide)) (by rfl) (pa_cons (pe_ix (k_ix (K := K) rfl) (pv 0) pe_int (fun _ _ => rfl)) (pa_cons (pe_ix (k_ix (K := K) rfl) (pv 1) pe_int (fun _ _ => rfl)) pa_nil))) (pe_one (pe_cal c__law_rows (hr.mono (by decide)) (by rfl) (pa_cons (pe_ix (k_ix (K := K) rfl) (pv 0) pe_int (fun _ _ => rfl)) (pa_cons (pe_ix (k_ix (K := K) rfl) (pv 1) pe_int (fun _ _ => rfl)) pa_nil))))))))), ?_⟩
    try dsimp only [cxOf, Cx.nox, Cx.wish, Cx.blk]
    cases hc : prc g 61 (0, 0) with
    | none =>
      have e : wydD g = .non := by unfold wydD; rw [hc]
      rw [e] at hu hv
      obtain rfl : u = .non := (w.add hu).non0.1
      obtain rfl : v = .non := (w.add hv).non0.1
      wtm_at "n"
      exact k _ w
    | some c =>
      have e : wydD g = .tup [frq c, .lst ((wayN g 61).map nD)] := by unfold wydD; rw [hc]
      rw [e] at hu hv
      obtain ⟨pu, rfl⟩ := (w.add hu).tup0
      obtain ⟨pv, rfl⟩ := (w.add hv).tup0
      have hu' : Rk F M (.ref pu) (.tup [frq c, .lst ((wayN g 61).map nD)]) := Rk.of hu (by simp)
      have hv' : Rk F M (.ref pv) (.tup [frq c, .lst ((wayN g 61).map nD)]) := Rk.of hv (by simp)
      wtm_at "n"
      rename_i u1 w1 u2 w2
      refine n_lalikeO (o := some c) w2 (.mem (by simp [shD])) (.mem (by simp [shD])) (fun q hq => by cases hq; exact hz c hc) fun H3 w => ?_
      wtm_at "n"
      rename_i u3 w3 u4 w4
      refine n_lrowsD w4 (.mem (.tail _ (.head _))) (.mem (.head _)) fun H5 w => ?_
      exact k _ (w.sub (fun f hf => .mem (by simp [hf])) (.refl _))
def tabOf (o : Obj) : Option Addr := match o with
  | ⟨_, _, .fields vs, _⟩ => (match (vs[11]? : Option Value) with
    | some (.ref P) => some P
    | _ => none)
  | _ => none
theorem tabIn_of {K : PySem.W.Frag} {x : Str} {f c Pt : Addr} {oc : Value} {od : Option Addr} {fd : FuncData} {sl : Array (Option Value)} {ob : Obj} (ha : PySem.W.nsIn K mainGlobals x = some (some (.ref f))) (hl : K.lookup f = some ⟨oc, od, .func fd, sl⟩) (hc : fd.code = .ref c) (lc : K.lookup c = some ob) (tv : tabOf ob = some Pt) : PySem.W.tabIn K x = some (c, Pt) := by
  unfold PySem.W.tabIn
  rw [ha]
  dsimp only
  rw [hl]
  dsimp only
  rw [hc]
  dsimp only
  rw [lc]
  obtain ⟨o1, o2, o3, o4⟩ := ob
  unfold tabOf at tv
  cases o3 with
  | fields vs =>
    dsimp only at tv ⊢
    split at tv
    · rename_i P2 hv
      rw [hv]
      cases tv
      rfl
    · cases tv
  | _ => cases tv
def sp_law (K : PySem.W.Frag) (Ps : List Addr) : Sp := fun vs H Q _ => ∃ a, ∃ ns : List Int, vs = [.ref a] ∧ SqL K H a (ns.map V.int) ∧ (∀ p ∈ Ps, H p = some (.tbl #[])) ∧ Ps.Nodup ∧ ns.length ≤ 63 ∧ (∀ z ∈ ns, Builtin.Int.intBits z ≤ 1048576) ∧ ∀ H', Q (.bl true) H'

abbrev s_law : Stmt := top 47
theorem sc_law : FnScope ["_law_script", "_law_bag_here", "_law_nodes_here", "_law_moves_here", "_law_ends_here", "_law_due", "_law_back", "_law_other_due", "_law_ways", "_law_others", "_law_found", "_law_kept", "_law_again"] ["_law_script"] (defScope s_law) := ⟨rfl, rfl, rfl, by decide +kernel, rfl, by decide +kernel, by decide +kernel⟩
theorem WO.kn {F F2 : List (V × D)} {M2 : List ME} {C : Addr} {po : Addr} {g : Wgr} {U : List Nd} {N : Nat} (h : ∃ ns ms es, (V.ref po, liO C ms es) ∈ F ∧ GrOk ns ms es ∧ g = liG ns ms es ∧ U = ns ∧ N = 61) (k : ∀ f ∈ F, f ∈ F2) : WO C F2 M2 (.ref po) g U N := by
  obtain ⟨ns, ms, es, a, b⟩ := h
  exact ⟨ns, ms, es, .mem (k _ a), b⟩
theorem n_bagW {K : PySem.W.Frag} {F : List (V × D)} {H : Hp} {M : List ME} {a : Addr} {ns : List Int} {Q : VK} {E : XK} (w : Wf F H M) (hS : SqL K H a (ns.map V.int)) (q : ∀ p H', Wf F H' (.bag p :: M) → Q (.ref p) H') : sp__law_bag K ([.ref a] ++ []) H Q E := by
  obtain ⟨I, Mc, w, ac, hF⟩ := w.ex
  exact ⟨I, Mc, a, ns, rfl, w, hS, fun p c o J H' s w' hb => q p H' ⟨J, _, w', .cons (.bag hb) (ac.mono s), fun f hf => (hF f hf).mono s⟩⟩
theorem n_wayD {C : Addr} {F : List (V × D)} {H : Hp} {M : List ME} {x : V} {ns : List Nd} {ms : List Mv} {es : List Nd} {Q : VK} {E : XK} (w : Wf F H M) (h : WO C F M x (liG ns ms es) ns 61) (q : ∀ r H', Wf ((r, wydD (liG ns ms es)) :: F) H' M → Q r H') : sp_way_of C ([x] ++ []) H Q E :=
  n_wayof w h (fun H' hc w => q _ _ (w.add (by rw [show wydD (liG ns ms es) = .non from by unfold wydD; rw [hc]]; exact .non))) fun r p H' c hc w => q _ _ (by
    rw [show wydD (liG ns ms es) = .tup [frq c, .lst ((wayN (liG ns ms es) 61).map nD)] from by unfold wydD; rw [hc]]
    have w := w.frzL .here
    exact (w.upDp (.mem (.tail _ (.head _))) (.mem (.head _))).sub (KS.cons (.mem (.head _)) fun f hf => .mem (by simp [hf])) (.refl _))
theorem n_ltoldP {F : List (V × D)} {H : Hp} {M : List ME} {u v : V} {g : Wgr} {Q : VK} {E : XK} (w : Wf F H M) (hu : Is H u (wydD g)) (hv : Is H v (wydD g)) (hz : ∀ c, prc g 61 (0, 0) = some c → Sz 8000 c) (q : ∀ H', Wf F H' M → Q (.bl true) H') : sp__law_told ([u, v] ++ []) H Q E :=
  ⟨(.non, .fact fun _ J => J = H) :: [(u, wydD g), (v, wydD g)], [], u, v, g, rfl, Wf.pureD (fun f hf => by
    simp only [List.mem_cons, List.not_mem_nil, or_false] at hf
    rcases hf with rfl | rfl
    · exact hu
    · exact hv), .mem (.tail _ (.head _)), .mem (.tail _ (.tail _ (.head _))), hz, fun H' w' => q H' (w.more w'.unpureD)⟩
theorem nb_oq (o : Option Rat) : NB 60 (oqD o) := by
  cases o with
  | none => exact .non
  | some q => exact (NB.fr (k := 0)).mono (by decide)

theorem ok_law {f : Addr} {fd : FuncData} (F : Fun K "law" "law" s_law f fd) (B : Bn mg) (c__law_bag : Cal P wd K mg base "_law_bag" 1 ["_law_script"] [] (sp__law_bag K)) (c__law_graph : Cal P wd K mg base "_law_graph" 5 ["_law_bag_here"] [] sp__law_graph) (c__law_way : Cal P wd K mg base "_law_way" 4 ["_law_moves_here", "_law_ends_here"] [] (sp__law_way P__law_prices)) (c__law_take : Cal P wd K mg base "_law_take" 1 ["_law_bag_here", "_law_many"] [] sp__law_take) (c_prices_of : Cal P wd K mg base "prices_of" 6 ["ways"] [] (sp_prices_of C_Listed)) (c__law_prices : Cal P wd K mg base "_law_prices" 3 ["_law_moves_here", "_law_ends_here"] [] (sp__law_prices P__law_prices)) (c_way_of : Cal P wd K mg base "way_of" 6 ["ways"] [] (sp_way_of C_Listed)) (c__law_told : Cal P wd K mg base "_law_told" 4 ["_law_found", "_law_due"] [] sp__law_told) (m_Listed : Mak P wd K mg base "Listed" C_Listed 4 ["self", "moves", "ends"] [] (sp_Listed___init__ C_Listed)) (o_Listed : OwnC K C_Listed) (n_Listed : ∀ f ∈ (["moves", "ends", "shelf"] : List Str), NoAttr K C_Listed f)  : FnOk P wd K mg base CX0 7 f fd ["_law_script"] (sp_law K [P__law_prices]) := by
  refine F.ok sc_law (fun vs H Q E h => ?_) (fun cdv A outer s H vs Q E hr h => ?_)
  · obtain ⟨a, ns0, rfl, hS, hT, hnd, hl0, hbits, k⟩ := h
    all_goals rfl
  · obtain ⟨a, ns0, rfl, hS, hT, hnd, hl0, hbits, k⟩ := h
    refine ⟨_, (pss_cons (ps_set (i := 1) sc_law.nd rfl (Or.inl rfl) (pe_cal c__law_bag (hr.mono (by decide)) (by rfl) (pa_cons (pv 0) pa_nil)))
      (pss_cons (ps_asg (pe_cal c__law_graph (hr.mono (by decide)) (by rfl) (pa_cons (pv 1) pa_nil)) (kpg_tup (K := K) (n := 3) rfl rfl (pgs_cons (pg_name (i := 2) sc_law.nd rfl (Or.inl rfl)) (pgs_cons (pg_name (i := 3) sc_law.nd rfl (Or.inl rfl)) (pgs_cons (pg_name (i := 4) sc_law.nd rfl (Or.inl rfl)) pgs_nil)))))
      (pss_cons (ps_set (i := 5) sc_law.nd rfl (Or.inl rfl) (pe_cal c__law_way (hr.mono (by decide)) (by rfl) (pa_cons (pv 3) (pa_cons (pv 4) pa_nil))))
      (pss_cons (ps_set (i := 6) sc_law.nd rfl (Or.inl rfl) (pe_revL (pv 3)))
      (pss_cons (ps_set (i := 7) sc_law.nd rfl (Or.inl rfl) (pe_cal c__law_way (hr.mono (by decide)) (by rfl) (pa_cons (pv 6) (pa_cons (pv 4) pa_nil))))
      (pss_cons (ps_set (i := 8) sc_law.nd rfl (Or.inl rfl) (pe_mk m_Listed (hr.mono (by decide)) rfl (pa_cons (pe_callTy (k_list (K := K) rfl) (by rfl) B.list_ (by decide +kernel) (pa_cons (pv 3) pa_nil)) (pa_cons (pe_callTy (k_list (K := K) rfl) (by rfl) B.list_ (by decide +kernel) (pa_cons (pv 4) pa_nil)) pa_nil))))
      (pss_cons (ps_set (i := 9) sc_law.nd rfl (Or.inl rfl) (pe_mk m_Listed (hr.mono (by decide)) rfl (pa_cons (pe_callTy (k_list (K := K) rfl) (by rfl) B.list_ (by decide +kernel) (pa_cons (pv 6) pa_nil)) (pa_cons (pe_callTy (k_list (K := K) rfl) (by rfl) B.list_ (by decide +kernel) (pa_cons (pv 4) pa_nil)) pa_nil))))
      (pss_cons (ps_if (pw_and (pt_cmpR (k_eq (K := K) rfl hr.units) (pe_cal c__law_take (hr.mono (by decide)) (by rfl) (pa_cons (pv 1) (pa_cons pe_int pa_nil))) pe_int (nomark _)) (pw_and1 (pt_cmpR (k_neT (K := K) rfl (hu66 hr)) (pe_cal c_prices_of (hr.mono (by decide)) (by rfl) (pa_cons (pv 9) pa_nil)) (pe_cal c__law_prices (hr.mono (by decide)) (by rfl) (pa_cons (pv 3) (pa_cons (pv 4) pa_nil))) (nomark _)))).pt (pss_one (ps_ret pe_bl)) pss_nil)
      (pss_cons (ps_set (i := 10) sc_law.nd rfl (Or.inl rfl) (pe_cal c_way_of (hr.mono (by decide)) (by rfl) (pa_cons (pv 8) pa_nil)))
      (pss_cons (ps_if (pw_or (pt_not (pt_val (pe_cal c__law_told (hr.mono (by decide)) (by rfl) (pa_cons (pv 10) (pa_cons (pv 5) pa_nil))))) (pw_or1 (pt_not (pt_val (pe_cal c__law_told (hr.mono (by decide)) (by rfl) (pa_cons (pe_cal c_way_of (hr.mono (by decide)) (by rfl) (pa_cons (pv 9) pa_nil)) (pa_cons (pv 7) pa_nil))))))).pt (pss_one (ps_ret pe_bl)) pss_nil)
      (pss_cons (ps_if (pt_cmp (pc_notN (pv 10))) (pss_cons (ps_set (i := 11) sc_law.nd rfl (Or.inl rfl) (pe_callTy (k_list (K := K) rfl) (by rfl) B.list_ (by decide +kernel) (pa_cons (pe_ix (k_ix (K := K) rfl) (pv 10) pe_int (fun _ _ => rfl)) pa_nil)))
      (pss_cons (ps_set (i := 12) sc_law.nd rfl (Or.inl rfl) (pe_cal c_way_of (hr.mono (by decide)) (by rfl) (pa_cons (pv 8) pa_nil)))
      (pss_cons (ps_if (pt_not (pt_val (pe_cal c__law_told (hr.mono (by decide)) (by rfl) (pa_cons (pv 12) (pa_cons (pv 5) pa_nil))))) (pss_one (ps_ret pe_bl)) pss_nil)
      (pss_cons (ps_expr (pe_bm PySem.F.plainAttrs_list PySem.F.slot_list_append PySem.F.type_list_append mt_append (pe_ix (k_ix (K := K) rfl) (pv 12) pe_int (fun _ _ => rfl)) (pa_cons (pe_tup (pa_cons pe_int (pa_cons pe_int pa_nil))) pa_nil)))
      (pss_cons (ps_asg (pe_tup (pa_cons pe_int (pa_cons pe_int pa_nil))) (pg_sub (pe_ix (k_ix (K := K) rfl) (pv 12) pe_int (fun _ _ => rfl)) pe_int set_list))
      (pss_one (ps_if (pt_cmpR (k_neT (K := K) rfl (hu66 hr)) (pe_ix (k_ix (K := K) rfl) (pv 10) pe_int (fun _ _ => rfl)) (pv 11) (nomark _)) (pss_one (ps_ret pe_bl)) pss_nil))))))) pss_nil)
      (pss_cons (ps_if (pt_cmpR (k_neT (K := K) rfl (hu66 hr)) (pe_cal c_prices_of (hr.mono (by decide)) (by rfl) (pa_cons (pv 8) pa_nil)) (pe_cal c__law_prices (hr.mono (by decide)) (by rfl) (pa_cons (pv 3) (pa_cons (pv 4) pa_nil))) (nomark _)) (pss_one (ps_ret pe_bl)) pss_nil)
      (pss_one (ps_ret (pe_and (pe_cal c__law_told (hr.mono (by decide)) (by rfl) (pa_cons (pe_cal c_way_of (hr.mono (by decide)) (by rfl) (pa_cons (pv 8) pa_nil)) (pa_cons (pv 5) pa_nil))) (pe_one (pe_cal c__law_told (hr.mono (by decide)) (by rfl) (pa_cons (pe_cal c_way_of (hr.mono (by decide)) (by rfl) (pa_cons (pv 9) pa_nil)) (pa_cons (pv 7) pa_nil))))))))))))))))))), ?_⟩
    try dsimp only [cxOf, Cx.nox, Cx.wish, Cx.blk]
    have w0 : Wf [] H [.tb P__law_prices ("_law_prices.<locals>." ++ "<lambda>")] := Wf.tbs [(P__law_prices, ("_law_prices.<locals>." ++ "<lambda>"))] hnd (fun p hp => hT _ (by
      simp only [List.mem_cons, List.not_mem_nil, or_false] at hp ⊢
      subst hp
      rfl))
    rw [show L2.start (["_law_script", "_law_bag_here", "_law_nodes_here", "_law_moves_here", "_law_ends_here", "_law_due", "_law_back", "_law_other_due", "_law_ways", "_law_others", "_law_found", "_law_kept", "_law_again"] : List Str) [.ref a] = [some (.ref a), none, none, none, none, none, none, none, none, none, none, none, none] from rfl]
    wtm_at "n"
    refine n_bagW w0 hS fun b H0 w => ?_
    clear w0
    wtm_at "n"
    refine n_lgraph w (by simp) fun rg H1 ns ms es gok w => ?_
    wtm_at "n"
    rename_i un um ue wx
    have gokr := gok.rev
    have w9 : Wf [(um, .lst (ms.map mvD)), (ue, .lst (es.map nD))] H1 [.bag b, .tb P__law_prices ("_law_prices.<locals>." ++ "<lambda>")] := wx.sub (KS.cons (.mem (by simp)) (KS.cons (.mem (by simp)) KS.nil)) (.refl _)
    clear w wx
    have w := w9
    clear w9
    refine n_lway ⟨w, .tail _ (.head _), .mem (.head _), .mem (.tail _ (.head _)), gok⟩ fun ud H2 w => ?_
    wtm_at "n"
    rename_i pb H3 w3
    rw [← List.map_reverse] at w3
    have w := w3.frzL .here
    clear w3
    refine n_lway ⟨w, .tail _ (.head _), .mem (.head _), .mem (by simp), gokr⟩ fun uo H4 w => ?_
    wtm_at "n"
    rename_i p1 Hp1 wp1 p2 Hp2 wp2
    refine n_mkLi (C := C_Listed) (ns := ns) (ms := ms) (es := es) wp2 (.ml (by simp)) (.ml (by simp)) gok fun po H5 w => ?_
    clear wp1 wp2
    wtm_at "n"
    rename_i p3 Hp3 wp3 p4 Hp4 wp4
    refine n_mkLi (C := C_Listed) (ns := ns) (ms := ms.reverse) (es := es) wp4 (.ml (by simp)) (.ml (by simp)) gokr fun pq H6 w => ?_
    clear wp3 wp4
    obtain ⟨F9, eF9⟩ : ∃ F9, F9 = [(V.ref pq, liO C_Listed ms.reverse es), (V.ref po, liO C_Listed ms es), (uo, wydD (liG ns ms.reverse es)), (ud, wydD (liG ns ms es)), (um, .lst (ms.map mvD)), (ue, .lst (es.map nD))] := ⟨_, rfl⟩
    have w9 : Wf F9 H6 [.bag b, .tb P__law_prices ("_law_prices.<locals>." ++ "<lambda>")] := by
      rw [eF9]
      exact w.sub (fun f hf => .mem (by simp only [List.mem_cons, List.not_mem_nil, or_false] at hf ⊢; rcases hf with h | h | h | h | h | h <;> simp [h])) (by ktf_call "sl")
    clear w
    have w := w9
    clear w9
    have hum : (um, D.lst (ms.map mvD)) ∈ F9 := by rw [eF9]; simp
    have hue : (ue, D.lst (es.map nD)) ∈ F9 := by rw [eF9]; simp
    have hud : (ud, wydD (liG ns ms es)) ∈ F9 := by rw [eF9]; simp
    have huo : (uo, wydD (liG ns ms.reverse es)) ∈ F9 := by rw [eF9]; simp
    have hwo : ∀ {F2 : List (V × D)} {M2 : List ME}, (∀ f ∈ F9, f ∈ F2) → WO C_Listed F2 M2 (.ref po) (liG ns ms es) ns 61 := fun h => WO.kn ⟨ns, ms, es, by rw [eF9]; simp, gok, rfl, rfl, rfl⟩ h
    have hwq : ∀ {F2 : List (V × D)} {M2 : List ME}, (∀ f ∈ F9, f ∈ F2) → WO C_Listed F2 M2 (.ref pq) (liG ns ms.reverse es) ns 61 := fun h => WO.kn ⟨ns, ms.reverse, es, by rw [eF9]; simp, gokr, rfl, rfl, rfl⟩ h
    have hz : ∀ c, prc (liG ns ms es) 61 (0, 0) = some c → Sz 8000 c := fun c hc => (dp_sz gok gok.n.z0 hc).sz (by decide) (by decide)
    have hzr : ∀ c, prc (liG ns ms.reverse es) 61 (0, 0) = some c → Sz 8000 c := fun c hc => (dp_sz gokr gok.n.z0 hc).sz (by decide) (by decide)
    clear eF9
    wtm_at "sq2"
    simp only [List.set_cons_succ, List.set_cons_zero]
    with_reducible refine s_midW (fun σ' H' => σ' = [some (.ref a), some (.ref b), some un, some um, some ue, some ud, some (.ref pb), some uo, some (.ref po), some (.ref pq), none, none, none] ∧ Wf F9 H' [.bag b, .tb P__law_prices ("_law_prices.<locals>." ++ "<lambda>")]) ?_ (fun N fin => ?_)
    rotate_left
    · wtm_at "n"
      refine n_take w (by simp) (by omega) (by omega) fun c1 H7 c10 c11 w => ?_
      wtm_at "n"
      by_cases h1 : c1 = 0
      · wtm_at "no"
        refine n_prices w (hwq fun f hf => hf) fun pt H8 ts htd htr w => ?_
        wtm_at "n"
        refine n_lprices ⟨w, by simp, .mem hum, .mem hue, gok⟩ fun pu H9 us hud' hur w => ?_
        wtm_at "n"
        simp only [prc_rev] at w
        obtain ⟨e1, e2⟩ := tab_same (f := fun n => oqD (prc (liG ns ms es) 61 n)) htd hud' fun n => by rw [htr, hur, reach_rev]
        refine n_neDT w (.tail _ (.head _)) (.head _) e1 e2 (fun kv hk => by obtain ⟨n, _, rfl⟩ := List.mem_map.mp hk; exact nb_oq _) ?_
        wtm_at "n"
        exact fin _ _ ⟨rfl, w.sub (fun f hf => .mem hf) (.cons _ (.cons _ (.refl _)))⟩
      · wtm_at "no"
        exact fin _ _ ⟨rfl, w⟩
    clear w
    rintro σ' H7 ⟨rfl, w⟩
    wtm_at "n"
    refine n_wayD w (hwo fun f hf => hf) fun uf H8 w => ?_
    wtm_at "sq2"
    simp only [List.set_cons_succ, List.set_cons_zero]
    have hTold : ∀ {F2 : List (V × D)} {M2 : List ME} {H2 : Hp} {u : V} {Q' : VK} {E' : XK}, Wf F2 H2 M2 → Kn F2 u (wydD (liG ns ms es)) → (∀ f ∈ F9, f ∈ F2) → (∀ H', Wf F2 H' M2 → Q' (.bl true) H') → sp__law_told ([u, ud] ++ []) H2 Q' E' := fun w h1 h2 h3 => n_ltoldD w h1 (.mem (h2 _ hud)) hz h3
    have hToldR : ∀ {F2 : List (V × D)} {M2 : List ME} {H2 : Hp} {u : V} {Q' : VK} {E' : XK}, Wf F2 H2 M2 → Kn F2 u (wydD (liG ns ms.reverse es)) → (∀ f ∈ F9, f ∈ F2) → (∀ H', Wf F2 H' M2 → Q' (.bl true) H') → sp__law_told ([u, uo] ++ []) H2 Q' E' := fun w h1 h2 h3 => n_ltoldD w h1 (.mem (h2 _ huo)) hzr h3
    wtm_at "n"
    refine hTold w (.mem (.head _)) (fun f hf => by simp [hf]) fun H9 w => ?_
    wtm_at "n"
    refine n_wayD w (hwq fun f hf => by simp [hf]) fun ur H10 w => ?_
    wtm_at "n"
    refine hToldR w (.mem (.head _)) (fun f hf => by simp [hf]) fun H11 w => ?_
    have w := w.tail
    wtm_at "sq2"
    with_reducible refine s_midW (fun σ' H' => ∃ x11 x12 : Option V, σ' = [some (.ref a), some (.ref b), some un, some um, some ue, some ud, some (.ref pb), some uo, some (.ref po), some (.ref pq), some uf, x11, x12] ∧ Wf F9 H' [.bag b, .tb P__law_prices ("_law_prices.<locals>." ++ "<lambda>")]) ?_ (fun N fin => ?_)
    rotate_left
    · wtm_at "n"
      cases hc : prc (liG ns ms es) 61 (0, 0) with
      | none =>
        rw [show wydD (liG ns ms es) = .non from by unfold wydD; rw [hc]] at w
        obtain ⟨rfl, wz⟩ := w.non0
        clear w
        wtm_at "n"
        exact fin _ _ ⟨_, _, rfl, wz⟩
      | some c =>
        have ewd : wydD (liG ns ms es) = .tup [frq c, .lst ((wayN (liG ns ms es) 61).map nD)] := by unfold wydD; rw [hc]
        rw [ewd] at w
        obtain ⟨pf, rfl⟩ := w.tup0
        wtm_at "n"
        rename_i u1 w1 pk H12 w2
        clear w w1
        refine n_wayof w2 (hwo fun f hf => by simp [hf]) (fun H' hc2 _ => absurd (hc.symm.trans hc2) (by simp)) fun ra pa H13 c2 hc2 w => ?_
        obtain rfl : c = c2 := Option.some.inj (hc.symm.trans hc2)
        clear w2
        wtm_at "n"
        refine n_ltoldP (g := liG ns ms es) w (by rw [ewd]; exact w.deepQ (.mem (.head _)) (.head _)) (w.rd (.mem (by simp [hud]))) hz fun H14 w => ?_
        wtm_at "n"
        rename_i ut Ht wt
        have hwl := way_len gok hc
        have hml := gok.ml
        refine n_app (ds := (wayN (liG ns ms es) 61).map nD) (d := nD (1, 1)) wt .here (.mem (.head _)) (by rw [List.length_map]; omega) fun H15 w => ?_
        clear wt
        wtm_at "n"
        rename_i uz Hz wz
        refine n_set (j := 0) (d := nD (0, 7)) wz .here (.mem (.head _)) (by simp [ixN]) fun H16 w => ?_
        clear wz
        wtm_at "n"
        rename_i uy wy
        refine .inl (n_neT (d := .lst ((wayN (liG ns ms es) 61).map nD)) wy (.mem (.head _)) (.ml (.tail _ (.head _))) ((NB.lst (k := 1) fun d hd => by obtain ⟨m, _, rfl⟩ := List.mem_map.mp hd; exact nb_ndD m).mono (by decide)) ?_)
        wtm_at "n"
        exact fin _ _ ⟨_, _, rfl, wy.sub (fun f hf => .mem (by simp [hf])) (.cons _ (.cons _ (.refl _)))⟩
    clear w
    rintro σ' H12 ⟨x11, x12, rfl, w⟩
    wtm_at "n"
    refine n_prices w (hwo fun f hf => hf) fun pt H13 ts htd htr w => ?_
    wtm_at "n"
    refine n_lprices ⟨w, by simp, .mem hum, .mem hue, gok⟩ fun pu H14 us hud' hur w => ?_
    wtm_at "n"
    obtain ⟨e1, e2⟩ := tab_same (f := fun n => oqD (prc (liG ns ms es) 61 n)) htd hud' fun n => by rw [htr, hur]
    refine n_neDT w (.tail _ (.head _)) (.head _) e1 e2 (fun kv hk => by obtain ⟨n, _, rfl⟩ := List.mem_map.mp hk; exact nb_oq _) ?_
    wtm_at "n"
    refine n_wayD w (hwo fun f hf => hf) fun uf2 H15 w => ?_
    wtm_at "n"
    refine hTold w (.mem (.head _)) (fun f hf => by simp [hf]) fun H16 w => ?_
    wtm_at "n"
    refine n_wayD w (hwq fun f hf => by simp [hf]) fun ur H17 w => ?_
    wtm_at "n"
    refine hToldR w (.mem (.head _)) (fun f hf => by simp [hf]) fun H18 w => ?_
    exact k _
end
theorem all_mk {l : PySem.W.OpenLaw} {w : World} {K : PySem.W.Frag} {h : Heap} {mg : Str → Option Value} {fa : Addr} (X : K.In h) (G : h.Ns mainGlobals mg) (hfa : mg "law" = some (.ref fa))
    {f_is_whole : Addr} {od_is_whole an_is_whole : Option Addr} {sl_is_whole : Array (Option Value)} {oc_is_whole kV_is_whole dc_is_whole pm_is_whole cd_is_whole ct_is_whole : Value}
    (a_is_whole : PySem.W.nsIn K mainGlobals "is_whole" = some (some (.ref f_is_whole)))
    (l_is_whole : K.lookup f_is_whole = some ⟨oc_is_whole, od_is_whole, .func (PySem.W.fnOf "is_whole" "is_whole" (defArgs s_is_whole) (defBody s_is_whole) (defScope s_is_whole) .none kV_is_whole dc_is_whole pm_is_whole an_is_whole cd_is_whole ct_is_whole), sl_is_whole⟩)
    (cc_is_whole : PySem.W.codeIn K cd_is_whole "is_whole" = true) (k_is_whole : PySem.W.keepIn K (.ref f_is_whole) = true)
    {f_divisor : Addr} {od_divisor an_divisor : Option Addr} {sl_divisor : Array (Option Value)} {oc_divisor kV_divisor dc_divisor pm_divisor cd_divisor ct_divisor : Value}
    (a_divisor : PySem.W.nsIn K mainGlobals "divisor" = some (some (.ref f_divisor)))
    (l_divisor : K.lookup f_divisor = some ⟨oc_divisor, od_divisor, .func (PySem.W.fnOf "divisor" "divisor" (defArgs s_divisor) (defBody s_divisor) (defScope s_divisor) .none kV_divisor dc_divisor pm_divisor an_divisor cd_divisor ct_divisor), sl_divisor⟩)
    (cc_divisor : PySem.W.codeIn K cd_divisor "divisor" = true) (k_divisor : PySem.W.keepIn K (.ref f_divisor) = true)
    {f_is_fraction : Addr} {od_is_fraction an_is_fraction : Option Addr} {sl_is_fraction : Array (Option Value)} {oc_is_fraction kV_is_fraction dc_is_fraction pm_is_fraction cd_is_fraction ct_is_fraction : Value}
    (a_is_fraction : PySem.W.nsIn K mainGlobals "is_fraction" = some (some (.ref f_is_fraction)))
    (l_is_fraction : K.lookup f_is_fraction = some ⟨oc_is_fraction, od_is_fraction, .func (PySem.W.fnOf "is_fraction" "is_fraction" (defArgs s_is_fraction) (defBody s_is_fraction) (defScope s_is_fraction) .none kV_is_fraction dc_is_fraction pm_is_fraction an_is_fraction cd_is_fraction ct_is_fraction), sl_is_fraction⟩)
    (cc_is_fraction : PySem.W.codeIn K cd_is_fraction "is_fraction" = true) (k_is_fraction : PySem.W.keepIn K (.ref f_is_fraction) = true)
    {T_fraction : Addr} {to_fraction : Value} {td_fraction : Option Addr} {tn_fraction : Nat} {ts_fraction : Array (Option Value)} {tk_fraction_0 : Tok}
    {f_fraction : Addr} {od_fraction an_fraction : Option Addr} {sl_fraction : Array (Option Value)} {oc_fraction kV_fraction dc_fraction pm_fraction cd_fraction ct_fraction : Value}
    (a_fraction : PySem.W.nsIn K mainGlobals "fraction" = some (some (.ref f_fraction)))
    (l_fraction : K.lookup f_fraction = some ⟨oc_fraction, od_fraction, .func (PySem.W.fnOf "fraction" "fraction" (defArgs s_fraction) (defBody s_fraction) (defScope s_fraction) (.ref T_fraction) kV_fraction dc_fraction pm_fraction an_fraction cd_fraction ct_fraction), sl_fraction⟩)
    (cc_fraction : PySem.W.codeIn K cd_fraction "fraction" = true) (k_fraction : PySem.W.keepIn K (.ref f_fraction) = true)
    (dt_fraction : K.lookup T_fraction = some ⟨to_fraction, td_fraction, .seq [Value.int 1 tk_fraction_0].toArray tn_fraction, ts_fraction⟩)
    {f_plus : Addr} {od_plus an_plus : Option Addr} {sl_plus : Array (Option Value)} {oc_plus kV_plus dc_plus pm_plus cd_plus ct_plus : Value}
    (a_plus : PySem.W.nsIn K mainGlobals "plus" = some (some (.ref f_plus)))
    (l_plus : K.lookup f_plus = some ⟨oc_plus, od_plus, .func (PySem.W.fnOf "plus" "plus" (defArgs s_plus) (defBody s_plus) (defScope s_plus) .none kV_plus dc_plus pm_plus an_plus cd_plus ct_plus), sl_plus⟩)
    (cc_plus : PySem.W.codeIn K cd_plus "plus" = true) (k_plus : PySem.W.keepIn K (.ref f_plus) = true)
    {f_is_below : Addr} {od_is_below an_is_below : Option Addr} {sl_is_below : Array (Option Value)} {oc_is_below kV_is_below dc_is_below pm_is_below cd_is_below ct_is_below : Value}
    (a_is_below : PySem.W.nsIn K mainGlobals "is_below" = some (some (.ref f_is_below)))
    (l_is_below : K.lookup f_is_below = some ⟨oc_is_below, od_is_below, .func (PySem.W.fnOf "is_below" "is_below" (defArgs s_is_below) (defBody s_is_below) (defScope s_is_below) .none kV_is_below dc_is_below pm_is_below an_is_below cd_is_below ct_is_below), sl_is_below⟩)
    (cc_is_below : PySem.W.codeIn K cd_is_below "is_below" = true) (k_is_below : PySem.W.keepIn K (.ref f_is_below) = true)
    {f_look_list : Addr} {od_look_list an_look_list : Option Addr} {sl_look_list : Array (Option Value)} {oc_look_list kV_look_list dc_look_list pm_look_list cd_look_list ct_look_list : Value}
    (a_look_list : PySem.W.nsIn K mainGlobals "look_list" = some (some (.ref f_look_list)))
    (l_look_list : K.lookup f_look_list = some ⟨oc_look_list, od_look_list, .func (PySem.W.fnOf "look_list" "look_list" (defArgs s_look_list) (defBody s_look_list) (defScope s_look_list) .none kV_look_list dc_look_list pm_look_list an_look_list cd_look_list ct_look_list), sl_look_list⟩)
    (cc_look_list : PySem.W.codeIn K cd_look_list "look_list" = true) (k_look_list : PySem.W.keepIn K (.ref f_look_list) = true)
    {f_is_node : Addr} {od_is_node an_is_node : Option Addr} {sl_is_node : Array (Option Value)} {oc_is_node kV_is_node dc_is_node pm_is_node cd_is_node ct_is_node : Value}
    (a_is_node : PySem.W.nsIn K mainGlobals "is_node" = some (some (.ref f_is_node)))
    (l_is_node : K.lookup f_is_node = some ⟨oc_is_node, od_is_node, .func (PySem.W.fnOf "is_node" "is_node" (defArgs s_is_node) (defBody s_is_node) (defScope s_is_node) .none kV_is_node dc_is_node pm_is_node an_is_node cd_is_node ct_is_node), sl_is_node⟩)
    (cc_is_node : PySem.W.codeIn K cd_is_node "is_node" = true) (k_is_node : PySem.W.keepIn K (.ref f_is_node) = true)
    {f_is_move : Addr} {od_is_move an_is_move : Option Addr} {sl_is_move : Array (Option Value)} {oc_is_move kV_is_move dc_is_move pm_is_move cd_is_move ct_is_move : Value}
    (a_is_move : PySem.W.nsIn K mainGlobals "is_move" = some (some (.ref f_is_move)))
    (l_is_move : K.lookup f_is_move = some ⟨oc_is_move, od_is_move, .func (PySem.W.fnOf "is_move" "is_move" (defArgs s_is_move) (defBody s_is_move) (defScope s_is_move) .none kV_is_move dc_is_move pm_is_move an_is_move cd_is_move ct_is_move), sl_is_move⟩)
    (cc_is_move : PySem.W.codeIn K cd_is_move "is_move" = true) (k_is_move : PySem.W.keepIn K (.ref f_is_move) = true)
    {C_Listed : Addr} (aC_Listed : PySem.W.nsIn K mainGlobals "Listed" = some (some (.ref C_Listed)))
    (pg_Listed : PySem.W.plainGet K C_Listed Str.empty = true)
    (hd_Listed : PySem.W.hasDictIn K C_Listed = true)
    (po_Listed : PySem.W.plainOver K C_Listed = true)
    (sa_Listed : PySem.W.findIn K (.ref C_Listed) "__setattr__" = some (some (.builtin "object.__setattr__")))
    (mk_Listed : PySem.W.makesIn K C_Listed = true)
    (kc_Listed : PySem.W.keepIn K (.ref C_Listed) = true)
    (ha_Listed : PySem.W.findIn K (.ref C_Listed) "__class__" = some (some (.builtin "object.__class__")))
    (hn_Listed : PySem.W.specialIn K (.builtin "object.__class__") "__get__" = some (some (.builtin "getset_descriptor.__get__")))
    (htk_Listed : PySem.W.takesIn K (.builtin "object.__class__") = some true)
    (hm_Listed : PySem.W.mroIn K C_Listed (.type "object") = some true)
    (nf_Listed_moves : PySem.W.findIn K (.ref C_Listed) "moves" = some none)
    (nf_Listed_ends : PySem.W.findIn K (.ref C_Listed) "ends" = some none)
    (nf_Listed_shelf : PySem.W.findIn K (.ref C_Listed) "shelf" = some none)
    {f_Listed___init__ : Addr} {od_Listed___init__ an_Listed___init__ : Option Addr} {sl_Listed___init__ : Array (Option Value)} {oc_Listed___init__ kV_Listed___init__ dc_Listed___init__ pm_Listed___init__ cd_Listed___init__ ct_Listed___init__ : Value}
    (a_Listed___init__ : PySem.W.findIn K (.ref C_Listed) "__init__" = some (some (.ref f_Listed___init__))) (i_Listed___init__ : PySem.W.isFn K (.ref f_Listed___init__) = true)
    (l_Listed___init__ : K.lookup f_Listed___init__ = some ⟨oc_Listed___init__, od_Listed___init__, .func (PySem.W.fnOf "__init__" "Listed.__init__" (defArgs s_Listed___init__) (defBody s_Listed___init__) (defScope s_Listed___init__) .none kV_Listed___init__ dc_Listed___init__ pm_Listed___init__ an_Listed___init__ cd_Listed___init__ ct_Listed___init__), sl_Listed___init__⟩)
    (cc_Listed___init__ : PySem.W.codeIn K cd_Listed___init__ "Listed.__init__" = true) (k_Listed___init__ : PySem.W.keepIn K (.ref f_Listed___init__) = true)
    {f_Listed_first_node : Addr} {od_Listed_first_node an_Listed_first_node : Option Addr} {sl_Listed_first_node : Array (Option Value)} {oc_Listed_first_node kV_Listed_first_node dc_Listed_first_node pm_Listed_first_node cd_Listed_first_node ct_Listed_first_node : Value}
    (a_Listed_first_node : PySem.W.findIn K (.ref C_Listed) "first_node" = some (some (.ref f_Listed_first_node))) (i_Listed_first_node : PySem.W.isFn K (.ref f_Listed_first_node) = true)
    (l_Listed_first_node : K.lookup f_Listed_first_node = some ⟨oc_Listed_first_node, od_Listed_first_node, .func (PySem.W.fnOf "first_node" "Listed.first_node" (defArgs s_Listed_first_node) (defBody s_Listed_first_node) (defScope s_Listed_first_node) .none kV_Listed_first_node dc_Listed_first_node pm_Listed_first_node an_Listed_first_node cd_Listed_first_node ct_Listed_first_node), sl_Listed_first_node⟩)
    (cc_Listed_first_node : PySem.W.codeIn K cd_Listed_first_node "Listed.first_node" = true) (k_Listed_first_node : PySem.W.keepIn K (.ref f_Listed_first_node) = true)
    {f_Listed_steps_from : Addr} {od_Listed_steps_from an_Listed_steps_from : Option Addr} {sl_Listed_steps_from : Array (Option Value)} {oc_Listed_steps_from kV_Listed_steps_from dc_Listed_steps_from pm_Listed_steps_from cd_Listed_steps_from ct_Listed_steps_from : Value}
    (a_Listed_steps_from : PySem.W.findIn K (.ref C_Listed) "steps_from" = some (some (.ref f_Listed_steps_from))) (i_Listed_steps_from : PySem.W.isFn K (.ref f_Listed_steps_from) = true)
    (l_Listed_steps_from : K.lookup f_Listed_steps_from = some ⟨oc_Listed_steps_from, od_Listed_steps_from, .func (PySem.W.fnOf "steps_from" "Listed.steps_from" (defArgs s_Listed_steps_from) (defBody s_Listed_steps_from) (defScope s_Listed_steps_from) .none kV_Listed_steps_from dc_Listed_steps_from pm_Listed_steps_from an_Listed_steps_from cd_Listed_steps_from ct_Listed_steps_from), sl_Listed_steps_from⟩)
    (cc_Listed_steps_from : PySem.W.codeIn K cd_Listed_steps_from "Listed.steps_from" = true) (k_Listed_steps_from : PySem.W.keepIn K (.ref f_Listed_steps_from) = true)
    {f_Listed_is_end : Addr} {od_Listed_is_end an_Listed_is_end : Option Addr} {sl_Listed_is_end : Array (Option Value)} {oc_Listed_is_end kV_Listed_is_end dc_Listed_is_end pm_Listed_is_end cd_Listed_is_end ct_Listed_is_end : Value}
    (a_Listed_is_end : PySem.W.findIn K (.ref C_Listed) "is_end" = some (some (.ref f_Listed_is_end))) (i_Listed_is_end : PySem.W.isFn K (.ref f_Listed_is_end) = true)
    (l_Listed_is_end : K.lookup f_Listed_is_end = some ⟨oc_Listed_is_end, od_Listed_is_end, .func (PySem.W.fnOf "is_end" "Listed.is_end" (defArgs s_Listed_is_end) (defBody s_Listed_is_end) (defScope s_Listed_is_end) .none kV_Listed_is_end dc_Listed_is_end pm_Listed_is_end an_Listed_is_end cd_Listed_is_end ct_Listed_is_end), sl_Listed_is_end⟩)
    (cc_Listed_is_end : PySem.W.codeIn K cd_Listed_is_end "Listed.is_end" = true) (k_Listed_is_end : PySem.W.keepIn K (.ref f_Listed_is_end) = true)
    {f_steps_known : Addr} {od_steps_known an_steps_known : Option Addr} {sl_steps_known : Array (Option Value)} {oc_steps_known kV_steps_known dc_steps_known pm_steps_known cd_steps_known ct_steps_known : Value}
    (a_steps_known : PySem.W.nsIn K mainGlobals "steps_known" = some (some (.ref f_steps_known)))
    (l_steps_known : K.lookup f_steps_known = some ⟨oc_steps_known, od_steps_known, .func (PySem.W.fnOf "steps_known" "steps_known" (defArgs s_steps_known) (defBody s_steps_known) (defScope s_steps_known) .none kV_steps_known dc_steps_known pm_steps_known an_steps_known cd_steps_known ct_steps_known), sl_steps_known⟩)
    (cc_steps_known : PySem.W.codeIn K cd_steps_known "steps_known" = true) (k_steps_known : PySem.W.keepIn K (.ref f_steps_known) = true)
    {f_least_price : Addr} {od_least_price an_least_price : Option Addr} {sl_least_price : Array (Option Value)} {oc_least_price kV_least_price dc_least_price pm_least_price cd_least_price ct_least_price : Value}
    (a_least_price : PySem.W.nsIn K mainGlobals "least_price" = some (some (.ref f_least_price)))
    (l_least_price : K.lookup f_least_price = some ⟨oc_least_price, od_least_price, .func (PySem.W.fnOf "least_price" "least_price" (defArgs s_least_price) (defBody s_least_price) (defScope s_least_price) .none kV_least_price dc_least_price pm_least_price an_least_price cd_least_price ct_least_price), sl_least_price⟩)
    (cc_least_price : PySem.W.codeIn K cd_least_price "least_price" = true) (k_least_price : PySem.W.keepIn K (.ref f_least_price) = true)
    {f_prices_known : Addr} {od_prices_known an_prices_known : Option Addr} {sl_prices_known : Array (Option Value)} {oc_prices_known kV_prices_known dc_prices_known pm_prices_known cd_prices_known ct_prices_known : Value}
    (a_prices_known : PySem.W.nsIn K mainGlobals "prices_known" = some (some (.ref f_prices_known)))
    (l_prices_known : K.lookup f_prices_known = some ⟨oc_prices_known, od_prices_known, .func (PySem.W.fnOf "prices_known" "prices_known" (defArgs s_prices_known) (defBody s_prices_known) (defScope s_prices_known) .none kV_prices_known dc_prices_known pm_prices_known an_prices_known cd_prices_known ct_prices_known), sl_prices_known⟩)
    (cc_prices_known : PySem.W.codeIn K cd_prices_known "prices_known" = true) (k_prices_known : PySem.W.keepIn K (.ref f_prices_known) = true)
    {f_prices_of : Addr} {od_prices_of an_prices_of : Option Addr} {sl_prices_of : Array (Option Value)} {oc_prices_of kV_prices_of dc_prices_of pm_prices_of cd_prices_of ct_prices_of : Value}
    (a_prices_of : PySem.W.nsIn K mainGlobals "prices_of" = some (some (.ref f_prices_of)))
    (l_prices_of : K.lookup f_prices_of = some ⟨oc_prices_of, od_prices_of, .func (PySem.W.fnOf "prices_of" "prices_of" (defArgs s_prices_of) (defBody s_prices_of) (defScope s_prices_of) .none kV_prices_of dc_prices_of pm_prices_of an_prices_of cd_prices_of ct_prices_of), sl_prices_of⟩)
    (cc_prices_of : PySem.W.codeIn K cd_prices_of "prices_of" = true) (k_prices_of : PySem.W.keepIn K (.ref f_prices_of) = true)
    {f_next_chosen : Addr} {od_next_chosen an_next_chosen : Option Addr} {sl_next_chosen : Array (Option Value)} {oc_next_chosen kV_next_chosen dc_next_chosen pm_next_chosen cd_next_chosen ct_next_chosen : Value}
    (a_next_chosen : PySem.W.nsIn K mainGlobals "next_chosen" = some (some (.ref f_next_chosen)))
    (l_next_chosen : K.lookup f_next_chosen = some ⟨oc_next_chosen, od_next_chosen, .func (PySem.W.fnOf "next_chosen" "next_chosen" (defArgs s_next_chosen) (defBody s_next_chosen) (defScope s_next_chosen) .none kV_next_chosen dc_next_chosen pm_next_chosen an_next_chosen cd_next_chosen ct_next_chosen), sl_next_chosen⟩)
    (cc_next_chosen : PySem.W.codeIn K cd_next_chosen "next_chosen" = true) (k_next_chosen : PySem.W.keepIn K (.ref f_next_chosen) = true)
    {f_way_of : Addr} {od_way_of an_way_of : Option Addr} {sl_way_of : Array (Option Value)} {oc_way_of kV_way_of dc_way_of pm_way_of cd_way_of ct_way_of : Value}
    (a_way_of : PySem.W.nsIn K mainGlobals "way_of" = some (some (.ref f_way_of)))
    (l_way_of : K.lookup f_way_of = some ⟨oc_way_of, od_way_of, .func (PySem.W.fnOf "way_of" "way_of" (defArgs s_way_of) (defBody s_way_of) (defScope s_way_of) .none kV_way_of dc_way_of pm_way_of an_way_of cd_way_of ct_way_of), sl_way_of⟩)
    (cc_way_of : PySem.W.codeIn K cd_way_of "way_of" = true) (k_way_of : PySem.W.keepIn K (.ref f_way_of) = true)
    {f__law_bag : Addr} {od__law_bag an__law_bag : Option Addr} {sl__law_bag : Array (Option Value)} {oc__law_bag kV__law_bag dc__law_bag pm__law_bag cd__law_bag ct__law_bag : Value}
    (a__law_bag : PySem.W.nsIn K mainGlobals "_law_bag" = some (some (.ref f__law_bag)))
    (l__law_bag : K.lookup f__law_bag = some ⟨oc__law_bag, od__law_bag, .func (PySem.W.fnOf "_law_bag" "_law_bag" (defArgs s__law_bag) (defBody s__law_bag) (defScope s__law_bag) .none kV__law_bag dc__law_bag pm__law_bag an__law_bag cd__law_bag ct__law_bag), sl__law_bag⟩)
    (cc__law_bag : PySem.W.codeIn K cd__law_bag "_law_bag" = true) (k__law_bag : PySem.W.keepIn K (.ref f__law_bag) = true)
    {f__law_take : Addr} {od__law_take an__law_take : Option Addr} {sl__law_take : Array (Option Value)} {oc__law_take kV__law_take dc__law_take pm__law_take cd__law_take ct__law_take : Value}
    (a__law_take : PySem.W.nsIn K mainGlobals "_law_take" = some (some (.ref f__law_take)))
    (l__law_take : K.lookup f__law_take = some ⟨oc__law_take, od__law_take, .func (PySem.W.fnOf "_law_take" "_law_take" (defArgs s__law_take) (defBody s__law_take) (defScope s__law_take) .none kV__law_take dc__law_take pm__law_take an__law_take cd__law_take ct__law_take), sl__law_take⟩)
    (cc__law_take : PySem.W.codeIn K cd__law_take "_law_take" = true) (k__law_take : PySem.W.keepIn K (.ref f__law_take) = true)
    {f__law_length : Addr} {od__law_length an__law_length : Option Addr} {sl__law_length : Array (Option Value)} {oc__law_length kV__law_length dc__law_length pm__law_length cd__law_length ct__law_length : Value}
    (a__law_length : PySem.W.nsIn K mainGlobals "_law_length" = some (some (.ref f__law_length)))
    (l__law_length : K.lookup f__law_length = some ⟨oc__law_length, od__law_length, .func (PySem.W.fnOf "_law_length" "_law_length" (defArgs s__law_length) (defBody s__law_length) (defScope s__law_length) .none kV__law_length dc__law_length pm__law_length an__law_length cd__law_length ct__law_length), sl__law_length⟩)
    (cc__law_length : PySem.W.codeIn K cd__law_length "_law_length" = true) (k__law_length : PySem.W.keepIn K (.ref f__law_length) = true)
    {f__law_whole : Addr} {od__law_whole an__law_whole : Option Addr} {sl__law_whole : Array (Option Value)} {oc__law_whole kV__law_whole dc__law_whole pm__law_whole cd__law_whole ct__law_whole : Value}
    (a__law_whole : PySem.W.nsIn K mainGlobals "_law_whole" = some (some (.ref f__law_whole)))
    (l__law_whole : K.lookup f__law_whole = some ⟨oc__law_whole, od__law_whole, .func (PySem.W.fnOf "_law_whole" "_law_whole" (defArgs s__law_whole) (defBody s__law_whole) (defScope s__law_whole) .none kV__law_whole dc__law_whole pm__law_whole an__law_whole cd__law_whole ct__law_whole), sl__law_whole⟩)
    (cc__law_whole : PySem.W.codeIn K cd__law_whole "_law_whole" = true) (k__law_whole : PySem.W.keepIn K (.ref f__law_whole) = true)
    {f__law_low : Addr} {od__law_low an__law_low : Option Addr} {sl__law_low : Array (Option Value)} {oc__law_low kV__law_low dc__law_low pm__law_low cd__law_low ct__law_low : Value}
    (a__law_low : PySem.W.nsIn K mainGlobals "_law_low" = some (some (.ref f__law_low)))
    (l__law_low : K.lookup f__law_low = some ⟨oc__law_low, od__law_low, .func (PySem.W.fnOf "_law_low" "_law_low" (defArgs s__law_low) (defBody s__law_low) (defScope s__law_low) .none kV__law_low dc__law_low pm__law_low an__law_low cd__law_low ct__law_low), sl__law_low⟩)
    (cc__law_low : PySem.W.codeIn K cd__law_low "_law_low" = true) (k__law_low : PySem.W.keepIn K (.ref f__law_low) = true)
    {f__law_fraction : Addr} {od__law_fraction an__law_fraction : Option Addr} {sl__law_fraction : Array (Option Value)} {oc__law_fraction kV__law_fraction dc__law_fraction pm__law_fraction cd__law_fraction ct__law_fraction : Value}
    (a__law_fraction : PySem.W.nsIn K mainGlobals "_law_fraction" = some (some (.ref f__law_fraction)))
    (l__law_fraction : K.lookup f__law_fraction = some ⟨oc__law_fraction, od__law_fraction, .func (PySem.W.fnOf "_law_fraction" "_law_fraction" (defArgs s__law_fraction) (defBody s__law_fraction) (defScope s__law_fraction) .none kV__law_fraction dc__law_fraction pm__law_fraction an__law_fraction cd__law_fraction ct__law_fraction), sl__law_fraction⟩)
    (cc__law_fraction : PySem.W.codeIn K cd__law_fraction "_law_fraction" = true) (k__law_fraction : PySem.W.keepIn K (.ref f__law_fraction) = true)
    {f__law_sum : Addr} {od__law_sum an__law_sum : Option Addr} {sl__law_sum : Array (Option Value)} {oc__law_sum kV__law_sum dc__law_sum pm__law_sum cd__law_sum ct__law_sum : Value}
    (a__law_sum : PySem.W.nsIn K mainGlobals "_law_sum" = some (some (.ref f__law_sum)))
    (l__law_sum : K.lookup f__law_sum = some ⟨oc__law_sum, od__law_sum, .func (PySem.W.fnOf "_law_sum" "_law_sum" (defArgs s__law_sum) (defBody s__law_sum) (defScope s__law_sum) .none kV__law_sum dc__law_sum pm__law_sum an__law_sum cd__law_sum ct__law_sum), sl__law_sum⟩)
    (cc__law_sum : PySem.W.codeIn K cd__law_sum "_law_sum" = true) (k__law_sum : PySem.W.keepIn K (.ref f__law_sum) = true)
    {f__law_less : Addr} {od__law_less an__law_less : Option Addr} {sl__law_less : Array (Option Value)} {oc__law_less kV__law_less dc__law_less pm__law_less cd__law_less ct__law_less : Value}
    (a__law_less : PySem.W.nsIn K mainGlobals "_law_less" = some (some (.ref f__law_less)))
    (l__law_less : K.lookup f__law_less = some ⟨oc__law_less, od__law_less, .func (PySem.W.fnOf "_law_less" "_law_less" (defArgs s__law_less) (defBody s__law_less) (defScope s__law_less) .none kV__law_less dc__law_less pm__law_less an__law_less cd__law_less ct__law_less), sl__law_less⟩)
    (cc__law_less : PySem.W.codeIn K cd__law_less "_law_less" = true) (k__law_less : PySem.W.keepIn K (.ref f__law_less) = true)
    {f__law_alike : Addr} {od__law_alike an__law_alike : Option Addr} {sl__law_alike : Array (Option Value)} {oc__law_alike kV__law_alike dc__law_alike pm__law_alike cd__law_alike ct__law_alike : Value}
    (a__law_alike : PySem.W.nsIn K mainGlobals "_law_alike" = some (some (.ref f__law_alike)))
    (l__law_alike : K.lookup f__law_alike = some ⟨oc__law_alike, od__law_alike, .func (PySem.W.fnOf "_law_alike" "_law_alike" (defArgs s__law_alike) (defBody s__law_alike) (defScope s__law_alike) .none kV__law_alike dc__law_alike pm__law_alike an__law_alike cd__law_alike ct__law_alike), sl__law_alike⟩)
    (cc__law_alike : PySem.W.codeIn K cd__law_alike "_law_alike" = true) (k__law_alike : PySem.W.keepIn K (.ref f__law_alike) = true)
    {f__law_number : Addr} {od__law_number an__law_number : Option Addr} {sl__law_number : Array (Option Value)} {oc__law_number kV__law_number dc__law_number pm__law_number cd__law_number ct__law_number : Value}
    (a__law_number : PySem.W.nsIn K mainGlobals "_law_number" = some (some (.ref f__law_number)))
    (l__law_number : K.lookup f__law_number = some ⟨oc__law_number, od__law_number, .func (PySem.W.fnOf "_law_number" "_law_number" (defArgs s__law_number) (defBody s__law_number) (defScope s__law_number) .none kV__law_number dc__law_number pm__law_number an__law_number cd__law_number ct__law_number), sl__law_number⟩)
    (cc__law_number : PySem.W.codeIn K cd__law_number "_law_number" = true) (k__law_number : PySem.W.keepIn K (.ref f__law_number) = true)
    {f__law_nodes : Addr} {od__law_nodes an__law_nodes : Option Addr} {sl__law_nodes : Array (Option Value)} {oc__law_nodes kV__law_nodes dc__law_nodes pm__law_nodes cd__law_nodes ct__law_nodes : Value}
    (a__law_nodes : PySem.W.nsIn K mainGlobals "_law_nodes" = some (some (.ref f__law_nodes)))
    (l__law_nodes : K.lookup f__law_nodes = some ⟨oc__law_nodes, od__law_nodes, .func (PySem.W.fnOf "_law_nodes" "_law_nodes" (defArgs s__law_nodes) (defBody s__law_nodes) (defScope s__law_nodes) .none kV__law_nodes dc__law_nodes pm__law_nodes an__law_nodes cd__law_nodes ct__law_nodes), sl__law_nodes⟩)
    (cc__law_nodes : PySem.W.codeIn K cd__law_nodes "_law_nodes" = true) (k__law_nodes : PySem.W.keepIn K (.ref f__law_nodes) = true)
    {f__law_cost : Addr} {od__law_cost an__law_cost : Option Addr} {sl__law_cost : Array (Option Value)} {oc__law_cost kV__law_cost dc__law_cost pm__law_cost cd__law_cost ct__law_cost : Value}
    (a__law_cost : PySem.W.nsIn K mainGlobals "_law_cost" = some (some (.ref f__law_cost)))
    (l__law_cost : K.lookup f__law_cost = some ⟨oc__law_cost, od__law_cost, .func (PySem.W.fnOf "_law_cost" "_law_cost" (defArgs s__law_cost) (defBody s__law_cost) (defScope s__law_cost) .none kV__law_cost dc__law_cost pm__law_cost an__law_cost cd__law_cost ct__law_cost), sl__law_cost⟩)
    (cc__law_cost : PySem.W.codeIn K cd__law_cost "_law_cost" = true) (k__law_cost : PySem.W.keepIn K (.ref f__law_cost) = true)
    {f__law_moves : Addr} {od__law_moves an__law_moves : Option Addr} {sl__law_moves : Array (Option Value)} {oc__law_moves kV__law_moves dc__law_moves pm__law_moves cd__law_moves ct__law_moves : Value}
    (a__law_moves : PySem.W.nsIn K mainGlobals "_law_moves" = some (some (.ref f__law_moves)))
    (l__law_moves : K.lookup f__law_moves = some ⟨oc__law_moves, od__law_moves, .func (PySem.W.fnOf "_law_moves" "_law_moves" (defArgs s__law_moves) (defBody s__law_moves) (defScope s__law_moves) .none kV__law_moves dc__law_moves pm__law_moves an__law_moves cd__law_moves ct__law_moves), sl__law_moves⟩)
    (cc__law_moves : PySem.W.codeIn K cd__law_moves "_law_moves" = true) (k__law_moves : PySem.W.keepIn K (.ref f__law_moves) = true)
    {f__law_ends : Addr} {od__law_ends an__law_ends : Option Addr} {sl__law_ends : Array (Option Value)} {oc__law_ends kV__law_ends dc__law_ends pm__law_ends cd__law_ends ct__law_ends : Value}
    (a__law_ends : PySem.W.nsIn K mainGlobals "_law_ends" = some (some (.ref f__law_ends)))
    (l__law_ends : K.lookup f__law_ends = some ⟨oc__law_ends, od__law_ends, .func (PySem.W.fnOf "_law_ends" "_law_ends" (defArgs s__law_ends) (defBody s__law_ends) (defScope s__law_ends) .none kV__law_ends dc__law_ends pm__law_ends an__law_ends cd__law_ends ct__law_ends), sl__law_ends⟩)
    (cc__law_ends : PySem.W.codeIn K cd__law_ends "_law_ends" = true) (k__law_ends : PySem.W.keepIn K (.ref f__law_ends) = true)
    {f__law_graph : Addr} {od__law_graph an__law_graph : Option Addr} {sl__law_graph : Array (Option Value)} {oc__law_graph kV__law_graph dc__law_graph pm__law_graph cd__law_graph ct__law_graph : Value}
    (a__law_graph : PySem.W.nsIn K mainGlobals "_law_graph" = some (some (.ref f__law_graph)))
    (l__law_graph : K.lookup f__law_graph = some ⟨oc__law_graph, od__law_graph, .func (PySem.W.fnOf "_law_graph" "_law_graph" (defArgs s__law_graph) (defBody s__law_graph) (defScope s__law_graph) .none kV__law_graph dc__law_graph pm__law_graph an__law_graph cd__law_graph ct__law_graph), sl__law_graph⟩)
    (cc__law_graph : PySem.W.codeIn K cd__law_graph "_law_graph" = true) (k__law_graph : PySem.W.keepIn K (.ref f__law_graph) = true)
    {f__law_prices : Addr} {od__law_prices an__law_prices : Option Addr} {sl__law_prices : Array (Option Value)} {oc__law_prices kV__law_prices dc__law_prices pm__law_prices ct__law_prices : Value} {cA__law_prices P__law_prices : Addr}
    (a__law_prices : PySem.W.nsIn K mainGlobals "_law_prices" = some (some (.ref f__law_prices)))
    (l__law_prices : K.lookup f__law_prices = some ⟨oc__law_prices, od__law_prices, .func (PySem.W.fnOf "_law_prices" "_law_prices" (defArgs s__law_prices) (defBody s__law_prices) (defScope s__law_prices) .none kV__law_prices dc__law_prices pm__law_prices an__law_prices (.ref cA__law_prices) ct__law_prices), sl__law_prices⟩)
    (cc__law_prices : PySem.W.codeIn K (.ref cA__law_prices) "_law_prices" = true) (k__law_prices : PySem.W.keepIn K (.ref f__law_prices) = true)
    {ob__law_prices : Obj} (lc__law_prices : K.lookup cA__law_prices = some ob__law_prices) (tv__law_prices : tabOf ob__law_prices = some P__law_prices) (np__law_prices : K.lookup P__law_prices = none)
    {f__law_next : Addr} {od__law_next an__law_next : Option Addr} {sl__law_next : Array (Option Value)} {oc__law_next kV__law_next dc__law_next pm__law_next cd__law_next ct__law_next : Value}
    (a__law_next : PySem.W.nsIn K mainGlobals "_law_next" = some (some (.ref f__law_next)))
    (l__law_next : K.lookup f__law_next = some ⟨oc__law_next, od__law_next, .func (PySem.W.fnOf "_law_next" "_law_next" (defArgs s__law_next) (defBody s__law_next) (defScope s__law_next) .none kV__law_next dc__law_next pm__law_next an__law_next cd__law_next ct__law_next), sl__law_next⟩)
    (cc__law_next : PySem.W.codeIn K cd__law_next "_law_next" = true) (k__law_next : PySem.W.keepIn K (.ref f__law_next) = true)
    {f__law_way : Addr} {od__law_way an__law_way : Option Addr} {sl__law_way : Array (Option Value)} {oc__law_way kV__law_way dc__law_way pm__law_way cd__law_way ct__law_way : Value}
    (a__law_way : PySem.W.nsIn K mainGlobals "_law_way" = some (some (.ref f__law_way)))
    (l__law_way : K.lookup f__law_way = some ⟨oc__law_way, od__law_way, .func (PySem.W.fnOf "_law_way" "_law_way" (defArgs s__law_way) (defBody s__law_way) (defScope s__law_way) .none kV__law_way dc__law_way pm__law_way an__law_way cd__law_way ct__law_way), sl__law_way⟩)
    (cc__law_way : PySem.W.codeIn K cd__law_way "_law_way" = true) (k__law_way : PySem.W.keepIn K (.ref f__law_way) = true)
    {f__law_rows : Addr} {od__law_rows an__law_rows : Option Addr} {sl__law_rows : Array (Option Value)} {oc__law_rows kV__law_rows dc__law_rows pm__law_rows cd__law_rows ct__law_rows : Value}
    (a__law_rows : PySem.W.nsIn K mainGlobals "_law_rows" = some (some (.ref f__law_rows)))
    (l__law_rows : K.lookup f__law_rows = some ⟨oc__law_rows, od__law_rows, .func (PySem.W.fnOf "_law_rows" "_law_rows" (defArgs s__law_rows) (defBody s__law_rows) (defScope s__law_rows) .none kV__law_rows dc__law_rows pm__law_rows an__law_rows cd__law_rows ct__law_rows), sl__law_rows⟩)
    (cc__law_rows : PySem.W.codeIn K cd__law_rows "_law_rows" = true) (k__law_rows : PySem.W.keepIn K (.ref f__law_rows) = true)
    {f__law_told : Addr} {od__law_told an__law_told : Option Addr} {sl__law_told : Array (Option Value)} {oc__law_told kV__law_told dc__law_told pm__law_told cd__law_told ct__law_told : Value}
    (a__law_told : PySem.W.nsIn K mainGlobals "_law_told" = some (some (.ref f__law_told)))
    (l__law_told : K.lookup f__law_told = some ⟨oc__law_told, od__law_told, .func (PySem.W.fnOf "_law_told" "_law_told" (defArgs s__law_told) (defBody s__law_told) (defScope s__law_told) .none kV__law_told dc__law_told pm__law_told an__law_told cd__law_told ct__law_told), sl__law_told⟩)
    (cc__law_told : PySem.W.codeIn K cd__law_told "_law_told" = true) (k__law_told : PySem.W.keepIn K (.ref f__law_told) = true)
    {f_law : Addr} {od_law an_law : Option Addr} {sl_law : Array (Option Value)} {oc_law kV_law dc_law pm_law cd_law ct_law : Value}
    (a_law : PySem.W.nsIn K mainGlobals "law" = some (some (.ref f_law)))
    (l_law : K.lookup f_law = some ⟨oc_law, od_law, .func (PySem.W.fnOf "law" "law" (defArgs s_law) (defBody s_law) (defScope s_law) .none kV_law dc_law pm_law an_law cd_law ct_law), sl_law⟩)
    (cc_law : PySem.W.codeIn K cd_law "law" = true) (k_law : PySem.W.keepIn K (.ref f_law) = true)
    (z_len : PySem.W.nsIn K mainGlobals "len" = some none)
    (z_abs : PySem.W.nsIn K mainGlobals "abs" = some none)
    (z_isinstance : PySem.W.nsIn K mainGlobals "isinstance" = some none)
    (z_min : PySem.W.nsIn K mainGlobals "min" = some none)
    (z_max : PySem.W.nsIn K mainGlobals "max" = some none)
    (z_sum : PySem.W.nsIn K mainGlobals "sum" = some none)
    (z_sorted : PySem.W.nsIn K mainGlobals "sorted" = some none)
    (z_range : PySem.W.nsIn K mainGlobals "range" = some none)
    (z_zip : PySem.W.nsIn K mainGlobals "zip" = some none)
    (z_enumerate : PySem.W.nsIn K mainGlobals "enumerate" = some none)
    (z_reversed : PySem.W.nsIn K mainGlobals "reversed" = some none)
    (z_int : PySem.W.nsIn K mainGlobals "int" = some none)
    (z_bool : PySem.W.nsIn K mainGlobals "bool" = some none)
    (z_tuple : PySem.W.nsIn K mainGlobals "tuple" = some none)
    (z_list : PySem.W.nsIn K mainGlobals "list" = some none)
    (z_str : PySem.W.nsIn K mainGlobals "str" = some none)
    (z_dict : PySem.W.nsIn K mainGlobals "dict" = some none)
    (z_ValueError : PySem.W.nsIn K mainGlobals "ValueError" = some none)
    (z_set : PySem.W.nsIn K mainGlobals "set" = some none)
    (z_any : PySem.W.nsIn K mainGlobals "any" = some none)
    (z_all : PySem.W.nsIn K mainGlobals "all" = some none)
    (z_ord : PySem.W.nsIn K mainGlobals "ord" = some none)
    {t_MOST_LISTED : Tok} (n_MOST_LISTED : PySem.W.nsIn K mainGlobals "MOST_LISTED" = some (some (.int 400 t_MOST_LISTED)))
    (nd_tabs : ([P__law_prices] : List Addr).Nodup)
    : ∃ (cs : List (Addr × Addr)) (fd : FuncData), (∀ p ∈ cs, (∃ y ∈ ([(Str.ofString "_law_prices")] : List Str), PySem.W.tabIn K y = some p) ∧ K.lookup p.2 = none) ∧ (cs.map (·.2)).Nodup ∧ (∀ (s : Shared) (v : Value), BindsTo s fd ⟨[v], []⟩ [("_law_script", v)]) ∧ ∀ base : Heap, K.In base → base.Ns mainGlobals mg → (∀ p ∈ cs, LamX.TabB base mg p.1 p.2) → FnOk l.prog w K mg base CX0 7 fa fd ["_law_script"] (sp_law K (cs.map (·.2))) := by
  have e := hfa.symm.trans (PySem.W.mg_of X G a_law)
  cases e
  have B : Bn mg := ⟨PySem.W.mg_none_of X G z_len, PySem.W.mg_none_of X G z_abs, PySem.W.mg_none_of X G z_isinstance, PySem.W.mg_none_of X G z_min, PySem.W.mg_none_of X G z_max, PySem.W.mg_none_of X G z_sum, PySem.W.mg_none_of X G z_sorted, PySem.W.mg_none_of X G z_range, PySem.W.mg_none_of X G z_zip, PySem.W.mg_none_of X G z_enumerate, PySem.W.mg_none_of X G z_reversed, PySem.W.mg_none_of X G z_int, PySem.W.mg_none_of X G z_bool, PySem.W.mg_none_of X G z_tuple, PySem.W.mg_none_of X G z_list, PySem.W.mg_none_of X G z_str, PySem.W.mg_none_of X G z_dict, PySem.W.mg_none_of X G z_ValueError, PySem.W.mg_none_of X G z_set, PySem.W.mg_none_of X G z_any, PySem.W.mg_none_of X G z_all, PySem.W.mg_none_of X G z_ord⟩
  have g_MOST_LISTED : ∃ t, mg "MOST_LISTED" = some (.int 400 t) := ⟨_, PySem.W.mg_of X G n_MOST_LISTED⟩
  have g_Listed : mg "Listed" = some (.ref C_Listed) := PySem.W.mg_of X G aC_Listed
  have o_Listed : OwnC K C_Listed := ⟨⟨pg_Listed, hd_Listed, po_Listed, sa_Listed⟩, ha_Listed, hn_Listed, htk_Listed, hm_Listed⟩
  have n_Listed : ∀ f ∈ (["moves", "ends", "shelf"] : List Str), NoAttr K C_Listed f := (List.forall_mem_cons.2 ⟨nf_Listed_moves, (List.forall_mem_cons.2 ⟨nf_Listed_ends, (List.forall_mem_cons.2 ⟨nf_Listed_shelf, (fun _ z => nomatch z)⟩)⟩)⟩)
  have F_is_whole := fun_mk (st := s_is_whole) l_is_whole cc_is_whole k_is_whole
  have F_divisor := fun_mk (st := s_divisor) l_divisor cc_divisor k_divisor
  have F_is_fraction := fun_mk (st := s_is_fraction) l_is_fraction cc_is_fraction k_is_fraction
  have F_fraction := funD_mk (st := s_fraction) (dvs := [.int 1]) l_fraction cc_fraction k_fraction dt_fraction (.cons ⟨_, rfl⟩ .nil) (by simp)
  have F_plus := fun_mk (st := s_plus) l_plus cc_plus k_plus
  have F_is_below := fun_mk (st := s_is_below) l_is_below cc_is_below k_is_below
  have F_look_list := fun_mk (st := s_look_list) l_look_list cc_look_list k_look_list
  have F_is_node := fun_mk (st := s_is_node) l_is_node cc_is_node k_is_node
  have F_is_move := fun_mk (st := s_is_move) l_is_move cc_is_move k_is_move
  have F_Listed___init__ := fun_mk (st := s_Listed___init__) l_Listed___init__ cc_Listed___init__ k_Listed___init__
  have F_Listed_first_node := fun_mk (st := s_Listed_first_node) l_Listed_first_node cc_Listed_first_node k_Listed_first_node
  have F_Listed_steps_from := fun_mk (st := s_Listed_steps_from) l_Listed_steps_from cc_Listed_steps_from k_Listed_steps_from
  have F_Listed_is_end := fun_mk (st := s_Listed_is_end) l_Listed_is_end cc_Listed_is_end k_Listed_is_end
  have F_steps_known := fun_mk (st := s_steps_known) l_steps_known cc_steps_known k_steps_known
  have F_least_price := fun_mk (st := s_least_price) l_least_price cc_least_price k_least_price
  have F_prices_known := fun_mk (st := s_prices_known) l_prices_known cc_prices_known k_prices_known
  have F_prices_of := fun_mk (st := s_prices_of) l_prices_of cc_prices_of k_prices_of
  have F_next_chosen := fun_mk (st := s_next_chosen) l_next_chosen cc_next_chosen k_next_chosen
  have F_way_of := fun_mk (st := s_way_of) l_way_of cc_way_of k_way_of
  have F__law_bag := fun_mk (st := s__law_bag) l__law_bag cc__law_bag k__law_bag
  have F__law_take := fun_mk (st := s__law_take) l__law_take cc__law_take k__law_take
  have F__law_length := fun_mk (st := s__law_length) l__law_length cc__law_length k__law_length
  have F__law_whole := fun_mk (st := s__law_whole) l__law_whole cc__law_whole k__law_whole
  have F__law_low := fun_mk (st := s__law_low) l__law_low cc__law_low k__law_low
  have F__law_fraction := fun_mk (st := s__law_fraction) l__law_fraction cc__law_fraction k__law_fraction
  have F__law_sum := fun_mk (st := s__law_sum) l__law_sum cc__law_sum k__law_sum
  have F__law_less := fun_mk (st := s__law_less) l__law_less cc__law_less k__law_less
  have F__law_alike := fun_mk (st := s__law_alike) l__law_alike cc__law_alike k__law_alike
  have F__law_number := fun_mk (st := s__law_number) l__law_number cc__law_number k__law_number
  have F__law_nodes := fun_mk (st := s__law_nodes) l__law_nodes cc__law_nodes k__law_nodes
  have F__law_cost := fun_mk (st := s__law_cost) l__law_cost cc__law_cost k__law_cost
  have F__law_moves := fun_mk (st := s__law_moves) l__law_moves cc__law_moves k__law_moves
  have F__law_ends := fun_mk (st := s__law_ends) l__law_ends cc__law_ends k__law_ends
  have F__law_graph := fun_mk (st := s__law_graph) l__law_graph cc__law_graph k__law_graph
  have F__law_prices := fun_mk (st := s__law_prices) l__law_prices cc__law_prices k__law_prices
  have F__law_next := fun_mk (st := s__law_next) l__law_next cc__law_next k__law_next
  have F__law_way := fun_mk (st := s__law_way) l__law_way cc__law_way k__law_way
  have F__law_rows := fun_mk (st := s__law_rows) l__law_rows cc__law_rows k__law_rows
  have F__law_told := fun_mk (st := s__law_told) l__law_told cc__law_told k__law_told
  have F_law := fun_mk (st := s_law) l_law cc_law k_law
  refine ⟨[(cA__law_prices, P__law_prices)], PySem.W.fnOf "law" "law" (defArgs s_law) (defBody s_law) (defScope s_law) .none kV_law dc_law pm_law an_law cd_law ct_law, fun p hp => ?_, nd_tabs, fun s v => .of_eq rfl, fun base _ _ TBS => ?_⟩
  · simp only [List.mem_cons, List.not_mem_nil, or_false] at hp
    rcases hp with rfl
    · exact ⟨⟨_, by simp, tabIn_of a__law_prices l__law_prices rfl lc__law_prices tv__law_prices⟩, np__law_prices⟩
  have TB__law_prices := TBS (cA__law_prices, P__law_prices) (by simp)
  have c_is_whole : Cal l.prog w K mg base "is_whole" 1 ["thing"] [] (sp_is_whole K) := ⟨_, _, [], ok_is_whole F_is_whole B , PySem.W.mg_of X G a_is_whole, k_is_whole, F_is_whole.binds (ps := ["thing"]) fun _ _ _ _ _ _ us hl => match us, hl with | [_], _ => rfl, .nil⟩
  have c_divisor : Cal l.prog w K mg base "divisor" 1 ["one", "other"] [] sp_divisor := ⟨_, _, [], ok_divisor F_divisor B , PySem.W.mg_of X G a_divisor, k_divisor, F_divisor.binds (ps := ["one", "other"]) fun _ _ _ _ _ _ us hl => match us, hl with | [_, _], _ => rfl, .nil⟩
  have c_is_fraction : Cal l.prog w K mg base "is_fraction" 2 ["thing"] [] sp_is_fraction := ⟨_, _, [], ok_is_fraction F_is_fraction B c_is_whole c_divisor, PySem.W.mg_of X G a_is_fraction, k_is_fraction, F_is_fraction.binds (ps := ["thing"]) fun _ _ _ _ _ _ us hl => match us, hl with | [_], _ => rfl, .nil⟩
  have ok_fraction_ := ok_fraction F_fraction B c_divisor
  have c_fraction_at1 : Cal l.prog w K mg base "fraction" 2 ["top", "bottom"] [.int 1] sp_fraction := by
    obtain ⟨ds, hv, hb⟩ := F_fraction.binds1 (ps := ["top", "bottom"]) 1 0 (by simp) rfl (fun T kV doc pm an cdv ct us its h1 h2 => match us, its, h1, h2 with | [_], [_], _, _ => ⟨_, rfl, rfl⟩)
    exact ⟨_, _, ds, ok_fraction_, PySem.W.mg_of X G a_fraction, k_fraction, hb, hv⟩
  have c_fraction : Cal l.prog w K mg base "fraction" 2 ["top", "bottom"] [] sp_fraction := by
    obtain ⟨ds, hv, hb⟩ := F_fraction.binds1 (ps := ["top", "bottom"]) 2 1 (by simp) rfl (fun T kV doc pm an cdv ct us its h1 h2 => match us, its, h1, h2 with | [_, _], [_], _, _ => ⟨_, rfl, rfl⟩)
    exact ⟨_, _, ds, ok_fraction_, PySem.W.mg_of X G a_fraction, k_fraction, hb, hv⟩
  have c_plus : Cal l.prog w K mg base "plus" 3 ["one", "other"] [] sp_plus := ⟨_, _, [], ok_plus F_plus B c_fraction, PySem.W.mg_of X G a_plus, k_plus, F_plus.binds (ps := ["one", "other"]) fun _ _ _ _ _ _ us hl => match us, hl with | [_, _], _ => rfl, .nil⟩
  have c_is_below : Cal l.prog w K mg base "is_below" 1 ["one", "other"] [] sp_is_below := ⟨_, _, [], ok_is_below F_is_below B , PySem.W.mg_of X G a_is_below, k_is_below, F_is_below.binds (ps := ["one", "other"]) fun _ _ _ _ _ _ us hl => match us, hl with | [_, _], _ => rfl, .nil⟩
  have c_look_list : Cal l.prog w K mg base "look_list" 1 ["things", "place", "least", "most"] [] sp_look_list := ⟨_, _, [], ok_look_list F_look_list B , PySem.W.mg_of X G a_look_list, k_look_list, F_look_list.binds (ps := ["things", "place", "least", "most"]) fun _ _ _ _ _ _ us hl => match us, hl with | [_, _, _, _], _ => rfl, .nil⟩
  have c_is_node : Cal l.prog w K mg base "is_node" 2 ["thing"] [] sp_is_node := ⟨_, _, [], ok_is_node F_is_node B c_is_whole, PySem.W.mg_of X G a_is_node, k_is_node, F_is_node.binds (ps := ["thing"]) fun _ _ _ _ _ _ us hl => match us, hl with | [_], _ => rfl, .nil⟩
  have c_is_move : Cal l.prog w K mg base "is_move" 3 ["thing"] [] sp_is_move := ⟨_, _, [], ok_is_move F_is_move B c_is_node c_is_fraction, PySem.W.mg_of X G a_is_move, k_is_move, F_is_move.binds (ps := ["thing"]) fun _ _ _ _ _ _ us hl => match us, hl with | [_], _ => rfl, .nil⟩
  have m_Listed : Mak l.prog w K mg base "Listed" C_Listed 4 ["self", "moves", "ends"] [] (sp_Listed___init__ C_Listed) := ⟨_, _, [], ⟨mk_Listed, a_Listed___init__, i_Listed___init__, kc_Listed⟩, ok_Listed___init__ F_Listed___init__ B c_look_list c_is_move c_is_node o_Listed n_Listed g_MOST_LISTED, PySem.W.mg_of X G aC_Listed, F_Listed___init__.binds (ps := ["self", "moves", "ends"]) fun _ _ _ _ _ _ us hl => match us, hl with | [_, _, _], _ => rfl, .nil⟩
  have t_Listed_first_node : Met l.prog w K mg base "first_node" C_Listed 1 ["self"] [] (sp_Listed_first_node) := ⟨_, _, [], o_Listed.cl, ⟨a_Listed_first_node, i_Listed_first_node, k_Listed_first_node⟩, ok_Listed_first_node F_Listed_first_node B , F_Listed_first_node.binds (ps := ["self"]) fun _ _ _ _ _ _ us hl => match us, hl with | [_], _ => rfl, .nil⟩
  have t_Listed_steps_from : Met l.prog w K mg base "steps_from" C_Listed 1 ["self", "node"] [] (sp_Listed_steps_from C_Listed) := ⟨_, _, [], o_Listed.cl, ⟨a_Listed_steps_from, i_Listed_steps_from, k_Listed_steps_from⟩, ok_Listed_steps_from F_Listed_steps_from B o_Listed n_Listed, F_Listed_steps_from.binds (ps := ["self", "node"]) fun _ _ _ _ _ _ us hl => match us, hl with | [_, _], _ => rfl, .nil⟩
  have t_Listed_is_end : Met l.prog w K mg base "is_end" C_Listed 1 ["self", "node"] [] (sp_Listed_is_end C_Listed) := ⟨_, _, [], o_Listed.cl, ⟨a_Listed_is_end, i_Listed_is_end, k_Listed_is_end⟩, ok_Listed_is_end F_Listed_is_end B o_Listed n_Listed, F_Listed_is_end.binds (ps := ["self", "node"]) fun _ _ _ _ _ _ us hl => match us, hl with | [_, _], _ => rfl, .nil⟩
  have c_steps_known : Cal l.prog w K mg base "steps_known" 2 ["ways"] [] (sp_steps_known C_Listed) := ⟨_, _, [], ok_steps_known F_steps_known B t_Listed_first_node t_Listed_is_end t_Listed_steps_from, PySem.W.mg_of X G a_steps_known, k_steps_known, F_steps_known.binds (ps := ["ways"]) fun _ _ _ _ _ _ us hl => match us, hl with | [_], _ => rfl, .nil⟩
  have c_least_price : Cal l.prog w K mg base "least_price" 4 ["steps", "prices"] [] sp_least_price := ⟨_, _, [], ok_least_price F_least_price B c_plus c_is_below, PySem.W.mg_of X G a_least_price, k_least_price, F_least_price.binds (ps := ["steps", "prices"]) fun _ _ _ _ _ _ us hl => match us, hl with | [_, _], _ => rfl, .nil⟩
  have c_prices_known : Cal l.prog w K mg base "prices_known" 5 ["found"] [] sp_prices_known := ⟨_, _, [], ok_prices_known F_prices_known B c_least_price, PySem.W.mg_of X G a_prices_known, k_prices_known, F_prices_known.binds (ps := ["found"]) fun _ _ _ _ _ _ us hl => match us, hl with | [_], _ => rfl, .nil⟩
  have c_prices_of : Cal l.prog w K mg base "prices_of" 6 ["ways"] [] (sp_prices_of C_Listed) := ⟨_, _, [], ok_prices_of F_prices_of B c_prices_known c_steps_known, PySem.W.mg_of X G a_prices_of, k_prices_of, F_prices_of.binds (ps := ["ways"]) fun _ _ _ _ _ _ us hl => match us, hl with | [_], _ => rfl, .nil⟩
  have c_next_chosen : Cal l.prog w K mg base "next_chosen" 4 ["steps", "prices", "price"] [] sp_next_chosen := ⟨_, _, [], ok_next_chosen F_next_chosen B c_plus, PySem.W.mg_of X G a_next_chosen, k_next_chosen, F_next_chosen.binds (ps := ["steps", "prices", "price"]) fun _ _ _ _ _ _ us hl => match us, hl with | [_, _, _], _ => rfl, .nil⟩
  have c_way_of : Cal l.prog w K mg base "way_of" 6 ["ways"] [] (sp_way_of C_Listed) := ⟨_, _, [], ok_way_of F_way_of B c_steps_known c_prices_known c_next_chosen t_Listed_first_node, PySem.W.mg_of X G a_way_of, k_way_of, F_way_of.binds (ps := ["ways"]) fun _ _ _ _ _ _ us hl => match us, hl with | [_], _ => rfl, .nil⟩
  have c__law_bag : Cal l.prog w K mg base "_law_bag" 1 ["_law_script"] [] (sp__law_bag K) := ⟨_, _, [], ok__law_bag F__law_bag B , PySem.W.mg_of X G a__law_bag, k__law_bag, F__law_bag.binds (ps := ["_law_script"]) fun _ _ _ _ _ _ us hl => match us, hl with | [_], _ => rfl, .nil⟩
  have c__law_take : Cal l.prog w K mg base "_law_take" 1 ["_law_bag_here", "_law_many"] [] sp__law_take := ⟨_, _, [], ok__law_take F__law_take B , PySem.W.mg_of X G a__law_take, k__law_take, F__law_take.binds (ps := ["_law_bag_here", "_law_many"]) fun _ _ _ _ _ _ us hl => match us, hl with | [_, _], _ => rfl, .nil⟩
  have c__law_length : Cal l.prog w K mg base "_law_length" 2 ["_law_bag_here", "_law_most"] [] sp__law_length := ⟨_, _, [], ok__law_length F__law_length B c__law_take, PySem.W.mg_of X G a__law_length, k__law_length, F__law_length.binds (ps := ["_law_bag_here", "_law_most"]) fun _ _ _ _ _ _ us hl => match us, hl with | [_, _], _ => rfl, .nil⟩
  have c__law_whole : Cal l.prog w K mg base "_law_whole" 1 ["_law_thing"] [] sp__law_whole := ⟨_, _, [], ok__law_whole F__law_whole B , PySem.W.mg_of X G a__law_whole, k__law_whole, F__law_whole.binds (ps := ["_law_thing"]) fun _ _ _ _ _ _ us hl => match us, hl with | [_], _ => rfl, .nil⟩
  have c__law_low : Cal l.prog w K mg base "_law_low" 1 ["_law_top", "_law_bottom"] [] sp__law_low := ⟨_, _, [], ok__law_low F__law_low B , PySem.W.mg_of X G a__law_low, k__law_low, F__law_low.binds (ps := ["_law_top", "_law_bottom"]) fun _ _ _ _ _ _ us hl => match us, hl with | [_, _], _ => rfl, .nil⟩
  have c__law_fraction : Cal l.prog w K mg base "_law_fraction" 2 ["_law_thing"] [] sp__law_fraction := ⟨_, _, [], ok__law_fraction F__law_fraction B c__law_whole c__law_low, PySem.W.mg_of X G a__law_fraction, k__law_fraction, F__law_fraction.binds (ps := ["_law_thing"]) fun _ _ _ _ _ _ us hl => match us, hl with | [_], _ => rfl, .nil⟩
  have c__law_sum : Cal l.prog w K mg base "_law_sum" 2 ["_law_one", "_law_other"] [] sp__law_sum := ⟨_, _, [], ok__law_sum F__law_sum B c__law_low, PySem.W.mg_of X G a__law_sum, k__law_sum, F__law_sum.binds (ps := ["_law_one", "_law_other"]) fun _ _ _ _ _ _ us hl => match us, hl with | [_, _], _ => rfl, .nil⟩
  have c__law_less : Cal l.prog w K mg base "_law_less" 1 ["_law_one", "_law_other"] [] sp__law_less := ⟨_, _, [], ok__law_less F__law_less B , PySem.W.mg_of X G a__law_less, k__law_less, F__law_less.binds (ps := ["_law_one", "_law_other"]) fun _ _ _ _ _ _ us hl => match us, hl with | [_, _], _ => rfl, .nil⟩
  have c__law_alike : Cal l.prog w K mg base "_law_alike" 3 ["_law_found", "_law_due"] [] sp__law_alike := ⟨_, _, [], ok__law_alike F__law_alike B c__law_fraction, PySem.W.mg_of X G a__law_alike, k__law_alike, F__law_alike.binds (ps := ["_law_found", "_law_due"]) fun _ _ _ _ _ _ us hl => match us, hl with | [_, _], _ => rfl, .nil⟩
  have c__law_number : Cal l.prog w K mg base "_law_number" 2 ["_law_bag_here"] [] sp__law_number := ⟨_, _, [], ok__law_number F__law_number B c__law_take, PySem.W.mg_of X G a__law_number, k__law_number, F__law_number.binds (ps := ["_law_bag_here"]) fun _ _ _ _ _ _ us hl => match us, hl with | [_], _ => rfl, .nil⟩
  have c__law_nodes : Cal l.prog w K mg base "_law_nodes" 3 ["_law_bag_here", "_law_many"] [] sp__law_nodes := ⟨_, _, [], ok__law_nodes F__law_nodes B c__law_take c__law_number, PySem.W.mg_of X G a__law_nodes, k__law_nodes, F__law_nodes.binds (ps := ["_law_bag_here", "_law_many"]) fun _ _ _ _ _ _ us hl => match us, hl with | [_, _], _ => rfl, .nil⟩
  have c__law_cost : Cal l.prog w K mg base "_law_cost" 3 ["_law_bag_here", "_law_way_here"] [] sp__law_cost := ⟨_, _, [], ok__law_cost F__law_cost B c__law_take c__law_low c__law_length, PySem.W.mg_of X G a__law_cost, k__law_cost, F__law_cost.binds (ps := ["_law_bag_here", "_law_way_here"]) fun _ _ _ _ _ _ us hl => match us, hl with | [_, _], _ => rfl, .nil⟩
  have c__law_moves : Cal l.prog w K mg base "_law_moves" 4 ["_law_bag_here", "_law_nodes_here", "_law_many"] [] sp__law_moves := ⟨_, _, [], ok__law_moves F__law_moves B c__law_take c__law_cost, PySem.W.mg_of X G a__law_moves, k__law_moves, F__law_moves.binds (ps := ["_law_bag_here", "_law_nodes_here", "_law_many"]) fun _ _ _ _ _ _ us hl => match us, hl with | [_, _, _], _ => rfl, .nil⟩
  have c__law_ends : Cal l.prog w K mg base "_law_ends" 2 ["_law_bag_here", "_law_nodes_here"] [] sp__law_ends := ⟨_, _, [], ok__law_ends F__law_ends B c__law_take, PySem.W.mg_of X G a__law_ends, k__law_ends, F__law_ends.binds (ps := ["_law_bag_here", "_law_nodes_here"]) fun _ _ _ _ _ _ us hl => match us, hl with | [_, _], _ => rfl, .nil⟩
  have c__law_graph : Cal l.prog w K mg base "_law_graph" 5 ["_law_bag_here"] [] sp__law_graph := ⟨_, _, [], ok__law_graph F__law_graph B c__law_take c__law_nodes c__law_ends c__law_moves, PySem.W.mg_of X G a__law_graph, k__law_graph, F__law_graph.binds (ps := ["_law_bag_here"]) fun _ _ _ _ _ _ us hl => match us, hl with | [_], _ => rfl, .nil⟩
  have c__law_prices : Cal l.prog w K mg base "_law_prices" 3 ["_law_moves_here", "_law_ends_here"] [] (sp__law_prices P__law_prices) := ⟨_, _, [], ok__law_prices F__law_prices B c__law_sum c__law_less rfl TB__law_prices, PySem.W.mg_of X G a__law_prices, k__law_prices, F__law_prices.binds (ps := ["_law_moves_here", "_law_ends_here"]) fun _ _ _ _ _ _ us hl => match us, hl with | [_, _], _ => rfl, .nil⟩
  have c__law_next : Cal l.prog w K mg base "_law_next" 3 ["_law_moves_here", "_law_prices_here", "_law_node"] [] sp__law_next := ⟨_, _, [], ok__law_next F__law_next B c__law_sum, PySem.W.mg_of X G a__law_next, k__law_next, F__law_next.binds (ps := ["_law_moves_here", "_law_prices_here", "_law_node"]) fun _ _ _ _ _ _ us hl => match us, hl with | [_, _, _], _ => rfl, .nil⟩
  have c__law_way : Cal l.prog w K mg base "_law_way" 4 ["_law_moves_here", "_law_ends_here"] [] (sp__law_way P__law_prices) := ⟨_, _, [], ok__law_way F__law_way B c__law_prices c__law_next, PySem.W.mg_of X G a__law_way, k__law_way, F__law_way.binds (ps := ["_law_moves_here", "_law_ends_here"]) fun _ _ _ _ _ _ us hl => match us, hl with | [_, _], _ => rfl, .nil⟩
  have c__law_rows : Cal l.prog w K mg base "_law_rows" 2 ["_law_found", "_law_due"] [] sp__law_rows := ⟨_, _, [], ok__law_rows F__law_rows B c__law_whole, PySem.W.mg_of X G a__law_rows, k__law_rows, F__law_rows.binds (ps := ["_law_found", "_law_due"]) fun _ _ _ _ _ _ us hl => match us, hl with | [_, _], _ => rfl, .nil⟩
  have c__law_told : Cal l.prog w K mg base "_law_told" 4 ["_law_found", "_law_due"] [] sp__law_told := ⟨_, _, [], ok__law_told F__law_told B c__law_alike c__law_rows, PySem.W.mg_of X G a__law_told, k__law_told, F__law_told.binds (ps := ["_law_found", "_law_due"]) fun _ _ _ _ _ _ us hl => match us, hl with | [_, _], _ => rfl, .nil⟩
  exact ok_law F_law B c__law_bag c__law_graph c__law_way c__law_take c_prices_of c__law_prices c_way_of c__law_told m_Listed o_Listed n_Listed
theorem walk {l : PySem.W.OpenLaw} {q : Program} {loose : List Str} {XP : (Str → Option Value) → Heap → Prop} {YP : World → Heap → Prop} {d : DefRec} {K : Params → PySem.W.Frag} (hn : l.most = some 63) (hdf : d.params.defaults = []) (hq : (([(Str.ofString "_law_prices")] : List Str).all fun y => ((recsOf q).find? (fun e => e.name == y)).isSome) = true)
    (hY : ∀ (w : World) (h : Heap), YP w h → (K w.params).In h)
    (F : ∀ (w : World) (mg : Str → Option Value) (fa : Addr) (h : Heap), (K w.params).In h → h.Ns mainGlobals mg → mg d.name = some (.ref fa) →
      ∃ (cs : List (Addr × Addr)) (fd : FuncData), (∀ p ∈ cs, (∃ y ∈ ([(Str.ofString "_law_prices")] : List Str), PySem.W.tabIn (K w.params) y = some p) ∧ (K w.params).lookup p.2 = none) ∧ (cs.map (·.2)).Nodup ∧ (∀ (s : Shared) (u : Value), BindsTo s fd ⟨[u], []⟩ [("_law_script", u)]) ∧ ∀ base : Heap, (K w.params).In base → base.Ns mainGlobals mg → (∀ p ∈ cs, LamX.TabB base mg p.1 p.2) → FnOk l.prog w (K w.params) mg base CX0 7 fa fd ["_law_script"] (sp_law (K w.params) (cs.map (·.2)))) :
    PySem.W.WalkO q loose XP YP l.row.toRowW d [] (fun f vs => PySem.call f vs) :=
  walk_T (n := 63) (k := 7) (x := "_law_script") (CX := fun _ => CX0) hn (by decide) hdf ⟨rfl, by decide, by decide⟩ hY (fun w mg fa h KX G hm => by
    obtain ⟨cs, fd, h1, hnd, h3, h4⟩ := F w mg fa h KX G hm
    refine ⟨fd, cs, sp_law (K w.params) (cs.map (·.2)), fun p hp => ?_, h3, fun H a ns hl hb hT hS => ⟨a, ns, rfl, hS, (fun p hp => by
      obtain ⟨z, hz, rfl⟩ := List.mem_map.mp hp
      exact hT z hz), hnd, hl, hb, fun _ => rfl⟩, fun base a b t => h4 base a b t⟩
    obtain ⟨⟨y, hy, h1⟩, h2⟩ := h1 p hp
    obtain ⟨d2, hd2⟩ := Option.isSome_iff_exists.mp (List.all_eq_true.mp hq y hy)
    exact ⟨⟨y, d2, hd2, h1⟩, h2⟩) fun _ _ _ _ _ z => z
end Fs
open PySem PySem.W PyProof.Rows
set_option maxRecDepth 100000 in
set_option maxHeartbeats 0 in
theorem PySem.Challenge.cw_fairsheet_k62_way_by_rule_holds : PySem.Challenge.rw_fairsheet_k62_way_by_rule.Holds := by
  w_on; o_law; k_head; (case hw => w_witness2)
  k_fill
  refine Fs.walk (l := PySem.Challenge.rw_fairsheet_k62_way_by_rule) rfl rfl rfl (fun w h Y => by first | exact PySem.W.kIn_of Y | exact PySem.W.km_in_of Y) ?F
  case F =>
    intro w mg fa h KX G hmg
    refine' Fs.all_mk KX G hmg ?a_is_whole ?l_is_whole ?cc_is_whole ?k_is_whole ?a_divisor ?l_divisor ?cc_divisor ?k_divisor ?a_is_fraction ?l_is_fraction ?cc_is_fraction ?k_is_fraction ?a_fraction ?l_fraction ?cc_fraction ?k_fraction ?dt_fraction ?a_plus ?l_plus ?cc_plus ?k_plus ?a_is_below ?l_is_below ?cc_is_below ?k_is_below ?a_look_list ?l_look_list ?cc_look_list ?k_look_list ?a_is_node ?l_is_node ?cc_is_node ?k_is_node ?a_is_move ?l_is_move ?cc_is_move ?k_is_move ?aC_Listed ?pg_Listed ?hd_Listed ?po_Listed ?sa_Listed ?mk_Listed ?kc_Listed ?ha_Listed ?hn_Listed ?htk_Listed ?hm_Listed ?nf_Listed_moves ?nf_Listed_ends ?nf_Listed_shelf ?a_Listed___init__ ?i_Listed___init__ ?l_Listed___init__ ?cc_Listed___init__ ?k_Listed___init__ ?a_Listed_first_node ?i_Listed_first_node ?l_Listed_first_node ?cc_Listed_first_node ?k_Listed_first_node ?a_Listed_steps_from ?i_Listed_steps_from ?l_Listed_steps_from ?cc_Listed_steps_from ?k_Listed_steps_from ?a_Listed_is_end ?i_Listed_is_end ?l_Listed_is_end ?cc_Listed_is_end ?k_Listed_is_end ?a_steps_known ?l_steps_known ?cc_steps_known ?k_steps_known ?a_least_price ?l_least_price ?cc_least_price ?k_least_price ?a_prices_known ?l_prices_known ?cc_prices_known ?k_prices_known ?a_prices_of ?l_prices_of ?cc_prices_of ?k_prices_of ?a_next_chosen ?l_next_chosen ?cc_next_chosen ?k_next_chosen ?a_way_of ?l_way_of ?cc_way_of ?k_way_of ?a__law_bag ?l__law_bag ?cc__law_bag ?k__law_bag ?a__law_take ?l__law_take ?cc__law_take ?k__law_take ?a__law_length ?l__law_length ?cc__law_length ?k__law_length ?a__law_whole ?l__law_whole ?cc__law_whole ?k__law_whole ?a__law_low ?l__law_low ?cc__law_low ?k__law_low ?a__law_fraction ?l__law_fraction ?cc__law_fraction ?k__law_fraction ?a__law_sum ?l__law_sum ?cc__law_sum ?k__law_sum ?a__law_less ?l__law_less ?cc__law_less ?k__law_less ?a__law_alike ?l__law_alike ?cc__law_alike ?k__law_alike ?a__law_number ?l__law_number ?cc__law_number ?k__law_number ?a__law_nodes ?l__law_nodes ?cc__law_nodes ?k__law_nodes ?a__law_cost ?l__law_cost ?cc__law_cost ?k__law_cost ?a__law_moves ?l__law_moves ?cc__law_moves ?k__law_moves ?a__law_ends ?l__law_ends ?cc__law_ends ?k__law_ends ?a__law_graph ?l__law_graph ?cc__law_graph ?k__law_graph ?a__law_prices ?l__law_prices ?cc__law_prices ?k__law_prices ?lc__law_prices ?tv__law_prices ?np__law_prices ?a__law_next ?l__law_next ?cc__law_next ?k__law_next ?a__law_way ?l__law_way ?cc__law_way ?k__law_way ?a__law_rows ?l__law_rows ?cc__law_rows ?k__law_rows ?a__law_told ?l__law_told ?cc__law_told ?k__law_told ?a_law ?l_law ?cc_law ?k_law ?z_len ?z_abs ?z_isinstance ?z_min ?z_max ?z_sum ?z_sorted ?z_range ?z_zip ?z_enumerate ?z_reversed ?z_int ?z_bool ?z_tuple ?z_list ?z_str ?z_dict ?z_ValueError ?z_set ?z_any ?z_all ?z_ord ?n_MOST_LISTED ?nd_tabs
    (case a_is_whole => k_is)
    (case l_is_whole => k_is)
    (case cc_is_whole => k_is)
    (case k_is_whole => k_is)
    (case a_divisor => k_is)
    (case l_divisor => k_is)
    (case cc_divisor => k_is)
    (case k_divisor => k_is)
    (case a_is_fraction => k_is)
    (case l_is_fraction => k_is)
    (case cc_is_fraction => k_is)
    (case k_is_fraction => k_is)
    (case a_fraction => k_is)
    (case l_fraction => k_is)
    (case cc_fraction => k_is)
    (case k_fraction => k_is)
    (case dt_fraction => k_is)
    (case a_plus => k_is)
    (case l_plus => k_is)
    (case cc_plus => k_is)
    (case k_plus => k_is)
    (case a_is_below => k_is)
    (case l_is_below => k_is)
    (case cc_is_below => k_is)
    (case k_is_below => k_is)
    (case a_look_list => k_is)
    (case l_look_list => k_is)
    (case cc_look_list => k_is)
    (case k_look_list => k_is)
    (case a_is_node => k_is)
    (case l_is_node => k_is)
    (case cc_is_node => k_is)
    (case k_is_node => k_is)
    (case a_is_move => k_is)
    (case l_is_move => k_is)
    (case cc_is_move => k_is)
    (case k_is_move => k_is)
    (case aC_Listed => k_is)
    (case pg_Listed => k_is)
    (case hd_Listed => k_is)
    (case po_Listed => k_is)
    (case sa_Listed => k_is)
    (case mk_Listed => k_is)
    (case kc_Listed => k_is)
    (case ha_Listed => k_is)
    (case hn_Listed => k_is)
    (case htk_Listed => k_is)
    (case hm_Listed => k_is)
    (case nf_Listed_moves => k_is)
    (case nf_Listed_ends => k_is)
    (case nf_Listed_shelf => k_is)
    (case a_Listed___init__ => k_is)
    (case i_Listed___init__ => k_is)
    (case l_Listed___init__ => k_is)
    (case cc_Listed___init__ => k_is)
    (case k_Listed___init__ => k_is)
    (case a_Listed_first_node => k_is)
    (case i_Listed_first_node => k_is)
    (case l_Listed_first_node => k_is)
    (case cc_Listed_first_node => k_is)
    (case k_Listed_first_node => k_is)
    (case a_Listed_steps_from => k_is)
    (case i_Listed_steps_from => k_is)
    (case l_Listed_steps_from => k_is)
    (case cc_Listed_steps_from => k_is)
    (case k_Listed_steps_from => k_is)
    (case a_Listed_is_end => k_is)
    (case i_Listed_is_end => k_is)
    (case l_Listed_is_end => k_is)
    (case cc_Listed_is_end => k_is)
    (case k_Listed_is_end => k_is)
    (case a_steps_known => k_is)
    (case l_steps_known => k_is)
    (case cc_steps_known => k_is)
    (case k_steps_known => k_is)
    (case a_least_price => k_is)
    (case l_least_price => k_is)
    (case cc_least_price => k_is)
    (case k_least_price => k_is)
    (case a_prices_known => k_is)
    (case l_prices_known => k_is)
    (case cc_prices_known => k_is)
    (case k_prices_known => k_is)
    (case a_prices_of => k_is)
    (case l_prices_of => k_is)
    (case cc_prices_of => k_is)
    (case k_prices_of => k_is)
    (case a_next_chosen => k_is)
    (case l_next_chosen => k_is)
    (case cc_next_chosen => k_is)
    (case k_next_chosen => k_is)
    (case a_way_of => k_is)
    (case l_way_of => k_is)
    (case cc_way_of => k_is)
    (case k_way_of => k_is)
    (case a__law_bag => k_is)
    (case l__law_bag => k_is)
    (case cc__law_bag => k_is)
    (case k__law_bag => k_is)
    (case a__law_take => k_is)
    (case l__law_take => k_is)
    (case cc__law_take => k_is)
    (case k__law_take => k_is)
    (case a__law_length => k_is)
    (case l__law_length => k_is)
    (case cc__law_length => k_is)
    (case k__law_length => k_is)
    (case a__law_whole => k_is)
    (case l__law_whole => k_is)
    (case cc__law_whole => k_is)
    (case k__law_whole => k_is)
    (case a__law_low => k_is)
    (case l__law_low => k_is)
    (case cc__law_low => k_is)
    (case k__law_low => k_is)
    (case a__law_fraction => k_is)
    (case l__law_fraction => k_is)
    (case cc__law_fraction => k_is)
    (case k__law_fraction => k_is)
    (case a__law_sum => k_is)
    (case l__law_sum => k_is)
    (case cc__law_sum => k_is)
    (case k__law_sum => k_is)
    (case a__law_less => k_is)
    (case l__law_less => k_is)
    (case cc__law_less => k_is)
    (case k__law_less => k_is)
    (case a__law_alike => k_is)
    (case l__law_alike => k_is)
    (case cc__law_alike => k_is)
    (case k__law_alike => k_is)
    (case a__law_number => k_is)
    (case l__law_number => k_is)
    (case cc__law_number => k_is)
    (case k__law_number => k_is)
    (case a__law_nodes => k_is)
    (case l__law_nodes => k_is)
    (case cc__law_nodes => k_is)
    (case k__law_nodes => k_is)
    (case a__law_cost => k_is)
    (case l__law_cost => k_is)
    (case cc__law_cost => k_is)
    (case k__law_cost => k_is)
    (case a__law_moves => k_is)
    (case l__law_moves => k_is)
    (case cc__law_moves => k_is)
    (case k__law_moves => k_is)
    (case a__law_ends => k_is)
    (case l__law_ends => k_is)
    (case cc__law_ends => k_is)
    (case k__law_ends => k_is)
    (case a__law_graph => k_is)
    (case l__law_graph => k_is)
    (case cc__law_graph => k_is)
    (case k__law_graph => k_is)
    (case a__law_prices => k_is)
    (case l__law_prices => k_is)
    (case cc__law_prices => k_is)
    (case k__law_prices => k_is)
    (case lc__law_prices => k_is)
    (case tv__law_prices => rfl)
    (case np__law_prices => kernel_rfl)
    (case a__law_next => k_is)
    (case l__law_next => k_is)
    (case cc__law_next => k_is)
    (case k__law_next => k_is)
    (case a__law_way => k_is)
    (case l__law_way => k_is)
    (case cc__law_way => k_is)
    (case k__law_way => k_is)
    (case a__law_rows => k_is)
    (case l__law_rows => k_is)
    (case cc__law_rows => k_is)
    (case k__law_rows => k_is)
    (case a__law_told => k_is)
    (case l__law_told => k_is)
    (case cc__law_told => k_is)
    (case k__law_told => k_is)
    (case a_law => k_is)
    (case l_law => k_is)
    (case cc_law => k_is)
    (case k_law => k_is)
    (case z_len => k_is)
    (case z_abs => k_is)
    (case z_isinstance => k_is)
    (case z_min => k_is)
    (case z_max => k_is)
    (case z_sum => k_is)
    (case z_sorted => k_is)
    (case z_range => k_is)
    (case z_zip => k_is)
    (case z_enumerate => k_is)
    (case z_reversed => k_is)
    (case z_int => k_is)
    (case z_bool => k_is)
    (case z_tuple => k_is)
    (case z_list => k_is)
    (case z_str => k_is)
    (case z_dict => k_is)
    (case z_ValueError => k_is)
    (case z_set => k_is)
    (case z_any => k_is)
    (case z_all => k_is)
    (case z_ord => k_is)
    (case n_MOST_LISTED => k_is)
    (case nd_tabs => decide +kernel)
