import PyProof.Rows.All
import Wide.All
import OpenK.AllK
import Wide.FinOn
import HandS.ForMost
import HandS.Wide
import HandS.Walk
import HandS.IsInst
import HandS.Flow
import HandS.Style
import HandS.Zip
import HandS.EndBits
import HandS.Defaults
import HandS.More
import HandS.MakeKwOnly
import HandS.MakeKw
import HandS.Text
import PyProof.StrOps2
import HandS.Nested
import HandS.EndTab
import HandS.SortInts
import HandS.Exc
import HandS.ExcOwn
import HandS.WordsExc
import HandS.ExcIs
import HandS.ExcInit
import KE.KExcIs
import HandS.DictComp
import KE.KDictCopyH
import HandS.SortKw
import HandS.SortRule
import HandS.Conv
import HandS.ExcValue
import KE.KDictSum
import PySem.Challenge.RW_fairsheet_k82_lines_are_columns
set_option Elab.async false
set_option linter.all false
set_option maxRecDepth 100000
set_option maxHeartbeats 20000000
set_option exponentiation.threshold 20000
namespace Fs
open PySem PySem.Spec PyProof.Rows L2

/-! ### data and what denotes it -/
inductive D where
  | non | bl (b : Bool) | int (i : Int) | str (x : Str) | ref (a : Addr) | ty (n : String)
  | tup (ds : List D) | lst (ds : List D) | obj (C : Addr) (fs : List (Str × D)) | dict | fact (φ : V → Hp → Prop)

mutual
inductive Is (I : Hp) : V → D → Prop
  | non : Is I .non .non
  | bl (b : Bool) : Is I (.bl b) (.bl b)
  | int (i : Int) : Is I (.int i) (.int i)
  | str (x : Str) : Is I (.str x) (.str x)
  | ref (a : Addr) : Is I (.ref a) (.ref a)
  | ty (n : String) : Is I (.ty n) (.ty n)
  | tup {p : Addr} {vs : List V} {ds : List D} : I p = some (.tup vs) → IsA I vs ds → Is I (.ref p) (.tup ds)
  | lst {p : Addr} {vs : List V} {ds : List D} : I p = some (.lst vs) → IsA I vs ds → Is I (.ref p) (.lst ds)
  | obj {p C dx : Addr} {fs : List (Str × V)} {ds : List (Str × D)} : I p = some (.ins C dx fs) → IsF I fs ds → Is I (.ref p) (.obj C ds)
  | dct {p : Addr} {kvs : List (Key × V)} : I p = some (.dK kvs) → Is I (.ref p) .dict
  | fact {v : V} {φ : V → Hp → Prop} {J : Hp} : Same J I → φ v J → Is I v (.fact φ)
inductive IsA (I : Hp) : List V → List D → Prop
  | nil : IsA I [] []
  | cons {v : V} {d : D} {vs : List V} {ds : List D} : Is I v d → IsA I vs ds → IsA I (v :: vs) (d :: ds)
inductive IsF (I : Hp) : List (Str × V) → List (Str × D) → Prop
  | nil : IsF I [] []
  | cons {f : Str} {v : V} {d : D} {vs : List (Str × V)} {ds : List (Str × D)} : Is I v d → IsF I vs ds → IsF I ((f, v) :: vs) ((f, d) :: ds)
end
mutual
theorem Is.mono {I J : Hp} (s : Same I J) : ∀ {v : V} {d : D}, Is I v d → Is J v d
  | _, _, .non => .non
  | _, _, .bl b => .bl b
  | _, _, .int i => .int i
  | _, _, .str x => .str x
  | _, _, .ref a => .ref a
  | _, _, .ty n => .ty n
  | _, _, .tup h a => .tup (s _ _ h) (IsA.mono s a)
  | _, _, .lst h a => .lst (s _ _ h) (IsA.mono s a)
  | _, _, .obj h a => .obj (s _ _ h) (IsF.mono s a)
  | _, _, .dct h => .dct (s _ _ h)
  | _, _, .fact h q => .fact (h.trans s) q
theorem IsA.mono {I J : Hp} (s : Same I J) : ∀ {vs : List V} {ds : List D}, IsA I vs ds → IsA J vs ds
  | _, _, .nil => .nil
  | _, _, .cons h a => .cons (Is.mono s h) (IsA.mono s a)
theorem IsF.mono {I J : Hp} (s : Same I J) : ∀ {vs : List (Str × V)} {ds : List (Str × D)}, IsF I vs ds → IsF J vs ds
  | _, _, .nil => .nil
  | _, _, .cons h a => .cons (Is.mono s h) (IsF.mono s a)
end
section
variable {I J : Hp} {v : V} {vs : List V} {ds es : List D} {d : D}
theorem Is.int_eq {n : Int} (h : Is I v (.int n)) : v = .int n := by cases h; rfl
theorem Is.bl_eq {n : Bool} (h : Is I v (.bl n)) : v = .bl n := by cases h; rfl
theorem Is.str_eq {n : Str} (h : Is I v (.str n)) : v = .str n := by cases h; rfl
theorem Is.non_eq (h : Is I v .non) : v = .non := by cases h; rfl
theorem Is.ref_eq {a : Addr} (h : Is I v (.ref a)) : v = .ref a := by cases h; rfl
theorem Is.tup_ex (h : Is I v (.tup ds)) : ∃ p vs, v = .ref p ∧ I p = some (.tup vs) ∧ IsA I vs ds := by
  cases h with | tup h a => exact ⟨_, _, rfl, h, a⟩
theorem Is.lst_ex (h : Is I v (.lst ds)) : ∃ p vs, v = .ref p ∧ I p = some (.lst vs) ∧ IsA I vs ds := by
  cases h with | lst h a => exact ⟨_, _, rfl, h, a⟩
theorem Is.obj_ex {C : Addr} {fs : List (Str × D)} (h : Is I v (.obj C fs)) : ∃ p dx vs, v = .ref p ∧ I p = some (.ins C dx vs) ∧ IsF I vs fs := by
  cases h with | obj h a => exact ⟨_, _, _, rfl, h, a⟩
theorem IsA.length : ∀ {vs : List V} {ds : List D}, IsA I vs ds → vs.length = ds.length
  | _, _, .nil => rfl
  | _, _, .cons _ a => by rw [List.length_cons, List.length_cons, a.length]
theorem IsA.get : ∀ {vs : List V} {ds : List D} {i : Nat} {d : D}, IsA I vs ds → ds[i]? = some d → ∃ v, vs[i]? = some v ∧ Is I v d
  | _, _, _, _, .nil, h => by simp at h
  | _, _, 0, _, .cons h _, e => by simp at e; subst e; exact ⟨_, rfl, h⟩
  | _, _, i + 1, d, .cons _ a, e => by
    obtain ⟨v, h1, h2⟩ := IsA.get (i := i) (d := d) a (by simpa using e)
    exact ⟨v, by simpa using h1, h2⟩
theorem IsA.of : ∀ {vs : List V} {ds : List D} {i : Nat} {v : V}, IsA I vs ds → vs[i]? = some v → ∃ d, ds[i]? = some d ∧ Is I v d
  | _, _, _, _, .nil, h => by simp at h
  | _, _, 0, _, .cons h _, e => by simp at e; subst e; exact ⟨_, rfl, h⟩
  | _, _, i + 1, d, .cons _ a, e => by
    obtain ⟨v, h1, h2⟩ := IsA.of (i := i) a (by simpa using e)
    exact ⟨v, by simpa using h1, h2⟩
theorem IsA.app : ∀ {vs us : List V} {ds es : List D}, IsA I vs ds → IsA I us es → IsA I (vs ++ us) (ds ++ es)
  | _, _, _, _, .nil, b => b
  | _, _, _, _, .cons h a, b => .cons h (IsA.app a b)
theorem IsA.one (h : Is I v d) : IsA I [v] [d] := .cons h .nil
theorem IsA.rev : ∀ {vs : List V} {ds : List D}, IsA I vs ds → IsA I vs.reverse ds.reverse
  | _, _, .nil => .nil
  | _, _, .cons h a => by rw [List.reverse_cons, List.reverse_cons]; exact (IsA.rev a).app (.one h)
theorem IsA.take : ∀ {vs : List V} {ds : List D} (n : Nat), IsA I vs ds → IsA I (vs.take n) (ds.take n)
  | _, _, 0, _ => .nil
  | _, _, _ + 1, .nil => .nil
  | _, _, n + 1, .cons h a => .cons h (IsA.take n a)
theorem IsA.drop : ∀ {vs : List V} {ds : List D} (n : Nat), IsA I vs ds → IsA I (vs.drop n) (ds.drop n)
  | _, _, 0, a => a
  | _, _, _ + 1, .nil => .nil
  | _, _, n + 1, .cons h a => IsA.drop n a
theorem IsA.ints : ∀ (ns : List Int), IsA I (ns.map V.int) (ns.map D.int)
  | [] => .nil
  | n :: r => .cons (.int n) (IsA.ints r)
theorem IsA.ints_eq : ∀ {vs : List V} {ns : List Int}, IsA I vs (ns.map D.int) → vs = ns.map V.int
  | _, [], h => by cases h; rfl
  | _, n :: r, h => by
    cases h with
    | cons h a => rw [h.int_eq, IsA.ints_eq a]; rfl
theorem IsF.get : ∀ {fs : List (Str × V)} {ds : List (Str × D)} {f : Str} {d : D}, IsF I fs ds → ds.lookup f = some d → ∃ v, fs.lookup f = some v ∧ Is I v d
  | _, _, _, _, .nil, e => by simp at e
  | _, _, f, d, .cons (f := g) h a, e => by
    rw [List.lookup_cons] at e
    cases hc : f == g with
    | true => rw [hc] at e; simp at e; subst e; exact ⟨_, by rw [List.lookup_cons, hc], h⟩
    | false =>
      rw [hc] at e
      obtain ⟨v, h1, h2⟩ := IsF.get a e
      exact ⟨v, by rw [List.lookup_cons, hc]; exact h1, h2⟩
theorem IsF.no : ∀ {fs : List (Str × V)} {ds : List (Str × D)} {f : Str}, IsF I fs ds → ds.lookup f = none → fs.lookup f = none
  | _, _, _, .nil, _ => rfl
  | _, _, f, .cons (f := g) h a, e => by
    rw [List.lookup_cons] at e ⊢
    cases hc : f == g with
    | true => rw [hc] at e; cases e
    | false => rw [hc] at e; exact IsF.no a e
end

/-! ### the heap: what stays (I), what may be changed (M) -/
structure W (I H : Hp) (M : List (Addr × HO)) : Prop where
  imm : Same I H
  mu : ∀ p ∈ M, H p.1 = some p.2 ∧ I p.1 = none
  nd : (M.map (·.1)).Nodup
section
variable {I H : Hp} {M M1 M2 : List (Addr × HO)} {p : Addr} {o o' : HO} {m : Addr × HO}
theorem same_new (h : H p = none) : Same H (upd H p o) := fun b x e => by
  rw [upd_ne (ne_of_none e h)]
  exact e
theorem W.fresh (w : W I H M) (h : H p = none) : I p = none := w.imm.free h
theorem W.notin (w : W I H M) (h : H p = none) : p ∉ M.map (·.1) := fun q => by
  obtain ⟨x, hx, e⟩ := List.mem_map.mp q
  have := (w.mu x hx).1
  rw [e, h] at this
  cases this
/-- a new thing that stays -/
theorem W.newI (w : W I H M) (h : H p = none) : W (upd I p o) (upd H p o) M where
  imm := fun b x e => by
    by_cases hb : b = p
    · subst hb; rw [upd_same] at e ⊢; exact e
    · rw [upd_ne hb] at e ⊢; exact w.imm b x e
  mu := fun x hx => by
    have q : x.1 ≠ p := fun e => w.notin h (e ▸ List.mem_map_of_mem hx)
    rw [upd_ne q, upd_ne q]
    exact w.mu x hx
  nd := w.nd
theorem W.same (w : W I H M) (h : H p = none) : Same I (upd I p o) := same_new (w.fresh h)
/-- a new thing that may be changed -/
theorem W.newM (w : W I H M) (h : H p = none) : W I (upd H p o) ((p, o) :: M) where
  imm := fun b x e => by
    rw [upd_ne (ne_of_none e (w.fresh h))]
    exact w.imm b x e
  mu := fun x hx => by
    rcases List.mem_cons.mp hx with e | hx
    · subst e; exact ⟨upd_same, w.fresh h⟩
    · have q : x.1 ≠ p := fun e => w.notin h (e ▸ List.mem_map_of_mem hx)
      rw [upd_ne q]
      exact w.mu x hx
  nd := List.nodup_cons.mpr ⟨w.notin h, w.nd⟩
theorem W.newM2 (w : W I H (m :: M)) (h : H p = none) : W I (upd H p o) (m :: (p, o) :: M) := by
  have q := w.newM (o := o) h
  refine ⟨q.imm, fun x hx => q.mu x ?_, ?_⟩
  · rcases List.mem_cons.mp hx with e | hx
    · exact List.mem_cons.mpr (.inr (List.mem_cons.mpr (.inl e)))
    · rcases List.mem_cons.mp hx with e | hx
      · exact List.mem_cons.mpr (.inl e)
      · exact List.mem_cons.mpr (.inr (List.mem_cons.mpr (.inr hx)))
  · have n := q.nd
    simp only [List.map_cons, List.nodup_cons, List.mem_cons, not_or] at n ⊢
    exact ⟨⟨fun e => n.1.1 e.symm, n.2.1⟩, n.1.2, n.2.2⟩
/-- a change -/
theorem W.put (w : W I H (M1 ++ (p, o) :: M2)) : W I (upd H p o') (M1 ++ (p, o') :: M2) := by
  have n := w.nd
  simp only [List.map_append, List.map_cons] at n
  have hp := w.mu (p, o) (List.mem_append_right _ List.mem_cons_self)
  refine ⟨fun b x e => ?_, fun x hx => ?_, by simpa only [List.map_append, List.map_cons] using n⟩
  · rw [upd_ne (ne_of_none e hp.2)]
    exact w.imm b x e
  · have n2 := List.nodup_append.mp n
    have n3 := List.nodup_cons.mp n2.2.1
    rcases List.mem_append.mp hx with h | h
    · have q : x.1 ≠ p := n2.2.2 _ (List.mem_map_of_mem h) _ List.mem_cons_self
      rw [upd_ne q]
      exact w.mu x (List.mem_append_left _ h)
    · rcases List.mem_cons.mp h with e | h
      · subst e; exact ⟨upd_same, hp.2⟩
      · have q : x.1 ≠ p := fun e => n3.1 (e ▸ List.mem_map_of_mem h)
        rw [upd_ne q]
        exact w.mu x (List.mem_append_right _ (List.mem_cons_of_mem _ h))
theorem W.put0 (w : W I H ((p, o) :: M2)) : W I (upd H p o') ((p, o') :: M2) := W.put (M1 := []) w
theorem W.put1 {m0 : Addr × HO} (w : W I H (m0 :: (p, o) :: M2)) : W I (upd H p o') (m0 :: (p, o') :: M2) := W.put (M1 := [m0]) w
theorem W.put2 {m0 m1 : Addr × HO} (w : W I H (m0 :: m1 :: (p, o) :: M2)) : W I (upd H p o') (m0 :: m1 :: (p, o') :: M2) := W.put (M1 := [m0, m1]) w
/-- what may be changed stays from now on -/
theorem W.frz (w : W I H (M1 ++ (p, o) :: M2)) : W (upd I p o) H (M1 ++ M2) := by
  have n := w.nd
  simp only [List.map_append, List.map_cons] at n
  have hp := w.mu (p, o) (List.mem_append_right _ List.mem_cons_self)
  have n2 := List.nodup_append.mp n
  have n3 := List.nodup_cons.mp n2.2.1
  refine ⟨fun b x e => ?_, fun x hx => ?_, ?_⟩
  · by_cases hb : b = p
    · subst hb; rw [upd_same] at e; cases e; exact hp.1
    · rw [upd_ne hb] at e; exact w.imm b x e
  · have q : x.1 ≠ p := by
      rcases List.mem_append.mp hx with h | h
      · exact n2.2.2 _ (List.mem_map_of_mem h) _ List.mem_cons_self
      · exact fun e => n3.1 (e ▸ List.mem_map_of_mem h)
    rw [upd_ne q]
    refine w.mu x ?_
    rcases List.mem_append.mp hx with h | h
    · exact List.mem_append_left _ h
    · exact List.mem_append_right _ (List.mem_cons_of_mem _ h)
  · rw [List.map_append]
    exact n.sublist (List.Sublist.append_left (List.sublist_cons_self _ _) _)
theorem W.frzS (w : W I H (M1 ++ (p, o) :: M2)) : Same I (upd I p o) := same_new (w.mu (p, o) (List.mem_append_right _ List.mem_cons_self)).2
theorem W.at (w : W I H (M1 ++ (p, o) :: M2)) : H p = some o := (w.mu (p, o) (List.mem_append_right _ List.mem_cons_self)).1
theorem W.at0 (w : W I H ((p, o) :: M2)) : H p = some o := W.at (M1 := []) w
theorem W.at1 {m0 : Addr × HO} (w : W I H (m0 :: (p, o) :: M2)) : H p = some o := W.at (M1 := [m0]) w
theorem W.at2 {m0 m1 : Addr × HO} (w : W I H (m0 :: m1 :: (p, o) :: M2)) : H p = some o := W.at (M1 := [m0, m1]) w
/-- the heap has more -/
theorem W.more {H' : Hp} (w : W I H M) (s : Same H H') : W I H' M := ⟨w.imm.trans s, fun x hx => ⟨s _ _ (w.mu x hx).1, (w.mu x hx).2⟩, w.nd⟩
end
end Fs

namespace Fs
open PySem PySem.Spec PyProof.Rows L2

/-! ### rules for several kinds at once -/
section
variable {X : Cx}
theorem opOr {f : Value → Value → Sem Value} {r r' : R2} (a : OpR X f r) (b : OpR X f r') : OpR X f (fun x y H Q => r x y H Q ∨ r' x y H Q) := by
  intro pins s σ H x y v u Q I rx ry h
  rcases h with h | h
  · exact a pins s σ H x y v u Q I rx ry h
  · exact b pins s σ H x y v u Q I rx ry h
theorem callOr {f : Value} {r r' : List V → Hp → VK → Prop} (a : CallR X f r) (b : CallR X f r') : CallR X f (fun xs H Q => r xs H Q ∨ r' xs H Q) := by
  intro pins s σ H xs us Q I rx h
  rcases h with h | h
  · exact a pins s σ H xs us Q I rx h
  · exact b pins s σ H xs us Q I rx h
theorem piOr {tg iter : Expr} {w w' : TI} (a : PI X tg iter w) (b : PI X tg iter w') : PI X tg iter (fun σ H R => w σ H R ∨ w' σ H R) := by
  refine ⟨fun pins s σ H R I h => ?_⟩
  rcases h with h | h
  · exact a.run pins s σ H R I h
  · exact b.run pins s σ H R I h
def rAddS : R2 := fun x y H Q => ∃ i j, x = .str i ∧ y = .str j ∧ i.length + j.length ≤ sizeLine ∧ Q (.str (i ++ j)) H
def rAddU (K : PySem.W.Frag) : R2 := fun x y H Q => rI0 (fun i j => .int (i + j)) x y H Q ∨ (rAddS x y H Q ∨ (rCat x y H Q ∨ rCatT K x y H Q))
theorem uo_add : OpR X (binaryOp .Add) (rAddU X.K) := opOr op_add (opOr op_add_str (opOr op_cat op_catT))
def rMulU : R2 := fun x y H Q => rI CMulW (fun i j => .int (i * j)) x y H Q ∨ rRep x y H Q
theorem uo_mul : OpR X (binaryOp .Mult) rMulU := opOr op_mulW op_rep
def rEqU (K : PySem.W.Frag) : R2 := fun x y H Q => rEq x y H Q ∨ rEqD K x y H Q
def rNeU (K : PySem.W.Frag) : R2 := fun x y H Q => rNe x y H Q ∨ rNeD K x y H Q
theorem uo_eq (hu : X.A.units + 64 < cLine) : OpR X (compareOp .Eq) (rEqU X.K) := opOr op_eq (op_eqD hu)
theorem uo_ne (hu : X.A.units + 64 < cLine) : OpR X (compareOp .NotEq) (rNeU X.K) := opOr op_ne (op_neD hu)
def rLenQ (K : PySem.W.Frag) : List V → Hp → VK → Prop := fun xs H Q => ∃ p ys, xs = [.ref p] ∧ (SqL K H p ys ∨ SqT K H p ys) ∧ Q (.int ys.length) H
def rLenStr : List V → Hp → VK → Prop := fun xs H Q => ∃ z, xs = [.str z] ∧ z.length ≤ sizeLine ∧ Q (.int z.length) H
def rLenU (K : PySem.W.Frag) : List V → Hp → VK → Prop := fun xs H Q => rLenQ K xs H Q ∨ rLenStr xs H Q
theorem uc_len : CallR X (.builtin "len") (rLenU X.K) := callOr call_len_seq call_len_str
def rAbs : List V → Hp → VK → Prop := fun xs H Q => ∃ i, xs = [.int i] ∧ Q (.int (if i < 0 then -i else i)) H
theorem uc_abs : CallR X (.builtin "abs") rAbs := call_abs
def rIsiU (K : PySem.W.Frag) : List V → Hp → VK → Prop := fun xs H Q => rIsi K xs H Q ∨ rIsiT K xs H Q
theorem uc_isi : CallR X (.builtin "isinstance") (rIsiU X.K) := callOr call_isi call_isiT
def rInt1 : List V → Hp → VK → Prop := fun xs H Q => (∃ i, xs = [.int i] ∧ Q (.int i) H) ∨ ∃ k, xs = [.bl k] ∧ Q (.int (if k then 1 else 0)) H
theorem uc_int : CallR X (.type "int") rInt1 := call_int1
def rMin2 : List V → Hp → VK → Prop := fun xs H Q => ∃ i j, xs = [.int i, .int j] ∧ Q (.int (if j < i then j else i)) H
def rMax2 : List V → Hp → VK → Prop := fun xs H Q => ∃ i j, xs = [.int i, .int j] ∧ Q (.int (if j > i then j else i)) H
def rMinU (K : PySem.W.Frag) : List V → Hp → VK → Prop := fun xs H Q => rMin2 xs H Q ∨ rMin K xs H Q
def rMaxU (K : PySem.W.Frag) : List V → Hp → VK → Prop := fun xs H Q => rMax2 xs H Q ∨ rMax K xs H Q
theorem uc_min (hc : X.calm = true) : CallR X (.builtin "min") (rMinU X.K) := callOr (call_min2 hc) (cr_min hc)
theorem uc_max (hc : X.calm = true) : CallR X (.builtin "max") (rMaxU X.K) := callOr (call_max2 hc) (cr_max hc)
def rListOf (K : PySem.W.Frag) : List V → Hp → VK → Prop := fun xs H Q => ∃ p ys, xs = [.ref p] ∧ (SqL K H p ys ∨ SqT K H p ys) ∧ ∀ l, H l = none → Q (.ref l) (upd H l (.lst ys))
theorem uc_list : CallR X (.type "list") (rListOf X.K) := call_list_of
def iSeqU (K : PySem.W.Frag) (tl : TE) : TI := fun σ H R => iList K tl σ H R ∨ iTup K tl σ H R
theorem pi_seq {tg l : Expr} {tl : TE} (h : PE X l tl) : PI X tg l (iSeqU X.K tl) := piOr (pi_list h) (pi_tup h)
end

/-! ### a def that may be called -/
structure Cal (P : Program) (w : World) (K : PySem.W.Frag) (mg : Str → Option Value) (base : Heap) (x : Str) (k : Nat) (ps : List Str) (dvs : List V) (sp : Sp) : Prop where
  ex : ∃ (f : Addr) (fd : FuncData) (ds : List Value), FnOk P w K mg base CX0 k f fd ps sp ∧ mg x = some (.ref f) ∧ PySem.W.keepIn K (.ref f) = true ∧ Binds K fd ps ds ∧ Vals dvs ds
section
variable {X : Cx} {x : Str} {p pos : Pos} {e : Expr} {es : List Expr} {t : TA} {k : Nat} {ps : List Str} {dvs : List V} {sp : Sp}
theorem pe_cal (c : Cal X.prog X.w X.K X.mg X.base x k ps dvs sp) (hr : Room k X.A) (hg : Gl X x) (ha : PA X (e :: es) t) (hdb : (x == ("__debug__" : Str)) = false := by decide)
    (he : starEach (e :: es) X.env = (false, eval e X.env) :: starEach es X.env := by rfl) (hpl : (backTo pos (starEach es X.env)).any (·.1) = false := by rfl) : PE X (.Call (.Name x p) (e :: es) [] pos) (tCall sp dvs E0 t) := by
  obtain ⟨f, fd, ds, F, hm, hk, hb, hd⟩ := c.ex
  exact pe_call F hr hg hm hk hb hd pass0 ha hdb he hpl
theorem pe_cal0 (c : Cal X.prog X.w X.K X.mg X.base x k ps dvs sp) (hr : Room k X.A) (hg : Gl X x) (hdb : (x == ("__debug__" : Str)) = false := by decide) : PE X (.Call (.Name x p) [] [] pos) (tCall sp dvs E0 tNil) := by
  obtain ⟨f, fd, ds, F, hm, hk, hb, hd⟩ := c.ex
  exact pe_call0 F hr hg hm hk hb hd pass0 hdb
end

/-! ### steps of a reading -/
section
variable {K : PySem.W.Frag} {σ σ' : L2.St} {I H : Hp} {M M1 M2 : List (Addr × HO)} {Q : VK} {R : Bool → Hp → Prop} {RA : List V → Hp → Prop} {G : Ends} {ta tb tc te : TE} {t u : TS} {c c' : TT} {tA tr : TA} {g : TG} {r r' : R2} {i : Nat} {v x y : V} {xs vs : List V} {d : D} {ds es : List D}
-- statements
theorem s_seq (h : t { G with nx := u G } σ H) : tSeq t u G σ H := h
theorem s_next (h : G.nx σ H) : tNext G σ H := h
theorem s_brk (h : G.bk σ H) : tBreak G σ H := h
theorem s_cnt (h : G.ct σ H) : tCont G σ H := h
theorem s_ifS (h : c σ H fun b H1 => if b = true then t G σ H1 else u G σ H1) : tIfS c t u G σ H := h
theorem s_asg (h : te σ H fun x H1 => g x σ H1 G.nx) : tAsg te g G σ H := h
theorem s_ret (h : te σ H G.rt) : tRet te G σ H := h
theorem s_retN (h : G.rt .non H) : tRetN G σ H := h
theorem s_drop (h : te σ H fun _ H1 => G.nx σ H1) : tDrop te G σ H := h
theorem s_par {i j : Nat} (h : tA σ H fun vs H1 => ∃ v w, vs = [v, w] ∧ G.nx ((σ.set i (some v)).set j (some w)) H1) : tPar i j tA G σ H := h
theorem s_par2 {P : V → V → Prop} (h : P x y) : ∃ v w, [x, y] = [v, w] ∧ P v w := ⟨x, y, rfl, h⟩
theorem s_gname {T : L2.St → Hp → Prop} (h : T (σ.set i (some v)) H) : gName i v σ H T := h
/-- a mid-word: the ways of a statement meet -/
theorem s_mid (Mid : L2.St → Hp → Prop) (k : ∀ σ H, Mid σ H → u G σ H) (h : ∀ N : L2.St → Hp → Prop, (∀ σ' H', Mid σ' H' → N σ' H') → t { G with nx := N } σ H) : tSeq t u G σ H := h _ k
/-- .. (elder form) -/
theorem s_cut (Mid : L2.St → Hp → Prop) (h : t { G with nx := Mid } σ H) (k : ∀ σ H, Mid σ H → u G σ H) (mono : ∀ {G' : Ends}, True := by trivial) (hm : (∀ σ H, Mid σ H → u G σ H) → t { G with nx := Mid } σ H → t { G with nx := u G } σ H) : tSeq t u G σ H := hm k h
-- expressions
theorem s_var (h : σ[i]? = some (some v)) (q : Q v H) : tVar i σ H Q := ⟨v, h, q⟩
theorem s_c (q : Q v H) : tC v σ H Q := q
theorem s_op (h : ta σ H fun x H1 => tb σ H1 fun y H2 => r x y H2 Q) : tOp r ta tb σ H Q := h
theorem s_un {r : V → Hp → VK → Prop} (h : ta σ H fun x H1 => r x H1 Q) : tUn r ta σ H Q := h
theorem s_test (h : ta σ H fun x H' => ∃ k, x = .bl k ∧ R k H') : tTest ta σ H R := h
theorem s_B (h : ta σ H fun x H' => ∃ k, x = .bl k ∧ R k H') : tB ta σ H R := h
theorem s_k {b : Bool} {P : Bool → Prop} (h : P b) : ∃ k, V.bl b = .bl k ∧ P k := ⟨b, rfl, h⟩
theorem s_and (h : c σ H fun b H1 => if b = true then c' σ H1 R else R false H1) : tAnd c c' σ H R := h
theorem s_or (h : c σ H fun b H1 => if b = true then R true H1 else c' σ H1 R) : tOr c c' σ H R := h
theorem s_not (h : c σ H fun b H1 => R (!b) H1) : tNot c σ H R := h
theorem s_andV (h : ta σ H fun x H1 => ∃ c, x = .bl c ∧ if c = true then tb σ H1 Q else Q (.bl false) H1) : tAndV ta tb σ H Q := h
theorem s_orV (h : ta σ H fun x H1 => ∃ c, x = .bl c ∧ if c = true then Q (.bl true) H1 else tb σ H1 Q) : tOrV ta tb σ H Q := h
theorem s_notV (h : ta σ H fun x H1 => ∃ c, x = .bl c ∧ Q (.bl (!c)) H1) : tNotV ta σ H Q := h
theorem s_if (h : c σ H fun b H1 => if b = true then ta σ H1 Q else tb σ H1 Q) : tIf c ta tb σ H Q := h
theorem s_isN (h : ta σ H fun x H1 => Q (.bl (decide (x = .non))) H1) : tIsN ta σ H Q := h
theorem s_notN (h : ta σ H fun x H1 => Q (.bl (!decide (x = .non))) H1) : tNotN ta σ H Q := h
theorem s_chain (h : ta σ H fun x H1 => tb σ H1 fun y H2 => r x y H2 fun z H3 => ∃ k, z = .bl k ∧ if k = true then tc σ H3 fun w H4 => r' y w H4 Q else Q (.bl false) H3) : tChain r r' ta tb tc σ H Q := by
  unfold tChain
  exact h
theorem s_nil (h : RA [] H) : tNil σ H RA := h
theorem s_cons (h : ta σ H fun x H1 => tr σ H1 fun xs H2 => RA (x :: xs) H2) : tCons ta tr σ H RA := h
theorem s_call {sp : Sp} {dvs : List V} {E : XK} (h : tA σ H fun vs H1 => sp (vs ++ dvs) H1 Q E) : tCall sp dvs E tA σ H Q := h
theorem s_cb {r : List V → Hp → VK → Prop} (h : tA σ H fun vs H1 => r vs H1 Q) : tCB r tA σ H Q := h
-- ifs
theorem s_ite {b : Bool} {A B : Prop} (h1 : b = true → A) (h2 : b = false → B) : if b = true then A else B := by
  cases b with
  | true => exact iteT (h1 rfl)
  | false => exact iteF (h2 rfl)
theorem s_iteN {b : Bool} {A B : Prop} (h : if b = true then B else A) : if (!b) = true then A else B := by
  cases b with
  | true => exact iteF (by simpa using h)
  | false => exact iteT (by simpa using h)
theorem s_iteD {p : Prop} [Decidable p] {A B : Prop} (h1 : p → A) (h2 : ¬ p → B) : if decide p = true then A else B := s_ite (fun h => h1 (of_decide_eq_true h)) fun h => h2 (of_decide_eq_false h)
theorem s_iteDp {p : Prop} [Decidable p] {A B : Prop} (hp : p) (h1 : A) : if decide p = true then A else B := s_iteD (fun _ => h1) fun q => absurd hp q
theorem s_iteDn {p : Prop} [Decidable p] {A B : Prop} (hp : ¬ p) (h1 : B) : if decide p = true then A else B := s_iteD (fun q => absurd q hp) fun _ => h1
theorem s_iteI {i j : Int} {A B : Prop} (h1 : i = j → A) (h2 : i ≠ j → B) : if decide (V.int i = V.int j) = true then A else B := s_iteD (fun h => h1 (V.int.inj h)) fun h => h2 fun e => h (congrArg V.int e)
theorem s_iteIp {i j : Int} {A B : Prop} (hp : i = j) (h1 : A) : if decide (V.int i = V.int j) = true then A else B := s_iteI (fun _ => h1) fun q => absurd hp q
theorem s_iteIn {i j : Int} {A B : Prop} (hp : i ≠ j) (h1 : B) : if decide (V.int i = V.int j) = true then A else B := s_iteI (fun q => absurd q hp) fun _ => h1
-- ints
theorem s_I0 {f : Int → Int → V} {i j : Int} (q : Q (f i j) H) : rI0 f (.int i) (.int j) H Q := ⟨i, j, rfl, rfl, q⟩
theorem s_I {C : Int → Int → Prop} {f : Int → Int → V} {i j : Int} (hc : C i j) (q : Q (f i j) H) : rI C f (.int i) (.int j) H Q := ⟨i, j, rfl, rfl, hc, q⟩
theorem s_U {f : Int → V} {i : Int} (q : Q (f i) H) : rU f (.int i) H Q := ⟨i, rfl, q⟩
theorem s_add {i j : Int} (q : Q (.int (i + j)) H) : rAddU K (.int i) (.int j) H Q := .inl ⟨i, j, rfl, rfl, q⟩
theorem s_addS {i j : Str} (h : i.length + j.length ≤ sizeLine) (q : Q (.str (i ++ j)) H) : rAddU K (.str i) (.str j) H Q := .inr (.inl ⟨i, j, rfl, rfl, h, q⟩)
theorem s_mul {i j : Int} (hc : CMulW i j) (q : Q (.int (i * j)) H) : rMulU (.int i) (.int j) H Q := .inl ⟨i, j, rfl, rfl, hc, q⟩
theorem s_eq (h : scal x y = true) (q : Q (.bl (decide (x = y))) H) : rEqU K x y H Q := .inl ⟨h, q⟩
theorem s_ne (h : scal x y = true) (q : Q (.bl (!decide (x = y))) H) : rNeU K x y H Q := .inl ⟨h, q⟩
theorem s_abs {i : Int} (q : Q (.int (if i < 0 then -i else i)) H) : rAbs [.int i] H Q := ⟨i, rfl, q⟩
theorem s_intB {b : Bool} (q : Q (.int (if b then 1 else 0)) H) : rInt1 [.bl b] H Q := .inr ⟨b, rfl, q⟩
theorem s_intI {i : Int} (q : Q (.int i) H) : rInt1 [.int i] H Q := .inl ⟨i, rfl, q⟩
theorem s_min2 {i j : Int} (q : Q (.int (if j < i then j else i)) H) : rMinU K [.int i, .int j] H Q := .inl ⟨i, j, rfl, q⟩
theorem s_max2 {i j : Int} (q : Q (.int (if j > i then j else i)) H) : rMaxU K [.int i, .int j] H Q := .inl ⟨i, j, rfl, q⟩
-- reading what stays
theorem atI_isa {i : Int} (a : IsA I vs ds) (h : atI ds i = some d) : ∃ v, atI vs i = some v ∧ Is I v d := by
  unfold atI at h ⊢
  rw [a.length]
  cases e : ixN ds.length i with
  | none => rw [e] at h; cases h
  | some j => rw [e] at h; exact a.get h
theorem s_ixT {i : Int} (w : W I H M) (h : Is I v (.tup ds)) (hd : atI ds i = some d) (q : ∀ u, Is I u d → Q u H) : rIx K v (.int i) H Q := by
  obtain ⟨p, vs, rfl, hp, a⟩ := h.tup_ex
  obtain ⟨u, e, hu⟩ := atI_isa a hd
  exact .inr (.inl ⟨p, vs, i, u, rfl, rfl, .inl (.inl (w.imm _ _ hp)), e, q u hu⟩)
theorem s_ixL {i : Int} (w : W I H M) (h : Is I v (.lst ds)) (hd : atI ds i = some d) (q : ∀ u, Is I u d → Q u H) : rIx K v (.int i) H Q := by
  obtain ⟨p, vs, rfl, hp, a⟩ := h.lst_ex
  obtain ⟨u, e, hu⟩ := atI_isa a hd
  exact .inl ⟨p, vs, i, u, rfl, rfl, .inl (.inl (w.imm _ _ hp)), e, q u hu⟩
/-- .. of a list that may be changed -/
theorem s_ixM {p : Addr} {i : Int} (h : H p = some (.lst vs)) (hd : atI vs i = some v) (q : Q v H) : rIx K (.ref p) (.int i) H Q := .inl ⟨p, vs, i, v, rfl, rfl, .inl (.inl h), hd, q⟩
theorem s_lenL (w : W I H M) (h : Is I v (.lst ds)) (q : Q (.int ds.length) H) : rLenU K [v] H Q := by
  obtain ⟨p, vs, rfl, hp, a⟩ := h.lst_ex
  exact .inl ⟨p, vs, rfl, .inl (.inl (.inl (w.imm _ _ hp))), by rw [a.length]; exact q⟩
theorem s_lenT (w : W I H M) (h : Is I v (.tup ds)) (q : Q (.int ds.length) H) : rLenU K [v] H Q := by
  obtain ⟨p, vs, rfl, hp, a⟩ := h.tup_ex
  exact .inl ⟨p, vs, rfl, .inr (.inl (.inl (w.imm _ _ hp))), by rw [a.length]; exact q⟩
theorem s_lenM {p : Addr} (h : H p = some (.lst vs)) (q : Q (.int vs.length) H) : rLenU K [.ref p] H Q := .inl ⟨p, vs, rfl, .inl (.inl (.inl h)), q⟩
-- new things
def NewT (Q : VK) (xs : List V) (H : Hp) : Prop := xs.length ≤ sizeLine ∧ ∀ p, H p = none → Q (.ref p) (upd H p (.tup xs))
def NewL (Q : VK) (xs : List V) (H : Hp) : Prop := xs.length ≤ sizeLine ∧ ∀ p, H p = none → Q (.ref p) (upd H p (.lst xs))
theorem s_tup (h : tA σ H fun xs H1 => NewT Q xs H1) : tTup tA σ H Q := h
theorem s_lst (h : tA σ H fun xs H1 => NewL Q xs H1) : tLst tA σ H Q := h
theorem s_newT (w : W I H M) (a : IsA I xs ds) (hz : xs.length ≤ 1000) (q : ∀ p J H', Same I J → I p = none → W J H' M → Is J (.ref p) (.tup ds) → Q (.ref p) H') : NewT Q xs H :=
  ⟨Nat.le_trans hz (by decide), fun p hp => q p _ _ (w.same hp) (w.fresh hp) (w.newI hp) (.tup upd_same (a.mono (w.same hp)))⟩
theorem s_newL (w : W I H M) (a : IsA I xs ds) (hz : xs.length ≤ 1000) (q : ∀ p J H', Same I J → I p = none → W J H' M → Is J (.ref p) (.lst ds) → Q (.ref p) H') : NewL Q xs H :=
  ⟨Nat.le_trans hz (by decide), fun p hp => q p _ _ (w.same hp) (w.fresh hp) (w.newI hp) (.lst upd_same (a.mono (w.same hp)))⟩
theorem s_newM (w : W I H M) (hz : xs.length ≤ 1000) (q : ∀ p H', W I H' ((p, .lst xs) :: M) → Q (.ref p) H') : NewL Q xs H :=
  ⟨Nat.le_trans hz (by decide), fun p hp => q p _ (w.newM hp)⟩
/-- .. behind the head (the bag) -/
theorem s_newM2 {m : Addr × HO} (w : W I H (m :: M)) (hz : xs.length ≤ 1000) (q : ∀ p H', W I H' (m :: (p, .lst xs) :: M) → Q (.ref p) H') : NewL Q xs H :=
  ⟨Nat.le_trans hz (by decide), fun p hp => q p _ (w.newM2 hp)⟩
-- unpacking
theorem s_gtup {n : Nat} {gs : TGs} {T : L2.St → Hp → Prop} (w : W I H M) (h : Is I v (.tup ds)) (hn : ds.length = n) (q : ∀ xs, IsA I xs ds → gs xs σ H T) : gTup K n gs v σ H T := by
  obtain ⟨p, vs, rfl, hp, a⟩ := h.tup_ex
  exact ⟨p, vs, rfl, .inl (.inl (w.imm _ _ hp)), by rw [a.length]; exact hn, q vs a⟩
theorem s_gtup2 {gs : TGs} {T : L2.St → Hp → Prop} {d0 d1 : D} (w : W I H M) (h : Is I v (.tup [d0, d1])) (q : ∀ x y, Is I x d0 → Is I y d1 → gs [x, y] σ H T) : gTup K 2 gs v σ H T :=
  s_gtup w h rfl fun _ a => by
    cases a with | cons h0 a =>
    cases a with | cons h1 a =>
    cases a
    exact q _ _ h0 h1
theorem s_gtup3 {gs : TGs} {T : L2.St → Hp → Prop} {d0 d1 d2 : D} (w : W I H M) (h : Is I v (.tup [d0, d1, d2])) (q : ∀ x y z, Is I x d0 → Is I y d1 → Is I z d2 → gs [x, y, z] σ H T) : gTup K 3 gs v σ H T :=
  s_gtup w h rfl fun _ a => by
    cases a with | cons h0 a =>
    cases a with | cons h1 a =>
    cases a with | cons h2 a =>
    cases a
    exact q _ _ _ h0 h1 h2
theorem s_gtup4 {gs : TGs} {T : L2.St → Hp → Prop} {d0 d1 d2 d3 : D} (w : W I H M) (h : Is I v (.tup [d0, d1, d2, d3])) (q : ∀ x y z u, Is I x d0 → Is I y d1 → Is I z d2 → Is I u d3 → gs [x, y, z, u] σ H T) : gTup K 4 gs v σ H T :=
  s_gtup w h rfl fun _ a => by
    cases a with | cons h0 a =>
    cases a with | cons h1 a =>
    cases a with | cons h2 a =>
    cases a with | cons h3 a =>
    cases a
    exact q _ _ _ _ h0 h1 h2 h3
theorem s_gtup5 {gs : TGs} {T : L2.St → Hp → Prop} {d0 d1 d2 d3 d4 : D} (w : W I H M) (h : Is I v (.tup [d0, d1, d2, d3, d4])) (q : ∀ x y z u t, Is I x d0 → Is I y d1 → Is I z d2 → Is I u d3 → Is I t d4 → gs [x, y, z, u, t] σ H T) : gTup K 5 gs v σ H T :=
  s_gtup w h rfl fun _ a => by
    cases a with | cons h0 a =>
    cases a with | cons h1 a =>
    cases a with | cons h2 a =>
    cases a with | cons h3 a =>
    cases a with | cons h4 a =>
    cases a
    exact q _ _ _ _ _ h0 h1 h2 h3 h4
theorem s_gnil {T : L2.St → Hp → Prop} (q : T σ H) : gNil [] σ H T := ⟨rfl, q⟩
theorem s_gcons {gs : TGs} {T : L2.St → Hp → Prop} (h : g x σ H fun σ' H' => gs xs σ' H' T) : gCons g gs (x :: xs) σ H T := ⟨x, xs, rfl, h⟩
-- fields
theorem s_fld {f : Str} (h : ta σ H fun x H1 => ∃ a C dx fs v, x = .ref a ∧ H1 a = some (.ins C dx fs) ∧ Cls K C ∧ NoAttr K C f ∧ fs.lookup f = some v ∧ Q v H1) : tFld K ta f σ H Q := h
theorem s_fldAt {C : Addr} {f : Str} {fs : List (Str × D)} (w : W I H M) (h : Is I v (.obj C fs)) (hc : Cls K C) (hn : NoAttr K C f) (hd : fs.lookup f = some d) (q : ∀ u, Is I u d → Q u H) :
    ∃ a C dx fs u, v = .ref a ∧ H a = some (.ins C dx fs) ∧ Cls K C ∧ NoAttr K C f ∧ fs.lookup f = some u ∧ Q u H := by
  obtain ⟨p, dx, vs, rfl, hp, a⟩ := h.obj_ex
  obtain ⟨u, e, hu⟩ := a.get hd
  exact ⟨p, C, dx, vs, u, rfl, w.imm _ _ hp, hc, hn, e, q u hu⟩
-- isinstance
def D.tn : D → Option String
  | .non => some "NoneType" | .bl _ => some "bool" | .int _ => some "int" | .str _ => some "str" | .tup _ => some "tuple" | .lst _ => some "list" | .dict => some "dict" | _ => none
theorem Is.tyx {a : String} (w : W I H M) (h : Is I v d) (e : d.tn = some a) : TyX K H v (.type a) := by
  cases h with
  | non => cases e; exact .base .non
  | bl b => cases e; exact .base (.bl b)
  | int n => cases e; exact .base (.int n)
  | str n => cases e; exact .base (.str n)
  | tup hp _ => cases e; exact .base (.tup (w.imm _ _ hp))
  | lst hp _ => cases e; exact .base (.lst (w.imm _ _ hp))
  | ref a => cases e
  | ty n => cases e
  | obj _ _ => cases e
  | dct hp => cases e; exact .base (.dK (w.imm _ _ hp))
  | fact _ _ => cases e
theorem s_isi {a b : String} {k : Bool} (w : W I H M) (h : Is I v d) (e : d.tn = some a) (hb : kitB a b = some k) (q : Q (.bl k) H) : rIsiU K [v, .ty b] H Q :=
  .inl ⟨v, .ty b, .type a, .type b, k, rfl, .ty b, h.tyx w e, kit_ty hb, q⟩
theorem kit_ii : kitB "int" "int" = some true := by decide +kernel
theorem kit_ib : kitB "int" "bool" = some false := by decide +kernel
theorem kit_bi : kitB "bool" "int" = some true := by decide +kernel
theorem kit_bb : kitB "bool" "bool" = some true := by decide +kernel
theorem kit_tt : kitB "tuple" "tuple" = some true := by decide +kernel
theorem kit_ll : kitB "list" "list" = some true := by decide +kernel
end
end Fs

namespace Fs
open PySem PySem.Spec PyProof.Rows L2

/-! ### the built-ins' names -/
structure Bn (mg : Str → Option Value) : Prop where
  len_ : mg "len" = none
  abs_ : mg "abs" = none
  isinstance_ : mg "isinstance" = none
  min_ : mg "min" = none
  max_ : mg "max" = none
  sum_ : mg "sum" = none
  sorted_ : mg "sorted" = none
  range_ : mg "range" = none
  zip_ : mg "zip" = none
  enumerate_ : mg "enumerate" = none
  reversed_ : mg "reversed" = none
  int_ : mg "int" = none
  bool_ : mg "bool" = none
  tuple_ : mg "tuple" = none
  list_ : mg "list" = none
  str_ : mg "str" = none
  dict_ : mg "dict" = none
  ValueError_ : mg "ValueError" = none
  set_ : mg "set" = none
  any_ : mg "any" = none
  all_ : mg "all" = none
section
variable {X : Cx} {pos : Pos}
theorem pe_globI {x : Str} {n : Int} (hg : Gl X x) (hm : ∃ t, X.mg x = some (.int n t)) (hd : (x == ("__debug__" : Str)) = false := by decide) : PE X (.Name x pos) (tC (.int n)) := by
  obtain ⟨t, e⟩ := hm
  exact pe_glob hg e ⟨t, rfl⟩ hd
theorem get_list : PGet X (rIxL X.K) := by
  intro pins s σ H x y v u Q I rx ry h
  obtain ⟨p, xs, i, z, rfl, rfl, hq, he, q⟩ := h
  cases rx
  obtain ⟨t, rfl⟩ := ry
  obtain ⟨its, r, pl, hz⟩ := I.list hq
  obtain ⟨j, h1, h2, h3, h4, h5⟩ := atI_get he
  obtain ⟨w, ew, rw'⟩ := r.get h2
  have hl := r.length
  have hn := line63
  have fin : EP X pins σ Q w s := ⟨z, H, I, rw', q⟩
  by_cases h0 : 0 ≤ i
  · have hj : i.toNat = j := by
      rw [seqIndex_of h0 h5] at h1
      exact Option.some.inj h1
    exact wpAny_getItem_list pl.isList h0 (by omega) (by rw [hj]; simpa using ew) fin
  · have hj : (i + (its.toArray.size : Int)).toNat = j := by
      rw [seqIndex_neg (by omega) h4] at h1
      rw [List.size_toArray, ← hl]
      exact Option.some.inj h1
    exact wpAny_getItem_list_neg pl.isList (by omega) (by rw [List.size_toArray] <;> omega) (by omega) (by rw [hj]; simpa using ew) fin
theorem ps_augL {o i e : Expr} {to ti te : TE} {tpos : Pos} (ho : PE X o to) (hi : PE X i ti) (he : PE X e te)
    (ha : ∀ ov iv new, augStore i ov iv new = (do holding [new, ov, iv] (setItem ov iv new); release [new, ov, iv] []; pure .next) := by intros; rfl) : PS X (.AugAssign (.Subscript o i tpos) .Add e pos) (tAugS to ti te (rIxL X.K) (ipI fun i j => i + j) rSetL) :=
  ps_augS ho hi get_list he ip_add set_list ha
end

/-! ### loops -/
section
variable {K : PySem.W.Frag} {σ : L2.St} {I H : Hp} {M : List (Addr × HO)} {G : Ends} {c : TT} {tb : TS} {g : TG}
theorem s_while (Pv : L2.St → Hp → Prop) (μ : L2.St → Nat) (h0 : Pv σ H)
    (hs : ∀ σ H, Pv σ H → c σ H fun b H1 => if b = true then ∃ N : L2.St → Hp → Prop, (∀ σ' H', N σ' H' → ∃ m', m' < μ σ ∧ m' = μ σ' ∧ Pv σ' H') ∧ tb { G with nx := N, ct := N, bk := G.nx } σ H1 else G.nx σ H1) : tWhile c tb G σ H := by
  refine ⟨fun m σ H => m = μ σ ∧ Pv σ H, ⟨_, rfl, h0⟩, ?_⟩
  rintro m σ H ⟨rfl, p⟩
  exact hs σ H p
theorem s_wN {Pv : L2.St → Hp → Prop} {μ : L2.St → Nat} {m : Nat} {σ1 : L2.St} (h : tb { G with nx := fun σ' H' => Pv σ' H' ∧ μ σ' < m, ct := fun σ' H' => Pv σ' H' ∧ μ σ' < m, bk := G.nx } σ1 H) :
    ∃ N : L2.St → Hp → Prop, (∀ σ' H', N σ' H' → ∃ m', m' < m ∧ m' = μ σ' ∧ Pv σ' H') ∧ tb { G with nx := N, ct := N, bk := G.nx } σ1 H :=
  ⟨_, fun _ _ h => ⟨_, h.2, rfl, h.1⟩, h⟩
theorem s_for {wi : TI} (h : wi σ H fun J H1 => ∃ W : Nat → Nat → L2.St → Hp → Prop, (∃ m, W 0 m σ H1) ∧ ∀ i m σ H, W i m σ H →
  (J.stop i H ∧ G.nx σ H) ∨ (J.go i H ∧ ∃ N : L2.St → Hp → Prop, (∀ σ' H', N σ' H' → ∃ m', m' < m ∧ W (i + 1) m' σ' H') ∧ ∀ x H', J.yld i H x H' → g x σ H' fun σ2 H2 => tb { G with nx := N, ct := N, bk := G.nx } σ2 H2)) : tFor wi g tb G σ H := h
theorem s_rng1 {ta : TA} {R : It → Hp → Prop} (h : ta σ H fun vs H1 => ∃ j : Int, vs = [.int j] ∧ -(2 ^ 62) ≤ j ∧ j < 2 ^ 62 ∧ R (Itr 0 j.toNat) H1) : iRng1 ta σ H R := h
theorem s_rng1' {P : Int → Prop} {j : Int} (h1 : -(2 ^ 62) ≤ j) (h2 : j < 2 ^ 62) (h : P j) : ∃ i : Int, [V.int j] = [.int i] ∧ -(2 ^ 62) ≤ i ∧ i < 2 ^ 62 ∧ P i := ⟨j, rfl, h1, h2, h⟩
theorem s_iL {tl : TE} {R : It → Hp → Prop} (h : tl σ H fun x H1 => ∃ a, x = .ref a ∧ (∃ xs, SqL K H1 a xs) ∧ R (Itl K a) H1) : iList K tl σ H R := h
theorem s_iT {tl : TE} {R : It → Hp → Prop} (h : tl σ H fun x H1 => ∃ a, x = .ref a ∧ (∃ xs, SqT K H1 a xs) ∧ R (Itt K a) H1) : iTup K tl σ H R := h
/-- a for over a list that stays: the word Pv over the turn, the slots, the heap; it says W of an extension of I -/
theorem s_forL {ds : List D} {v : V} (w : W I H M) (h : Is I v (.lst ds)) (Pv : Nat → L2.St → Hp → Prop) (h0 : Pv 0 σ H) (hI : ∀ i σ H, Pv i σ H → Same I H)
    (hs : ∀ i d x σ H, ds[i]? = some d → Is I x d → Pv i σ H → g x σ H fun σ2 H2 => tb { G with nx := Pv (i + 1), ct := Pv (i + 1), bk := G.nx } σ2 H2) (hd : ∀ σ H, Pv ds.length σ H → G.nx σ H) :
    ∃ a, v = .ref a ∧ (∃ xs, SqL K H a xs) ∧ ∃ W : Nat → Nat → L2.St → Hp → Prop, (∃ m, W 0 m σ H) ∧ ∀ i m σ H, W i m σ H →
      ((Itl K a).stop i H ∧ G.nx σ H) ∨ ((Itl K a).go i H ∧ ∃ N : L2.St → Hp → Prop, (∀ σ' H', N σ' H' → ∃ m', m' < m ∧ W (i + 1) m' σ' H') ∧ ∀ x H', (Itl K a).yld i H x H' → g x σ H' fun σ2 H2 => tb { G with nx := N, ct := N, bk := G.nx } σ2 H2) := by
  obtain ⟨p, vs, rfl, hp, a⟩ := h.lst_ex
  refine ⟨p, rfl, ⟨vs, .inl (.inl (w.imm _ _ hp))⟩, ?_⟩
  refine for_it (walk_list (K := K) (xs := vs)) Pv h0 (fun i σ H _ q => .inl (.inl (hI i σ H q _ _ hp))) (fun i x σ H H' hi q y => ?_) (fun σ H q => hd σ H (by rw [← a.length]; exact q))
  obtain ⟨rfl, e⟩ := y
  obtain ⟨d, e1, e2⟩ := a.of e
  exact hs i d x σ _ e1 e2 q
theorem s_forT {ds : List D} {v : V} (w : W I H M) (h : Is I v (.tup ds)) (Pv : Nat → L2.St → Hp → Prop) (h0 : Pv 0 σ H) (hI : ∀ i σ H, Pv i σ H → Same I H)
    (hs : ∀ i d x σ H, ds[i]? = some d → Is I x d → Pv i σ H → g x σ H fun σ2 H2 => tb { G with nx := Pv (i + 1), ct := Pv (i + 1), bk := G.nx } σ2 H2) (hd : ∀ σ H, Pv ds.length σ H → G.nx σ H) :
    ∃ a, v = .ref a ∧ (∃ xs, SqT K H a xs) ∧ ∃ W : Nat → Nat → L2.St → Hp → Prop, (∃ m, W 0 m σ H) ∧ ∀ i m σ H, W i m σ H →
      ((Itt K a).stop i H ∧ G.nx σ H) ∨ ((Itt K a).go i H ∧ ∃ N : L2.St → Hp → Prop, (∀ σ' H', N σ' H' → ∃ m', m' < m ∧ W (i + 1) m' σ' H') ∧ ∀ x H', (Itt K a).yld i H x H' → g x σ H' fun σ2 H2 => tb { G with nx := N, ct := N, bk := G.nx } σ2 H2) := by
  obtain ⟨p, vs, rfl, hp, a⟩ := h.tup_ex
  refine ⟨p, rfl, ⟨vs, .inl (.inl (w.imm _ _ hp))⟩, ?_⟩
  refine for_it (walk_tup (K := K) (xs := vs)) Pv h0 (fun i σ H _ q => .inl (.inl (hI i σ H q _ _ hp))) (fun i x σ H H' hi q y => ?_) (fun σ H q => hd σ H (by rw [← a.length]; exact q))
  obtain ⟨rfl, e⟩ := y
  obtain ⟨d, e1, e2⟩ := a.of e
  exact hs i d x σ _ e1 e2 q
theorem s_forR {lo : Int} {n : Nat} (Pv : Nat → L2.St → Hp → Prop) (h0 : Pv 0 σ H)
    (hs : ∀ i σ H, i < n → Pv i σ H → g (.int (lo + i)) σ H fun σ2 H2 => tb { G with nx := Pv (i + 1), ct := Pv (i + 1), bk := G.nx } σ2 H2) (hd : ∀ σ H, Pv n σ H → G.nx σ H) :
    ∃ W : Nat → Nat → L2.St → Hp → Prop, (∃ m, W 0 m σ H) ∧ ∀ i m σ H, W i m σ H →
      ((Itr lo n).stop i H ∧ G.nx σ H) ∨ ((Itr lo n).go i H ∧ ∃ N : L2.St → Hp → Prop, (∀ σ' H', N σ' H' → ∃ m', m' < m ∧ W (i + 1) m' σ' H') ∧ ∀ x H', (Itr lo n).yld i H x H' → g x σ H' fun σ2 H2 => tb { G with nx := N, ct := N, bk := G.nx } σ2 H2) := for_range Pv h0 hs hd
end

/-! ### changing a list -/
section
variable {K : PySem.W.Frag} {σ : L2.St} {I H : Hp} {M : List (Addr × HO)} {Q : VK} {x v : V} {xs vs : List V} {p : Addr} {ta te ti : TE} {tA : TA}
theorem s_bm {T : String} {r : V → List V → Hp → VK → Prop} (h : ta σ H fun x H1 => tyV K T x H1 ∧ tA σ H1 fun xs H2 => r x xs H2 Q) : tBM K T r ta tA σ H Q := h
theorem s_bm0 {T : String} {r : V → List V → Hp → VK → Prop} (h : ta σ H fun x H1 => tyV K T x H1 ∧ r x [] H1 Q) : tBM0 K T r ta σ H Q := h
theorem s_tyL {A : Prop} (h : H p = some (.lst xs)) (a : A) : tyV K "list" (.ref p) H ∧ A := ⟨.inl ⟨rfl, _, .inl (.inl h)⟩, a⟩
theorem s_app (h : H p = some (.lst xs)) (hz : xs.length ≤ 100000) (q : Q .non (upd H p (.lst (xs ++ [x])))) : rAppend (.ref p) [x] H Q := ⟨p, xs, x, rfl, rfl, h, Nat.lt_of_le_of_lt hz (by decide), q⟩
theorem s_clear (h : H p = some (.lst xs)) (q : Q .non (upd H p (.lst []))) : rClear (.ref p) [] H Q := ⟨p, xs, rfl, rfl, h, q⟩
theorem s_gsub {T : L2.St → Hp → Prop} {t : TSet} (h : ta σ H fun o H1 => ti σ H1 fun i H2 => t o i v H2 fun H3 => T σ H3) : gSub ta ti t v σ H T := h
theorem s_setL {T : Hp → Prop} {k : Int} {j : Nat} (h : H p = some (.lst xs)) (hj : ixN xs.length k = some j) (q : T (upd H p (.lst (xs.set j v)))) : rSetL (.ref p) (.int k) v H T := ⟨p, xs, k, j, rfl, rfl, h, hj, q⟩
theorem s_augS {G : Ends} {tget : V → V → Hp → VK → Prop} {tip : TIp} {tset : TSet} (h : ta σ H fun o H1 => ti σ H1 fun i H2 => tget o i H2 fun x H3 => te σ H3 fun y H4 => tip x y H4 fun z H5 => tset o i z H5 fun H6 => G.nx σ H6) : tAugS ta ti te tget tip tset G σ H := h
theorem s_ixLM {k : Int} (h : H p = some (.lst xs)) (hd : atI xs k = some v) (q : Q v H) : rIxL K (.ref p) (.int k) H Q := ⟨p, xs, k, v, rfl, rfl, .inl (.inl h), hd, q⟩
theorem s_ipI {f : Int → Int → Int} {i j : Int} (q : Q (.int (f i j)) H) : ipI f (.int i) (.int j) H Q := ⟨i, j, rfl, rfl, q⟩
def RevQ (K : PySem.W.Frag) (Q : VK) (v : V) (H : Hp) : Prop := ∃ a xs, v = .ref a ∧ SqL K H a xs ∧ ∀ p, H p = none → Q (.ref p) (upd H p (.lst xs.reverse))
theorem s_rev (h : te σ H fun x H1 => RevQ K Q x H1) : tRevL K te σ H Q := h
theorem s_rev' {ds : List D} (w : W I H M) (h : Is I v (.lst ds)) (q : ∀ p J H', Same I J → I p = none → W J H' M → Is J (.ref p) (.lst ds.reverse) → Q (.ref p) H') : RevQ K Q v H := by
  obtain ⟨p, vs, rfl, hp, a⟩ := h.lst_ex
  exact ⟨p, vs, rfl, .inl (.inl (w.imm _ _ hp)), fun l hl => q l _ _ (w.same hl) (w.fresh hl) (w.newI hl) (.lst upd_same (a.rev.mono (w.same hl)))⟩
end

section
variable {K : PySem.W.Frag} {σ : L2.St} {I H : Hp} {M : List (Addr × HO)} {Q : VK} {x v : V} {xs vs : List V} {p : Addr} {ta te ti : TE} {tA : TA} {m0 m1 : Addr × HO} {d0 d1 : D} {ds : List D}
theorem s_setW0 {T : Hp → Prop} {k : Int} {j : Nat} (w : W I H ((p, .lst xs) :: M)) (hj : ixN xs.length k = some j) (q : ∀ H', W I H' ((p, .lst (xs.set j v)) :: M) → T H') : rSetL (.ref p) (.int k) v H T := s_setL w.at0 hj (q _ w.put0)
theorem s_setW1 {T : Hp → Prop} {k : Int} {j : Nat} (w : W I H (m0 :: (p, .lst xs) :: M)) (hj : ixN xs.length k = some j) (q : ∀ H', W I H' (m0 :: (p, .lst (xs.set j v)) :: M) → T H') : rSetL (.ref p) (.int k) v H T := s_setL w.at1 hj (q _ w.put1)
theorem s_appW0 (w : W I H ((p, .lst xs) :: M)) (hz : xs.length ≤ 100000) (q : ∀ H', W I H' ((p, .lst (xs ++ [x])) :: M) → Q .non H') : rAppend (.ref p) [x] H Q := s_app w.at0 hz (q _ w.put0)
theorem s_appW1 (w : W I H (m0 :: (p, .lst xs) :: M)) (hz : xs.length ≤ 100000) (q : ∀ H', W I H' (m0 :: (p, .lst (xs ++ [x])) :: M) → Q .non H') : rAppend (.ref p) [x] H Q := s_app w.at1 hz (q _ w.put1)
theorem s_appW2 (w : W I H (m0 :: m1 :: (p, .lst xs) :: M)) (hz : xs.length ≤ 100000) (q : ∀ H', W I H' (m0 :: m1 :: (p, .lst (xs ++ [x])) :: M) → Q .non H') : rAppend (.ref p) [x] H Q := s_app w.at2 hz (q _ w.put2)
theorem W.frz0 {o : HO} (w : W I H ((p, o) :: M)) : W (upd I p o) H M := W.frz (M1 := []) w
theorem W.frz1 {o : HO} (w : W I H (m0 :: (p, o) :: M)) : W (upd I p o) H (m0 :: M) := W.frz (M1 := [m0]) w
theorem W.frz2 {o : HO} (w : W I H (m0 :: m1 :: (p, o) :: M)) : W (upd I p o) H (m0 :: m1 :: M) := W.frz (M1 := [m0, m1]) w
theorem W.frzS0 {o : HO} (w : W I H ((p, o) :: M)) : Same I (upd I p o) := W.frzS (M1 := []) w
theorem W.frzS1 {o : HO} (w : W I H (m0 :: (p, o) :: M)) : Same I (upd I p o) := W.frzS (M1 := [m0]) w
theorem W.frzS2 {o : HO} (w : W I H (m0 :: m1 :: (p, o) :: M)) : Same I (upd I p o) := W.frzS (M1 := [m0, m1]) w
/-- a list that grew stays from now on -/
theorem W.done0 (w : W I H ((p, .lst vs) :: M)) (a : IsA I vs ds) : ∃ J, Same I J ∧ W J H M ∧ Is J (.ref p) (.lst ds) := ⟨_, w.frzS0, w.frz0, .lst upd_same (a.mono w.frzS0)⟩
theorem W.done1 (w : W I H (m0 :: (p, .lst vs) :: M)) (a : IsA I vs ds) : ∃ J, Same I J ∧ W J H (m0 :: M) ∧ Is J (.ref p) (.lst ds) := ⟨_, w.frzS1, w.frz1, .lst upd_same (a.mono w.frzS1)⟩
theorem W.done2 (w : W I H (m0 :: m1 :: (p, .lst vs) :: M)) (a : IsA I vs ds) : ∃ J, Same I J ∧ W J H (m0 :: m1 :: M) ∧ Is J (.ref p) (.lst ds) := ⟨_, w.frzS2, w.frz2, .lst upd_same (a.mono w.frzS2)⟩
-- an item by an open place
theorem at_nat {α : Type} {l : List α} {i : Int} (h0 : 0 ≤ i) (h1 : i < l.length) : ∃ d, d ∈ l ∧ atI l i = some d := by
  have h2 : i.toNat < l.length := by omega
  have e : (i.toNat : Int) = i := by omega
  refine ⟨l[i.toNat], List.getElem_mem h2, ?_⟩
  have q := atI_nat (List.getElem?_eq_getElem h2)
  rw [e] at q
  exact q
theorem at_ints {ns : List Int} {z : Int} (h0 : 0 ≤ z) (h1 : z < ns.length) : ∃ n, n ∈ ns ∧ atI (ns.map D.int) z = some (.int n) := by
  obtain ⟨d, hd, e⟩ := at_nat (l := ns.map D.int) h0 (by simpa using h1)
  obtain ⟨n, hn, rfl⟩ := List.mem_map.mp hd
  exact ⟨n, hn, e⟩
theorem s_ixAny {i : Int} (w : W I H M) (h : Is I v (.lst ds)) (h0 : 0 ≤ i) (h1 : i < ds.length) (q : ∀ d u, d ∈ ds → Is I u d → Q u H) : rIx K v (.int i) H Q := by
  obtain ⟨d, hd, e⟩ := at_nat h0 h1
  exact s_ixL w h e fun u hu => q d u hd hu
theorem s_ixB {b : Bool} {m n : Int} (w : W I H M) (h : Is I v (.lst [.int m, .int n])) (q : ∀ k, k = m ∨ k = n → Q (.int k) H) : rIx K v (.int (if b then 1 else 0)) H Q := by
  cases b with
  | true => exact s_ixL w h (d := .int n) rfl fun u hu => by rw [hu.int_eq]; exact q n (.inr rfl)
  | false => exact s_ixL w h (d := .int m) rfl fun u hu => by rw [hu.int_eq]; exact q m (.inl rfl)
-- slices
theorem s_sl {r : V → Option Int → Option Int → Hp → VK → Prop} {tl th : TO} (h : te σ H fun x H1 => tl σ H1 fun lo H2 => th σ H2 fun hi H3 => r x lo hi H3 Q) : tSl r te tl th σ H Q := h
theorem s_noP {R : Option Int → Hp → Prop} (h : R none H) : tNoPart σ H R := h
theorem s_part {R : Option Int → Hp → Prop} (h : te σ H fun x H1 => ∃ i, x = .int i ∧ R (some i) H1) : tPart te σ H R := h
theorem s_part' {P : Int → Prop} {i : Int} (h : P i) : ∃ j, V.int i = .int j ∧ P j := ⟨i, rfl, h⟩
theorem s_slK {a : Addr} {lo hi : Option Int} (h : SqL K H a xs) (q : ∀ p, H p = none → Q (.ref p) (upd H p (.lst (cutV xs lo hi)))) : rSlL K (.ref a) lo hi H Q := ⟨a, xs, rfl, h, q⟩
-- comprehensions
theorem s_lc0 {wi : TI} {g : TG} {tt : TT} {xs : List Nat} (h : wi σ H fun J H1 => ∀ D, H1 D = none → ∃ W : Nat → Nat → Hp → Prop, (∃ m, W 0 m (upd H1 D (.lst []))) ∧ ∀ i m H, W i m H →
  (J.stop i H ∧ Q (.ref D) H) ∨ (J.go i H ∧ ∃ Nx : Hp → Prop, (∀ H', Nx H' → ∃ m', m' < m ∧ W (i + 1) m' H') ∧ ∀ x H', J.yld i H x H' → g x (wipe σ xs) H' fun σ2 H2 => wipe σ2 xs = wipe σ xs ∧ tt σ2 H2 fun b H3 =>
    if b = true then te σ2 H3 fun y H4 => ∃ acc, H4 D = some (.lst acc) ∧ acc.length < sizeLine ∧ Nx (upd H4 D (.lst (acc ++ [y]))) else Nx H3)) : tLc wi g tt te xs σ H Q := h
theorem s_yes {R : Bool → Hp → Prop} (h : R true H) : tYes σ H R := h
theorem s_iL' {R : Addr → Prop} (w : W I H M) (h : Is I v (.lst ds)) (q : ∀ a vs, v = .ref a → I a = some (.lst vs) → IsA I vs ds → R a) : ∃ a, v = .ref a ∧ (∃ xs, SqL K H a xs) ∧ R a := by
  obtain ⟨p, vs, rfl, hp, a⟩ := h.lst_ex
  exact ⟨p, rfl, ⟨vs, .inl (.inl (w.imm _ _ hp))⟩, q p vs rfl hp a⟩
end
/-- a written power -/
theorem op_powC {X : Cx} (n : Int) : OpR X (binaryOp .Pow) (rI (fun i j => CPow i j ∧ i ^ j.toNat = n) fun _ _ => .int n) := by
  intro pins s σ H x y v u Q I rx ry h
  obtain ⟨i, j, rfl, rfl, ⟨hc, e⟩, q⟩ := h
  exact op_pow pins s σ H _ _ v u Q I rx ry ⟨i, j, rfl, rfl, hc, by show Q (V.int (i ^ j.toNat)) H; rw [e]; exact q⟩
theorem cut63 (ns : List Int) (lo hi : Option Int) : ∃ ms : List Int, cutV (ns.map V.int) lo hi = ms.map V.int := by
  unfold cutV
  refine ⟨(ns.drop (HT.sIx (ns.map V.int).length 0 lo)).take (HT.sIx (ns.map V.int).length (ns.map V.int).length hi - HT.sIx (ns.map V.int).length 0 lo), ?_⟩
  rw [List.map_take, List.map_drop]

/-! ### sizes of numbers -/
def Bd (k : Nat) (x : Int) : Prop := x.natAbs < 2 ^ k
theorem Bd.mono {j k : Nat} {x : Int} (h : Bd j x) (hk : j ≤ k) : Bd k x := Nat.lt_of_lt_of_le h (Nat.pow_le_pow_right (by decide) hk)
theorem Bd.mul {j k : Nat} {x y : Int} (hx : Bd j x) (hy : Bd k y) : Bd (j + k) (x * y) := wide_lt hx hy
theorem Bd.neg {k : Nat} {x : Int} (h : Bd k x) : Bd k (-x) := by unfold Bd at *; rw [Int.natAbs_neg]; exact h
theorem Bd.add {k : Nat} {x y : Int} (hx : Bd k x) (hy : Bd k y) : Bd (k + 1) (x + y) := by
  unfold Bd at *
  have : (2 : Nat) ^ (k + 1) = 2 ^ k + 2 ^ k := by rw [Nat.pow_succ]; omega
  omega
theorem Bd.sub {k : Nat} {x y : Int} (hx : Bd k x) (hy : Bd k y) : Bd (k + 1) (x - y) := by
  unfold Bd at *
  have : (2 : Nat) ^ (k + 1) = 2 ^ k + 2 ^ k := by rw [Nat.pow_succ]; omega
  omega
theorem Bd.le {k : Nat} {x y : Int} (h : Bd k y) (hx : x.natAbs ≤ y.natAbs) : Bd k x := Nat.lt_of_le_of_lt hx h
theorem Bd.of {k : Nat} {x : Int} (n : Nat) (h : x.natAbs ≤ n) (hn : n < 2 ^ k := by decide) : Bd k x := Nat.lt_of_le_of_lt h hn
theorem Bd.cm {j k : Nat} {x y : Int} (hx : Bd j x) (hy : Bd k y) (h : j + k ≤ 900000 := by omega) : CMulW x y :=
  wide_mul (hx.mono (Nat.le_succ j)) (hy.mono (Nat.le_succ k)) (Nat.succ_pos _) (Nat.succ_pos _) (by omega)
theorem Bd.cd {k : Nat} {x y : Int} (hy : Bd k y) (h0 : 0 < y) (h : k ≤ 8000 := by omega) : CDivW x y := wide_div h0 (hy.mono (Nat.le_succ k)) (Nat.succ_pos _) (by omega)
theorem cm64 {i j : Int} (h1 : -18446744073709551616 ≤ i) (h2 : i ≤ 18446744073709551616) (h3 : -18446744073709551616 ≤ j) (h4 : j ≤ 18446744073709551616) : CMulW i j :=
  Bd.cm (j := 65) (k := 65) (Bd.of 18446744073709551616 (by omega)) (Bd.of 18446744073709551616 (by omega))
theorem cd64 {i j : Int} (h1 : 0 < j) (h2 : j ≤ 18446744073709551616) : CDivW i j := Bd.cd (k := 65) (Bd.of 18446744073709551616 (by omega)) h1

theorem W.zero {H : Hp} : W (fun _ => none) H [] := ⟨fun _ _ h => (nomatch h), fun _ h => (nomatch h), List.nodup_nil⟩
/-! ### fractions as data -/
abbrev fr (a b : Int) : D := .tup [.int a, .int b]

/-! ### the bag of draws: c is where its cells stand -/
structure BagAt (o : HO) (c : Addr) (x y z : Int) : Prop where
  ob : o = .lst [.int x, .int y, .int z, .ref c]
  x0 : 0 ≤ x
  y0 : 0 ≤ y
  y1 : y < 2147483647
  z0 : 0 ≤ z
def Bag (I : Hp) (c : Addr) (o : HO) : Prop := (∃ ns : List Int, I c = some (.lst (ns.map V.int)) ∧ ∀ n ∈ ns, 0 ≤ n) ∧ ∃ x y z, BagAt o c x y z
theorem Bag.mono {I J : Hp} {c : Addr} {o : HO} (s : Same I J) (h : Bag I c o) : Bag J c o := by
  obtain ⟨⟨ns, h1, h2⟩, h3⟩ := h
  exact ⟨⟨ns, s _ _ h1, h2⟩, h3⟩
end Fs

namespace Fs
open PySem PySem.Spec PyProof.Rows L2

/-! ### what stayed may be changed from now on -/
def del (I : Hp) (p : Addr) : Hp := fun a => if a = p then none else I a
theorem del_ne {I : Hp} {p a : Addr} (h : a ≠ p) : del I p a = I a := if_neg h
theorem del_same {I : Hp} {p : Addr} : del I p p = none := if_pos rfl
theorem same_del {J I : Hp} {p : Addr} (s : Same J I) (h : J p = none) : Same J (del I p) := fun b o e => by
  rw [del_ne (ne_of_none e h)]
  exact s b o e
section
variable {I J H : Hp} {M : List (Addr × HO)} {p : Addr} {o : HO} {m : Addr × HO}
theorem W.unf (w : W I H M) (h : I p = some o) : W (del I p) H ((p, o) :: M) where
  imm := fun b x e => by
    by_cases hb : b = p
    · subst hb; rw [del_same] at e; cases e
    · rw [del_ne hb] at e; exact w.imm b x e
  mu := fun x hx => by
    rcases List.mem_cons.mp hx with e | hx
    · subst e; exact ⟨w.imm _ _ h, del_same⟩
    · have q := w.mu x hx
      refine ⟨q.1, ?_⟩
      by_cases hb : x.1 = p
      · rw [hb]; exact del_same
      · rw [del_ne hb]; exact q.2
  nd := List.nodup_cons.mpr (And.intro (fun q => (by
    obtain ⟨x, hx, e⟩ := List.mem_map.mp q
    have := (w.mu x hx).2
    rw [e, h] at this
    cases this)) w.nd)
theorem W.swap {m0 m1 : Addr × HO} (w : W I H (m0 :: m1 :: M)) : W I H (m1 :: m0 :: M) := by
  refine ⟨w.imm, fun x hx => w.mu x ?_, ?_⟩
  · rcases List.mem_cons.mp hx with e | hx
    · exact List.mem_cons.mpr (.inr (List.mem_cons.mpr (.inl e)))
    · rcases List.mem_cons.mp hx with e | hx
      · exact List.mem_cons.mpr (.inl e)
      · exact List.mem_cons.mpr (.inr (List.mem_cons.mpr (.inr hx)))
  · have n := w.nd
    simp only [List.map_cons, List.nodup_cons, List.mem_cons, not_or] at n ⊢
    exact ⟨⟨fun e => n.1.1 e.symm, n.2.1⟩, n.1.2, n.2.2⟩
/-- behind the head -/
theorem W.unf1 (w : W I H (m :: M)) (h : I p = some o) : W (del I p) H (m :: (p, o) :: M) := (w.unf h).swap
theorem W.less (w : W I H (m :: M)) : W I H M := ⟨w.imm, fun x hx => w.mu x (List.mem_cons_of_mem _ hx), (List.nodup_cons.mp w.nd).2⟩
/-- fewer facts -/
theorem W.sub (w : W I H M) (s : Same J I) : W J H M := ⟨s.trans w.imm, fun x hx => ⟨(w.mu x hx).1, s.free (w.mu x hx).2⟩, w.nd⟩
theorem Bag.at {c : Addr} (h : Bag I c o) (hp : I p = none) : c ≠ p := by
  obtain ⟨⟨ns, h1, _⟩, _⟩ := h
  exact ne_of_none h1 hp
theorem Bag.del {c : Addr} (h : Bag I c o) (hp : c ≠ p) : Bag (del I p) c o := by
  obtain ⟨⟨ns, h1, h2⟩, h3⟩ := h
  exact ⟨⟨ns, by rw [del_ne hp]; exact h1, h2⟩, h3⟩
end

/-! ### == of data without truths -/
mutual
def D.pd : D → PyData
  | .non => .none
  | .bl b => .bool b
  | .int i => .int i
  | .str x => .str x
  | .ref _ => .none
  | .ty _ => .none
  | .tup ds => .tuple (D.pds ds)
  | .lst ds => .list (D.pds ds)
  | .obj _ _ => .none
  | .dict => .none
  | .fact _ => .none
def D.pds : List D → List PyData
  | [] => []
  | d :: ds => D.pd d :: D.pds ds
end
/-- data of at most this depth, no truths in it -/
inductive NB : Nat → D → Prop
  | non {k : Nat} : NB k .non
  | int {k : Nat} (i : Int) : NB k (.int i)
  | str {k : Nat} {x : Str} (h : PyData.strOk x = true) : NB k (.str x)
  | tup {k : Nat} {ds : List D} (h : ∀ d ∈ ds, NB k d) : NB (k + 1) (.tup ds)
  | lst {k : Nat} {ds : List D} (h : ∀ d ∈ ds, NB k d) : NB (k + 1) (.lst ds)
theorem NB.mono {j : Nat} {d : D} (h : NB j d) : ∀ {k : Nat}, j ≤ k → NB k d := by
  induction h with
  | non => intro k _; exact .non
  | int i => intro k _; exact .int i
  | str h => intro k _; exact .str h
  | @tup j ds h ih =>
    intro k e
    cases k with
    | zero => omega
    | succ k => exact .tup fun d hd => ih d hd (by omega)
  | @lst j ds h ih =>
    intro k e
    cases k with
    | zero => omega
    | succ k => exact .lst fun d hd => ih d hd (by omega)
theorem pds_can : ∀ {ds : List D} {k : Nat}, (∀ d ∈ ds, (D.pd d).canLay0 = true ∧ (D.pd d).depth ≤ k) → PyData.canLayAll0 (D.pds ds) = true ∧ PyData.depthAll (D.pds ds) ≤ k
  | [], _, _ => ⟨by simp [D.pds, PyData.canLayAll0], by simp [D.pds, PyData.depthAll]⟩
  | d :: ds, k, h => by
    obtain ⟨h1, h2⟩ := h d List.mem_cons_self
    obtain ⟨h3, h4⟩ := pds_can (ds := ds) (k := k) fun e he => h e (List.mem_cons_of_mem _ he)
    exact ⟨by simp [D.pds, PyData.canLayAll0, h1, h3], by simp only [D.pds, PyData.depthAll]; omega⟩
theorem NB.can {k : Nat} {d : D} (h : NB k d) : (D.pd d).canLay0 = true ∧ (D.pd d).depth ≤ k := by
  induction h with
  | non => exact ⟨by simp [D.pd, PyData.canLay0], by simp [D.pd, PyData.depth]⟩
  | int i => exact ⟨by simp [D.pd, PyData.canLay0], by simp [D.pd, PyData.depth]⟩
  | str h => exact ⟨by simp [D.pd, PyData.canLay0, h], by simp [D.pd, PyData.depth]⟩
  | tup h ih =>
    obtain ⟨h1, h2⟩ := pds_can ih
    exact ⟨by simp [D.pd, PyData.canLay0, h1], by simp only [D.pd, PyData.depth]; omega⟩
  | lst h ih =>
    obtain ⟨h1, h2⟩ := pds_can ih
    exact ⟨by simp [D.pd, PyData.canLay0, h1], by simp only [D.pd, PyData.depth]; omega⟩
theorem NB.shaped {k : Nat} {d : D} (h : NB k d) (hk : k ≤ 64) : SeqAt.shaped (D.pd d) = true := by
  obtain ⟨h1, h2⟩ := h.can
  unfold SeqAt.shaped
  rw [h1, decide_eq_true (by omega)]
  rfl
theorem pds_eqv : ∀ {ds es : List D} {P : D → Prop}, (∀ d ∈ ds, ∀ e, P e → (PyData.eqv d.pd e.pd = true ↔ d = e)) → (∀ e ∈ es, P e) → (PyData.eqvAll (D.pds ds) (D.pds es) = true ↔ ds = es)
  | [], [], _, _, _ => by simp [D.pds, PyData.eqvAll]
  | [], e :: es, _, _, _ => by simp [D.pds, PyData.eqvAll]
  | d :: ds, [], _, _, _ => by simp [D.pds, PyData.eqvAll]
  | d :: ds, e :: es, P, h, g => by
    have h1 := h d List.mem_cons_self e (g e List.mem_cons_self)
    have h2 := pds_eqv (ds := ds) (es := es) (P := P) (fun x hx => h x (List.mem_cons_of_mem _ hx)) fun x hx => g x (List.mem_cons_of_mem _ hx)
    simp only [D.pds, PyData.eqvAll, Bool.and_eq_true, h1, h2, List.cons.injEq]
theorem NB.eqv {k : Nat} {d : D} (h : NB k d) : ∀ {j : Nat} {e : D}, NB j e → (PyData.eqv d.pd e.pd = true ↔ d = e) := by
  induction h with
  | non => intro j e g; cases g <;> simp [D.pd, PyData.eqv]
  | int i => intro j e g; cases g <;> simp [D.pd, PyData.eqv]
  | str h => intro j e g; cases g <;> simp [D.pd, PyData.eqv]
  | @tup k ds h ih =>
    intro j e g
    cases g with
    | non => simp [D.pd, PyData.eqv]
    | int i => simp [D.pd, PyData.eqv]
    | str h => simp [D.pd, PyData.eqv]
    | @tup j es g =>
      simp only [D.pd, PyData.eqv, D.tup.injEq]
      exact pds_eqv (P := fun e => ∃ j, NB j e) (fun d hd e he => by obtain ⟨j, he⟩ := he; exact ih d hd he) fun e he => ⟨_, g e he⟩
    | lst g => simp [D.pd, PyData.eqv]
  | @lst k ds h ih =>
    intro j e g
    cases g with
    | non => simp [D.pd, PyData.eqv]
    | int i => simp [D.pd, PyData.eqv]
    | str h => simp [D.pd, PyData.eqv]
    | @lst j es g =>
      simp only [D.pd, PyData.eqv, D.lst.injEq]
      exact pds_eqv (P := fun e => ∃ j, NB j e) (fun d hd e he => by obtain ⟨j, he⟩ := he; exact ih d hd he) fun e he => ⟨_, g e he⟩
    | tup g => simp [D.pd, PyData.eqv]
section
variable {K : PySem.W.Frag} {I H : Hp} {M : List (Addr × HO)} {Q : VK} {x y v : V} {d e : D} {ds es : List D} {j k : Nat}
theorem isA_dp (f : ∀ d ∈ ds, ∀ v, Is I v d → Dp K H v d.pd) : ∀ {vs : List V}, IsA I vs ds → DpAll K H vs (D.pds ds) := by
  induction ds with
  | nil => intro vs a; cases a; exact .nil
  | cons d ds ih =>
    intro vs a
    cases a with
    | cons h a => exact .cons (f d List.mem_cons_self _ h) (ih (fun e he => f e (List.mem_cons_of_mem _ he)) a)
theorem NB.dp (w : W I H M) (n : NB k d) : ∀ {v : V}, Is I v d → Dp K H v d.pd := by
  induction n with
  | non => intro v h; cases h; exact .non
  | int i => intro v h; cases h; exact .int i
  | str s => intro v h; cases h; exact .str _
  | tup n ih =>
    intro v h
    cases h with
    | tup hp a => exact .tup (.inl (.inl (w.imm _ _ hp))) (isA_dp (fun d hd v hv => ih d hd hv) a)
  | lst n ih =>
    intro v h
    cases h with
    | lst hp a => exact .lst (.inl (.inl (w.imm _ _ hp))) (isA_dp (fun d hd v hv => ih d hd hv) a)
theorem s_eqD {b : Bool} (w : W I H M) (hx : Is I x d) (hy : Is I y e) (n : NB k d) (m : NB j e) (hk : k ≤ 64) (hj : j ≤ 64) (hb : b = true ↔ d = e) (q : Q (.bl b) H) : rEqU K x y H Q :=
  .inr ⟨d.pd, e.pd, n.dp w hx, m.dp w hy, n.shaped hk, m.shaped hj, by
    have h1 := n.eqv m
    have h2 : PyData.eqv d.pd e.pd = b := by rw [Bool.eq_iff_iff, h1, hb]
    rw [h2]; exact q⟩
theorem s_neD {b : Bool} (w : W I H M) (hx : Is I x d) (hy : Is I y e) (n : NB k d) (m : NB j e) (hk : k ≤ 64) (hj : j ≤ 64) (hb : b = true ↔ d = e) (q : Q (.bl (!b)) H) : rNeU K x y H Q :=
  .inr ⟨d.pd, e.pd, n.dp w hx, m.dp w hy, n.shaped hk, m.shaped hj, by
    have h1 := n.eqv m
    have h2 : PyData.eqv d.pd e.pd = b := by rw [Bool.eq_iff_iff, h1, hb]
    rw [h2]; exact q⟩
theorem s_eqT (w : W I H M) (hx : Is I x d) (hy : Is I y d) (n : NB 60 d) (q : Q (.bl true) H) : rEqU K x y H Q := s_eqD w hx hy n n (by decide) (by decide) (b := true) (by simp) q
theorem s_neT (w : W I H M) (hx : Is I x d) (hy : Is I y d) (n : NB 60 d) (q : Q (.bl false) H) : rNeU K x y H Q := s_neD w hx hy n n (by decide) (by decide) (b := true) (by simp) q
theorem NB.fr {a b : Int} {k : Nat} : NB (k + 1) (fr a b) := .tup fun d hd => by
  rcases List.mem_cons.mp hd with rfl | hd
  · exact .int a
  · rw [List.mem_singleton.mp hd]; exact .int b
/-- lists -/
theorem s_catI (w : W I H M) (hx : Is I x (.lst ds)) (hy : Is I y (.lst es)) (hz : ds.length + es.length ≤ 100000) (q : ∀ p J H', Same I J → I p = none → W J H' M → Is J (.ref p) (.lst (ds ++ es)) → Q (.ref p) H') : rAddU K x y H Q := by
  obtain ⟨p1, vs, rfl, h1, a1⟩ := hx.lst_ex
  obtain ⟨p2, us, rfl, h2, a2⟩ := hy.lst_ex
  exact .inr (.inr (.inl ⟨p1, p2, vs, us, rfl, rfl, w.imm _ _ h1, w.imm _ _ h2, by rw [a1.length, a2.length]; exact Nat.le_trans hz (by decide), fun p hp => q p _ _ (w.same hp) (w.fresh hp) (w.newI hp) (.lst upd_same ((a1.app a2).mono (w.same hp)))⟩))
theorem s_listI (w : W I H M) (hx : Is I x (.lst ds)) (q : ∀ p J H', Same I J → I p = none → W J H' M → Is J (.ref p) (.lst ds) → Q (.ref p) H') : rListOf K [x] H Q := by
  obtain ⟨p1, vs, rfl, h1, a1⟩ := hx.lst_ex
  exact ⟨p1, vs, rfl, .inl (.inl (.inl (w.imm _ _ h1))), fun p hp => q p _ _ (w.same hp) (w.fresh hp) (w.newI hp) (.lst upd_same (a1.mono (w.same hp)))⟩
theorem s_listT (w : W I H M) (hx : Is I x (.tup ds)) (q : ∀ p J H', Same I J → I p = none → W J H' M → Is J (.ref p) (.lst ds) → Q (.ref p) H') : rListOf K [x] H Q := by
  obtain ⟨p1, vs, rfl, h1, a1⟩ := hx.tup_ex
  exact ⟨p1, vs, rfl, .inr (.inl (.inl (w.imm _ _ h1))), fun p hp => q p _ _ (w.same hp) (w.fresh hp) (w.newI hp) (.lst upd_same (a1.mono (w.same hp)))⟩
def cutD (ds : List D) (lo hi : Option Int) : List D := (ds.drop (HT.sIx ds.length 0 lo)).take (HT.sIx ds.length ds.length hi - HT.sIx ds.length 0 lo)
theorem IsA.cut {vs : List V} (a : IsA I vs ds) (lo hi : Option Int) : IsA I (cutV vs lo hi) (cutD ds lo hi) := by
  unfold cutV cutD
  rw [a.length]
  exact (a.drop _).take _
theorem s_slI {lo hi : Option Int} (w : W I H M) (hx : Is I x (.lst ds)) (q : ∀ p J H', Same I J → I p = none → W J H' M → Is J (.ref p) (.lst (cutD ds lo hi)) → Q (.ref p) H') : rSlL K x lo hi H Q := by
  obtain ⟨p1, vs, rfl, h1, a1⟩ := hx.lst_ex
  exact ⟨p1, vs, rfl, .inl (.inl (w.imm _ _ h1)), fun p hp => q p _ _ (w.same hp) (w.fresh hp) (w.newI hp) (.lst upd_same ((a1.cut lo hi).mono (w.same hp)))⟩
end

/-! ### defs with defaults -/
section
variable {P : Program} {w : World} {K : PySem.W.Frag} {mg : Str → Option Value} {base : Heap}
theorem _root_.L2.FunD.ok0 {x qual : Str} {st : Stmt} {dvs : List V} {f : Addr} {fd : FuncData} {N ps : List Str} {k : Nat} {sp : Sp} (F : FunD K x qual (defArgs st) (defBody st) (defScope st) dvs [] f fd) (S : FnScope N ps (defScope st)) (len : ∀ vs H Q E, sp vs H Q E → vs.length = ps.length)
    (hbody : ∀ (cdv : Value) (A : Around) (outer : List Env) (s : Shared) (H : Hp) (vs : List V) (Q : VK) (E : XK), Room k (A.deeper (envOfC qual (defScope st) s.heap.objs.size f cdv)) → sp vs H Q E →
      ∃ t, PSs (cxOf CX0 P w K mg base N qual (defScope st) f cdv A outer s H E).nox (defBody st) t ∧ t { nx := fun _ H' => Q .non H', rt := Q } (start N vs) H) : FnOk P w K mg base CX0 (k + 1) f fd ps sp :=
  F.ok S len fun cdv A outer s H vs Q E hr h => let ⟨t, a, b⟩ := hbody cdv A outer s H vs Q E hr h; ⟨t, a.nox, b⟩
/-- what the top has left of such a def -/
theorem funD_mk {x qual : Str} {st : Stmt} {f T : Addr} {oc to_ : Value} {od an td : Option Addr} {osl tsl : Array (Option Value)} {kV doc pm cdv ct : Value} {its : List Value} {n : Nat} {dvs : List V} (l : K.lookup f = some ⟨oc, od, .func (PySem.W.fnOf x qual (defArgs st) (defBody st) (defScope st) (.ref T) kV doc pm an cdv ct), osl⟩)
    (c : PySem.W.codeIn K cdv qual = true) (k : PySem.W.keepIn K (.ref f) = true) (lT : K.lookup T = some ⟨to_, td, .seq its.toArray n, tsl⟩) (hv : Vals dvs its) (hd : dvs ≠ []) :
    FunD K x qual (defArgs st) (defBody st) (defScope st) dvs [] f (PySem.W.fnOf x qual (defArgs st) (defBody st) (defScope st) (.ref T) kV doc pm an cdv ct) :=
  ⟨⟨oc, od, .ref T, kV, doc, pm, an, cdv, ct, osl, rfl, l, c, .inr ⟨hd, T, _, its, n, rfl, lT, rfl, hv⟩, .inl rfl⟩, k⟩
end
end Fs

namespace Fs
open PySem PySem.Spec PyProof.Rows L2
/-! ### fractions are rational numbers -/
abbrev frq (q : Rat) : D := fr q.num q.den
/-- its numbers have at most so many bits -/
structure Sz (k : Nat) (q : Rat) : Prop where
  n : Bd k q.num
  d : Bd k (q.den : Int)
theorem Sz.mono {j k : Nat} {q : Rat} (h : Sz j q) (hk : j ≤ k) : Sz k q := ⟨h.n.mono hk, h.d.mono hk⟩
theorem den_pos' (q : Rat) : (0 : Int) < (q.den : Int) := by have := q.den_pos; omega
theorem gcd_q (q : Rat) : Int.gcd q.num q.den = 1 := q.reduced
theorem gcd_pos' {t b : Int} (h : b ≠ 0) : (0 : Int) < (Int.gcd t b : Int) := by
  have : 0 < Int.gcd t b := Int.gcd_pos_of_ne_zero_right _ h
  omega
theorem gcd_abs (t b : Int) : Int.gcd (if t < 0 then -t else t) (if b < 0 then -b else b) = Int.gcd t b := by
  split <;> split <;> simp [Int.gcd_neg, Int.neg_gcd]
theorem gcd_le_right' {t b : Int} (h : b ≠ 0) : (Int.gcd t b : Int).natAbs ≤ b.natAbs := by
  have := Nat.le_of_dvd (by omega) (Nat.gcd_dvd_right t.natAbs b.natAbs)
  show Int.gcd t b ≤ _
  exact this
theorem low_num {t b : Int} (h : b ≠ 0) : (if b < 0 then -t else t) / (Int.gcd t b : Int) = (Rat.divInt t b).num := by
  rw [Rat.num_divInt, Int.gcd_comm b t]
  by_cases hb : b < 0
  · rw [if_pos hb, Int.sign_eq_neg_one_of_neg hb]
    congr 1
    omega
  · rw [if_neg hb, Int.sign_eq_one_of_pos (by omega)]
    congr 1
    omega
theorem low_den {t b : Int} (h : b ≠ 0) : (if b < 0 then -b else b) / (Int.gcd t b : Int) = ((Rat.divInt t b).den : Int) := by
  rw [Rat.den_divInt, if_neg h, Int.gcd_comm b t, Int.natCast_ediv]
  congr 1
  split <;> omega
theorem div_abs_le {a g : Int} (hg : 0 < g) (hd : g ∣ a) : (a / g).natAbs ≤ a.natAbs := by
  obtain ⟨c, rfl⟩ := hd
  rw [Int.mul_ediv_cancel_left _ (by omega), Int.natAbs_mul]
  exact Nat.le_mul_of_pos_left _ (by omega)
theorem num_le {t b : Int} (h : b ≠ 0) : (Rat.divInt t b).num.natAbs ≤ t.natAbs := by
  rw [← low_num h]
  have hd : (Int.gcd t b : Int) ∣ (if b < 0 then -t else t) := by
    split
    · exact Int.dvd_neg.mpr (Int.gcd_dvd_left _ _)
    · exact Int.gcd_dvd_left _ _
  have := div_abs_le (gcd_pos' (t := t) h) hd
  split at this <;> split <;> omega
theorem den_le {t b : Int} (h : b ≠ 0) : ((Rat.divInt t b).den : Int).natAbs ≤ b.natAbs := by
  rw [← low_den h]
  have hd : (Int.gcd t b : Int) ∣ (if b < 0 then -b else b) := by
    split
    · exact Int.dvd_neg.mpr (Int.gcd_dvd_right _ _)
    · exact Int.gcd_dvd_right _ _
  have := div_abs_le (gcd_pos' (t := t) h) hd
  split at this <;> split <;> omega
theorem Sz.divInt {j k : Nat} {t b : Int} (h : b ≠ 0) (ht : Bd j t) (hb : Bd k b) (m : Nat) (hj : j ≤ m := by omega) (hk : k ≤ m := by omega) : Sz m (Rat.divInt t b) := ⟨(ht.le (num_le h)).mono hj, (hb.le (den_le h)).mono hk⟩
theorem den_ne (q : Rat) : (q.den : Int) ≠ 0 := by have := q.den_pos; omega
theorem add_dv (p q : Rat) : Rat.divInt (p.num * q.den + q.num * p.den) (p.den * q.den) = p + q := by
  have h := Rat.divInt_add_divInt p.num q.num (den_ne p) (den_ne q)
  rw [Rat.num_divInt_den, Rat.num_divInt_den] at h
  exact h.symm
theorem sub_dv (p q : Rat) : Rat.divInt (p.num * q.den - q.num * p.den) (p.den * q.den) = p - q := by
  have h := Rat.divInt_sub_divInt p.num q.num (den_ne p) (den_ne q)
  rw [Rat.num_divInt_den, Rat.num_divInt_den] at h
  exact h.symm
theorem mul_dv (p q : Rat) : Rat.divInt (p.num * q.num) (p.den * q.den) = p * q := by
  have h := Rat.divInt_mul_divInt p.num q.num (d₁ := p.den) (d₂ := q.den)
  rw [Rat.num_divInt_den, Rat.num_divInt_den] at h
  exact h.symm
theorem div_dv (p q : Rat) : Rat.divInt (p.num * q.den) (p.den * q.num) = p / q := by
  have h := Rat.divInt_mul_divInt p.num q.den (d₁ := p.den) (d₂ := q.num)
  rw [Rat.num_divInt_den, ← Rat.inv_divInt q.num q.den, Rat.num_divInt_den] at h
  rw [Rat.div_def]
  exact h.symm
theorem den_mul_ne (p q : Rat) : (p.den * q.den : Int) ≠ 0 := Int.mul_ne_zero (den_ne p) (den_ne q)
theorem Sz.add {j k : Nat} {p q : Rat} (hp : Sz j p) (hq : Sz k q) : Sz (j + k + 1) (p + q) := by
  rw [← add_dv]
  exact Sz.divInt (den_mul_ne p q) (Bd.add (hp.n.mul hq.d) ((hq.n.mul hp.d).mono (by omega))) (hp.d.mul hq.d) _
theorem Sz.sub {j k : Nat} {p q : Rat} (hp : Sz j p) (hq : Sz k q) : Sz (j + k + 1) (p - q) := by
  rw [← sub_dv]
  exact Sz.divInt (den_mul_ne p q) (Bd.sub (hp.n.mul hq.d) ((hq.n.mul hp.d).mono (by omega))) (hp.d.mul hq.d) _
theorem Sz.mul {j k : Nat} {p q : Rat} (hp : Sz j p) (hq : Sz k q) : Sz (j + k) (p * q) := by
  rw [← mul_dv]
  exact Sz.divInt (den_mul_ne p q) (hp.n.mul hq.n) (hp.d.mul hq.d) _
theorem Sz.div {j k : Nat} {p q : Rat} (hp : Sz j p) (hq : Sz k q) (h0 : q ≠ 0) : Sz (j + k) (p / q) := by
  rw [← div_dv]
  exact Sz.divInt (Int.mul_ne_zero (den_ne p) (fun h => h0 (Rat.num_eq_zero.mp h))) (hp.n.mul hq.d) (hp.d.mul hq.n) _
theorem Sz.neg {k : Nat} {q : Rat} (h : Sz k q) : Sz k (-q) := ⟨by rw [Rat.neg_num]; exact h.n.neg, by rw [Rat.neg_den]; exact h.d⟩
theorem Sz.int {k : Nat} {n : Int} (h : Bd k n) (hk : 0 < k := by decide) : Sz k (n : Rat) := ⟨h, Bd.of 1 (by rw [Rat.den_intCast]; decide) (by
  have : 2 ^ 1 ≤ 2 ^ k := Nat.pow_le_pow_right (by decide) hk
  omega)⟩
theorem frq_int (n : Int) : frq (n : Rat) = fr n 1 := rfl
theorem frq_zero : frq 0 = fr 0 1 := rfl
theorem frq_inj {p q : Rat} (h : frq p = frq q) : p = q := by
  injection h with h
  injection h with h1 h
  injection h with h2 _
  injection h1 with h1
  injection h2 with h2
  exact Rat.ext h1 (by omega)
theorem frq_of {a b : Int} (hb : 0 < b) (g : Int.gcd a b = 1) : fr a b = frq (Rat.divInt a b) := by
  have h1 := low_num (t := a) (b := b) (by omega)
  have h2 := low_den (t := a) (b := b) (by omega)
  rw [if_neg (by omega), g] at h1 h2
  simp only [Int.natCast_one, Int.ediv_one] at h1 h2
  rw [frq, ← h1, ← h2]
theorem gcd_step {a b : Int} (ha : 0 ≤ a) (hb : 0 ≤ b) : Int.gcd b (a % b) = Int.gcd a b := by
  obtain ⟨m, rfl⟩ := Int.eq_ofNat_of_zero_le ha
  obtain ⟨n, rfl⟩ := Int.eq_ofNat_of_zero_le hb
  show Nat.gcd n (m % n) = Nat.gcd m n
  rw [Nat.gcd_comm n, ← Nat.gcd_rec, Nat.gcd_comm]
theorem gcd_end {a : Int} (ha : 0 ≤ a) : (Int.gcd a 0 : Int) = a := by
  rw [Int.gcd_zero_right]
  omega
end Fs

namespace Fs
open PySem PySem.Spec PyProof.Rows L2
/-! ### the rules with the written part as a letter (for a comprehension's block) -/
section
variable {X : Cx} {K : PySem.W.Frag}
theorem k_add (h : X.K = K) : OpR X (binaryOp .Add) (rAddU K) := h ▸ uo_add
theorem k_eq (h : X.K = K) (hu : X.A.units + 64 < cLine) : OpR X (compareOp .Eq) (rEqU K) := h ▸ uo_eq hu
theorem k_ne (h : X.K = K) (hu : X.A.units + 64 < cLine) : OpR X (compareOp .NotEq) (rNeU K) := h ▸ uo_ne hu
theorem k_ix (h : X.K = K) : IxR X (rIx K) := h ▸ ix_seq
theorem k_len (h : X.K = K) : CallR X (.builtin "len") (rLenU K) := h ▸ uc_len
theorem k_isi (h : X.K = K) : CallR X (.builtin "isinstance") (rIsiU K) := h ▸ uc_isi
theorem k_min (h : X.K = K) (hc : X.calm = true) : CallR X (.builtin "min") (rMinU K) := h ▸ uc_min hc
theorem k_max (h : X.K = K) (hc : X.calm = true) : CallR X (.builtin "max") (rMaxU K) := h ▸ uc_max hc
theorem k_sum (h : X.K = K) (hc : X.calm = true) : CallR X (.builtin "sum") (rSum K) := h ▸ cr_sum hc
theorem k_list (h : X.K = K) : CallR X (.type "list") (rListOf K) := h ▸ uc_list
theorem k_sl (h : X.K = K) : SlR X (rSlL K) := h ▸ sl_list
theorem kpi_list {tg l : Expr} {tl : TE} (h : X.K = K) (e : PE X l tl) : PI X tg l (iList K tl) := h ▸ pi_list e
theorem kpi_tup {tg l : Expr} {tl : TE} (h : X.K = K) (e : PE X l tl) : PI X tg l (iTup K tl) := h ▸ pi_tup e
theorem kpe_fld {e : Expr} {ta : TE} {f : Str} {pos : Pos} (h : X.K = K) (he : PE X e ta) (hb : attributeBase e f X.env (eval e X.env) = eval e X.env) : PE X (.Attribute e f pos) (tFld K ta f) := h ▸ pe_fld he hb
theorem kpg_tup {es : List Expr} {k : Nat} {t : TGs} {n : Nat} {pos : Pos} (h : X.K = K) (hc : X.calm = true) (hg : PGs X es t)
    (hn : (assignEach es X.env).length = n := by rfl) (hst : (assignEach es X.env).findIdx? (·.1) = none := by rfl) : PG X (.Tuple es k pos) (gTup K n t) := h ▸ pg_tup hc hg hn hst
end
/-! ### comprehensions -/
/-- what stands behind a comprehension's source -/
def LcGo (J : It) (g : TG) (tt : TT) (te : TE) (xs : List Nat) (σ : L2.St) (Q : VK) (H1 : Hp) : Prop := ∀ D, H1 D = none → ∃ W : Nat → Nat → Hp → Prop, (∃ m, W 0 m (upd H1 D (.lst []))) ∧ ∀ i m H, W i m H →
  (J.stop i H ∧ Q (.ref D) H) ∨ (J.go i H ∧ ∃ Nx : Hp → Prop, (∀ H', Nx H' → ∃ m', m' < m ∧ W (i + 1) m' H') ∧ ∀ x H', J.yld i H x H' → g x (wipe σ xs) H' fun σ2 H2 => wipe σ2 xs = wipe σ xs ∧ tt σ2 H2 fun b H3 =>
    if b = true then te σ2 H3 fun y H4 => ∃ acc, H4 D = some (.lst acc) ∧ acc.length < sizeLine ∧ Nx (upd H4 D (.lst (acc ++ [y]))) else Nx H3)
section
variable {K : PySem.W.Frag} {σ : L2.St} {I H : Hp} {M : List (Addr × HO)} {Q : VK} {x v : V} {b c : Addr} {o : HO} {te : TE} {wi : TI} {g : TG} {tt : TT} {xs : List Nat} {ds : List D} {k : Nat}
theorem s_lcc (h : wi σ H fun J H1 => LcGo J g tt te xs σ Q H1) : tLc wi g tt te xs σ H Q := h
theorem s_lcRng {n : Int} {lo : Int} (h1 : -(2 ^ 62) ≤ n) (h2 : n < 2 ^ 62) (h : LcGo (Itr 0 n.toNat) g tt te xs σ Q H) : ∃ j : Int, [V.int n] = [.int j] ∧ -(2 ^ 62) ≤ j ∧ j < 2 ^ 62 ∧ LcGo (Itr 0 j.toNat) g tt te xs σ Q H := ⟨n, rfl, h1, h2, h⟩
/-- turns that draw nothing, one name as target, no test; what the i-th turn gives is told by f -/
theorem lc_pure {J : It} {n : Nat} {Gd : Hp → Prop} {Y : Nat → Hp → V → Hp → Prop} (wk : Walk J n Gd Y) (w : W I H M) (hG : ∀ H', Same I H' → Gd H') (f : Nat → D) (hn : n ≤ 100000)
    (hw : ∀ v, wipe ((wipe σ xs).set k (some v)) xs = wipe σ xs)
    (step : ∀ i v D acc J' H0 H' C, i < n → Same I J' → W J' H0 ((D, .lst acc) :: M) → Y i H0 v H' → (∀ y J'' H4, Same J' J'' → W J'' H4 ((D, .lst acc) :: M) → Is J'' y (f i) → C y H4) → te ((wipe σ xs).set k (some v)) H' C)
    (q : ∀ p J' H', Same I J' → I p = none → W J' H' M → Is J' (.ref p) (.lst ((List.range n).map f)) → Q (.ref p) H') : LcGo J (gName k) tYes te xs σ Q H := by
  intro D nD
  have w1 := w.newM (o := .lst []) nD
  refine lc_it wk (fun i H' => ∃ acc J', Same I J' ∧ W J' H' ((D, .lst acc) :: M) ∧ IsA J' acc ((List.range i).map f) ∧ acc.length = i) ⟨[], I, Same.refl _, w1, .nil, rfl⟩ (fun i H' _ ⟨acc, J', s, w', _⟩ => hG H' (s.trans w'.imm)) ?_ ?_
  · rintro i v H0 H' hi ⟨acc, J', s, w', a, hl⟩ hy
    refine ⟨hw v, ?_⟩
    refine s_yes (iteT (step i v D acc J' H0 H' _ hi s w' hy fun y J'' H4 s2 w2 h2 => ?_))
    refine ⟨acc, w2.at0, by rw [hl]; exact Nat.lt_of_lt_of_le hi (Nat.le_trans hn (by decide)), acc ++ [y], J'', s.trans s2, w2.put0, ?_, by rw [List.length_append, hl]; rfl⟩
    rw [List.range_succ, List.map_append]
    exact (a.mono s2).app (.one h2)
  · rintro H' ⟨acc, J', s, w', a, hl⟩
    obtain ⟨J2, s2, w2, h2⟩ := w'.done0 a
    refine q D J2 H' (s.trans s2) (w.fresh nD) w2 h2
/-- turns that draw -/
theorem lc_bag {J : It} {n : Nat} {Gd : Hp → Prop} {Y : Nat → Hp → V → Hp → Prop} (wk : Walk J n Gd Y) (w : W I H ((b, o) :: M)) (hb : Bag I c o) (hG : ∀ H', Same I H' → Gd H') (P : Nat → D → Prop) (hn : n ≤ 100000)
    (hw : ∀ v, wipe ((wipe σ xs).set k (some v)) xs = wipe σ xs)
    (step : ∀ i v D acc o' J' H0 H' C, i < n → Same I J' → Bag J' c o' → W J' H0 ((b, o') :: (D, .lst acc) :: M) → Y i H0 v H' →
      (∀ y d o'' J'' H4, Same J' J'' → Bag J'' c o'' → W J'' H4 ((b, o'') :: (D, .lst acc) :: M) → Is J'' y d → P i d → C y H4) → te ((wipe σ xs).set k (some v)) H' C)
    (q : ∀ p ds o' J' H', Same I J' → I p = none → Bag J' c o' → W J' H' ((b, o') :: M) → Is J' (.ref p) (.lst ds) → ds.length = n → (∀ i d, ds[i]? = some d → P i d) → Q (.ref p) H') : LcGo J (gName k) tYes te xs σ Q H := by
  intro D nD
  have w1 := w.newM2 (o := .lst []) nD
  refine lc_it wk (fun i H' => ∃ acc J' o' ds, Same I J' ∧ Bag J' c o' ∧ W J' H' ((b, o') :: (D, .lst acc) :: M) ∧ IsA J' acc ds ∧ acc.length = i ∧ ds.length = i ∧ ∀ j d, ds[j]? = some d → P j d) ⟨[], I, o, [], Same.refl _, hb, w1, .nil, rfl, rfl, fun j d h => by simp at h⟩ (fun i H' _ ⟨acc, J', o', ds, s, _, w', _⟩ => hG H' (s.trans w'.imm)) ?_ ?_
  · rintro i v H0 H' hi ⟨acc, J', o', ds, s, hb', w', a, hl, hl2, hp⟩ hy
    refine ⟨hw v, ?_⟩
    refine s_yes (iteT (step i v D acc o' J' H0 H' _ hi s hb' w' hy fun y d o'' J'' H4 s2 hb2 w2 h2 hd => ?_))
    refine ⟨acc, w2.at1, by rw [hl]; exact Nat.lt_of_lt_of_le hi (Nat.le_trans hn (by decide)), acc ++ [y], J'', o'', ds ++ [d], s.trans s2, hb2, w2.put1, (a.mono s2).app (.one h2), by rw [List.length_append, hl]; rfl, by rw [List.length_append, hl2]; rfl, fun j e h => ?_⟩
    by_cases hj : j < ds.length
    · rw [List.getElem?_append_left hj] at h
      exact hp j e h
    · rw [List.getElem?_append_right (by omega)] at h
      have h3 : j - ds.length = 0 := by
        cases hz : j - ds.length with
        | zero => rfl
        | succ m => rw [hz] at h; simp at h
      rw [h3] at h
      simp at h
      subst h
      have : j = i := by omega
      rw [this]
      exact hd
  · rintro H' ⟨acc, J', o', ds, s, hb', w', a, hl, hl2, hp⟩
    obtain ⟨J2, s2, w2, h2⟩ := w'.done1 a
    exact q D ds o' J2 H' (s.trans s2) (w.fresh nD) (hb'.mono s2) w2 h2 hl2 hp
theorem s_iLc {J : Addr → Prop} (w : W I H M) (h : Is I v (.lst ds)) (q : ∀ a vs, v = .ref a → I a = some (.lst vs) → IsA I vs ds → J a) : ∃ a, v = .ref a ∧ (∃ xs, SqL K H a xs) ∧ J a := s_iL' w h q
end

/-! ### sums of fractions -/
def rs (qs : List Rat) : Rat := qs.foldl (· + ·) 0
theorem rs_nil : rs [] = 0 := rfl
theorem rs_snoc (qs : List Rat) (q : Rat) : rs (qs ++ [q]) = rs qs + q := by simp [rs, List.foldl_append]
theorem rs_take {qs : List Rat} {i : Nat} {q : Rat} (h : qs[i]? = some q) : rs (qs.take (i + 1)) = rs (qs.take i) + q := by
  rw [List.take_add_one, h, ← rs_snoc]
  rfl
theorem rs_from (ys : List Rat) : ∀ a : Rat, ys.foldl (· + ·) a = a + rs ys := by
  induction ys with
  | nil => intro a; simp [rs, Rat.add_zero]
  | cons y ys ih =>
    intro a
    show ys.foldl (· + ·) (a + y) = a + (ys.foldl (· + ·) (0 + y))
    rw [ih, ih, Rat.zero_add, Rat.add_assoc]
theorem rs_cons (y : Rat) (ys : List Rat) : rs (y :: ys) = y + rs ys := by
  show ys.foldl (· + ·) (0 + y) = _
  rw [rs_from, Rat.zero_add]
theorem rs_app (xs ys : List Rat) : rs (xs ++ ys) = rs xs + rs ys := by
  unfold rs
  rw [List.foldl_append, rs_from]
  rfl
/-- top and bottom by themselves -/
structure Sz2 (j k : Nat) (q : Rat) : Prop where
  n : Bd j q.num
  d : Bd k (q.den : Int)
theorem Sz2.mono {i j k l : Nat} {q : Rat} (h : Sz2 i k q) (hj : i ≤ j) (hk : k ≤ l) : Sz2 j l q := ⟨h.n.mono hj, h.d.mono hk⟩
theorem Sz2.sz {j k m : Nat} {q : Rat} (h : Sz2 j k q) (hj : j ≤ m) (hk : k ≤ m) : Sz m q := ⟨h.n.mono hj, h.d.mono hk⟩
theorem Sz.sz2 {k : Nat} {q : Rat} (h : Sz k q) : Sz2 k k q := ⟨h.n, h.d⟩
theorem Sz2.add {j k l m : Nat} {p q : Rat} (hp : Sz2 j k p) (hq : Sz2 l m q) (n : Nat) (h1 : j + m + 1 ≤ n) (h2 : l + k + 1 ≤ n) : Sz2 n (k + m) (p + q) := by
  rw [← add_dv]
  have b1 : Bd (n - 1) (p.num * q.den) := (hp.n.mul hq.d).mono (by omega)
  have b2 : Bd (n - 1) (q.num * p.den) := (hq.n.mul hp.d).mono (by omega)
  have b3 := (Bd.add b1 b2).mono (show n - 1 + 1 ≤ n by omega)
  exact ⟨b3.le (num_le (den_mul_ne p q)), (hp.d.mul hq.d).le (den_le (den_mul_ne p q))⟩
theorem Sz2.rs {j k : Nat} {qs : List Rat} (h : ∀ q ∈ qs, Sz2 j k q) : ∀ i, i ≤ qs.length → Sz2 (j + (k + 1) * i + 1) (k * i + 1) (rs (qs.take i))
  | 0, _ => ⟨Bd.of 0 (by simp [rs_nil]) (Nat.pow_pos (by decide)), Bd.of 1 (by simp [rs_nil]) (by
      have : 2 ^ 1 ≤ 2 ^ (k * 0 + 1) := Nat.pow_le_pow_right (by decide) (by omega)
      omega)⟩
  | i + 1, hi => by
    have hi' : i < qs.length := hi
    have e : qs[i]? = some qs[i] := List.getElem?_eq_getElem hi'
    rw [rs_take e]
    have ih := Sz2.rs h i (by omega)
    have hq := h _ (List.getElem_mem hi')
    have e1 : (k + 1) * (i + 1) = (k + 1) * i + k + 1 := by rw [Nat.mul_add]; omega
    have e2 : k * (i + 1) = k * i + k := by rw [Nat.mul_add]; omega
    have e3 : k * i ≤ (k + 1) * i := Nat.mul_le_mul_right _ (by omega)
    exact (ih.add hq (j + (k + 1) * (i + 1) + 1) (by omega) (by omega)).mono (Nat.le_refl _) (by omega)
theorem frqs_of {S : Rat → Prop} : ∀ {ds : List D}, (∀ (i : Nat) d, ds[i]? = some d → ∃ q, d = frq q ∧ S q) → ∃ qs : List Rat, ds = qs.map frq ∧ ∀ q ∈ qs, S q
  | [], _ => ⟨[], rfl, fun _ h => nomatch h⟩
  | d :: ds, h => by
    obtain ⟨q, rfl, hq⟩ := h 0 _ rfl
    obtain ⟨qs, rfl, hs⟩ := frqs_of (S := S) (ds := ds) fun i e he => h (i + 1) e (by simpa using he)
    exact ⟨q :: qs, rfl, fun r hr => by
      rcases List.mem_cons.mp hr with rfl | hr
      · exact hq
      · exact hs r hr⟩
theorem atI0 {α : Type} {l : List α} {i : Nat} {x : α} (h : l[i]? = some x) : atI l (0 + (i : Int)) = some x := by
  rw [Int.zero_add]
  exact atI_nat h
theorem NB.list {α : Type} {f : α → D} {k : Nat} {l : List α} (h : ∀ x ∈ l, NB k (f x)) : NB (k + 1) (.lst (l.map f)) := .lst fun d hd => by
  obtain ⟨x, hx, rfl⟩ := List.mem_map.mp hd
  exact h x hx
theorem NB.frqs {qs : List Rat} {k : Nat} : NB (k + 2) (.lst (qs.map frq)) := NB.list fun _ _ => NB.fr
theorem NB.ints {ns : List Int} {k : Nat} : NB (k + 1) (.lst (ns.map D.int)) := NB.list fun n _ => .int n
theorem s_listC {K : PySem.W.Frag} {I H : Hp} {M : List (Addr × HO)} {Q : VK} {x : V} {ds : List D} (w : W I H M) (hx : Is I x (.lst ds)) (q : ∀ p vs J H', Same I J → I p = none → W J H' M → J p = some (.lst vs) → IsA I vs ds → Q (.ref p) H') : rListOf K [x] H Q := by
  obtain ⟨p1, vs, rfl, h1, a1⟩ := hx.lst_ex
  exact ⟨p1, vs, rfl, .inl (.inl (.inl (w.imm _ _ h1))), fun p hp => q p vs _ _ (w.same hp) (w.fresh hp) (w.newI hp) upd_same a1⟩
/-- for x, y in zip(xs, ys), two lists of one length that stay -/
def ZipQ (K : PySem.W.Frag) (x y : V) (H : Hp) (R : It → Hp → Prop) : Prop := ∃ a b xs ys, [x, y] = [.ref a, .ref b] ∧ SqL K H a xs ∧ SqL K H b ys ∧ R (Itz K a b) H
theorem s_zip {K : PySem.W.Frag} {σ : L2.St} {H : Hp} {ta : TA} {R : It → Hp → Prop} (h : ta σ H fun vs H1 => ∃ a b xs ys, vs = [.ref a, .ref b] ∧ SqL K H1 a xs ∧ SqL K H1 b ys ∧ R (Itz K a b) H1) : iZip K ta σ H R := h
theorem s_zipL {K : PySem.W.Frag} {σ : L2.St} {I H : Hp} {M : List (Addr × HO)} {x y : V} {ds es : List D} {g : TG} {tb : TS} {G : Ends} (w : W I H M) (hx : Is I x (.lst ds)) (hy : Is I y (.lst es)) (hl : ds.length = es.length) (Pv : Nat → L2.St → Hp → Prop) (h0 : Pv 0 σ H) (hI : ∀ i σ H, Pv i σ H → Same I H)
    (hs : ∀ i d e x y T σ H H', ds[i]? = some d → es[i]? = some e → Is I x d → Is I y e → Pv i σ H → H T = none → H' = upd H T (.tup [x, y]) → g (.ref T) σ H' fun σ2 H2 => tb { G with nx := Pv (i + 1), ct := Pv (i + 1), bk := G.nx } σ2 H2) (hd : ∀ σ H, Pv ds.length σ H → G.nx σ H) :
    ∃ a b xs ys, [x, y] = [V.ref a, .ref b] ∧ SqL K H a xs ∧ SqL K H b ys ∧ ∃ W : Nat → Nat → L2.St → Hp → Prop, (∃ m, W 0 m σ H) ∧ ∀ i m σ H, W i m σ H →
      ((Itz K a b).stop i H ∧ G.nx σ H) ∨ ((Itz K a b).go i H ∧ ∃ N : L2.St → Hp → Prop, (∀ σ' H', N σ' H' → ∃ m', m' < m ∧ W (i + 1) m' σ' H') ∧ ∀ x H', (Itz K a b).yld i H x H' → g x σ H' fun σ2 H2 => tb { G with nx := N, ct := N, bk := G.nx } σ2 H2) := by
  obtain ⟨p1, vs, rfl, h1, a1⟩ := hx.lst_ex
  obtain ⟨p2, us, rfl, h2, a2⟩ := hy.lst_ex
  refine ⟨p1, p2, vs, us, rfl, .inl (.inl (w.imm _ _ h1)), .inl (.inl (w.imm _ _ h2)), ?_⟩
  refine RZ.for_zipL (K := K) (xs := vs) (ys := us) (by rw [a1.length, a2.length, hl]) Pv h0 (fun i σ H q => ⟨.inl (.inl (hI i σ H q _ _ h1)), .inl (.inl (hI i σ H q _ _ h2))⟩) (fun i x y T σ H e1 e2 q nT => ?_) (fun σ H q => hd σ H (by rw [← a1.length]; exact q))
  obtain ⟨d, f1, g1⟩ := a1.of e1
  obtain ⟨e, f2, g2⟩ := a2.of e2
  exact hs i d e x y T σ H _ f1 f2 g1 g2 q nT rfl
theorem s_aug {σ : L2.St} {H : Hp} {G : Ends} {i : Nat} {te : TE} {ti : TIp} {x : V} (h : σ[i]? = some (some x)) (q : te σ H fun y H1 => ti x y H1 fun z H2 => G.nx (σ.set i (some z)) H2) : tAug i te ti G σ H := ⟨x, h, q⟩
/-- a list is taken away: fractions stay -/
theorem Is.delF {I : Hp} {v : V} {a b : Int} {p : Addr} {vs : List V} (h : Is I v (fr a b)) (hp : I p = some (.lst vs)) : Is (del I p) v (fr a b) := by
  obtain ⟨t, us, rfl, ht, au⟩ := h.tup_ex
  have ne : t ≠ p := fun e => by rw [e, hp] at ht; cases ht
  refine .tup (by rw [del_ne ne]; exact ht) ?_
  cases au with | cons h1 au =>
  cases au with | cons h2 au =>
  cases au
  cases h1
  cases h2
  exact .cons (.int _) (.cons (.int _) .nil)
theorem IsA.delF {I : Hp} {p : Addr} {us : List V} (hp : I p = some (.lst us)) : ∀ {qs : List Rat} {vs : List V}, IsA I vs (qs.map frq) → IsA (del I p) vs (qs.map frq)
  | [], _, h => by cases h; exact .nil
  | q :: qs, _, h => by
    cases h with
    | cons h a => exact .cons (h.delF hp) (IsA.delF hp a)
theorem Is.delL {I : Hp} {p l : Addr} {us : List V} {qs : List Rat} (h : Is I (.ref l) (.lst (qs.map frq))) (hp : I p = some (.lst us)) (ne : l ≠ p) : Is (del I p) (.ref l) (.lst (qs.map frq)) := by
  cases h with
  | lst h a => exact .lst (by rw [del_ne ne]; exact h) (a.delF hp)
def rIns : V → List V → Hp → VK → Prop := fun x vs H Q => ∃ (l : Addr) (xs : List V) (i : Int) (y : V), x = .ref l ∧ vs = [.int i, y] ∧ H l = some (.lst xs) ∧ xs.length < sizeLine ∧ 0 ≤ i ∧ i < 2 ^ 63 ∧ Q .non (upd H l (.lst (xs.take i.toNat ++ [y] ++ xs.drop i.toNat)))
theorem mt_ins {X : Cx} : MtR X "list.insert" rIns := mt_insert
theorem s_insW1 {I H : Hp} {M : List (Addr × HO)} {m0 : Addr × HO} {p : Addr} {xs : List V} {i : Int} {y : V} {Q : VK} (w : W I H (m0 :: (p, .lst xs) :: M)) (hz : xs.length ≤ 100000) (h0 : 0 ≤ i) (h1 : i < 1000000) (q : ∀ H', W I H' (m0 :: (p, .lst (xs.take i.toNat ++ [y] ++ xs.drop i.toNat)) :: M) → Q .non H') : rIns (.ref p) [.int i, y] H Q :=
  ⟨p, xs, i, y, rfl, rfl, w.at1, Nat.lt_of_le_of_lt hz (by decide), h0, by omega, q _ w.put1⟩
theorem s_popW1 {I H : Hp} {M : List (Addr × HO)} {m0 : Addr × HO} {p : Addr} {xs : List V} {y : V} {Q : VK} (w : W I H (m0 :: (p, .lst xs) :: M)) (hy : xs[xs.length - 1]? = some y) (q : ∀ H', W I H' (m0 :: (p, .lst xs.dropLast) :: M) → Q y H') : rPop (.ref p) [] H Q :=
  ⟨p, xs, y, rfl, rfl, w.at1, hy, q _ w.put1⟩
/-! ### a displayed dict of one pair -/
def DispQ (Q : VK) (p : Addr) (x y : V) (H2 : Hp) : Prop := H2 p = some (.dK []) ∧ ∃ kvs : List (Key × V), [(x, y)] = kvs.map (fun kv => (kV kv.1, kv.2)) ∧ kvs.length ≤ 15 ∧ Q (.ref p) (upd H2 p (.dK (mergeK [] kvs)))
section
variable {σ : L2.St} {I H : Hp} {M : List (Addr × HO)} {Q : VK} {tk tv : TE} {p : Addr} {y : V}
theorem s_disp1 (w : W I H M) (q : ∀ p H', I p = none → W I H' ((p, .dK []) :: M) → tk σ H' fun x H1 => tv σ H1 fun y H2 => DispQ Q p x y H2) : tDisp [(tk, tv)] σ H Q := fun p hp => q p _ (w.fresh hp) (w.newM hp)
theorem s_dispI {n : Int} (w : W I H ((p, .dK []) :: M)) (q : ∀ J H', Same I J → W J H' M → Is J (.ref p) .dict → Q (.ref p) H') : DispQ Q p (.int n) y H :=
  have w2 := w.put0 (o' := .dK (mergeK [] [(Sum.inl n, y)]))
  ⟨w.at0, [(Sum.inl n, y)], rfl, by simp, q _ _ w2.frzS0 w2.frz0 (.dct upd_same)⟩
theorem s_dispS {n : Str} (w : W I H ((p, .dK []) :: M)) (q : ∀ J H', Same I J → W J H' M → Is J (.ref p) .dict → Q (.ref p) H') : DispQ Q p (.str n) y H :=
  have w2 := w.put0 (o' := .dK (mergeK [] [(Sum.inr n, y)]))
  ⟨w.at0, [(Sum.inr n, y)], rfl, by simp, q _ _ w2.frzS0 w2.frz0 (.dct upd_same)⟩
end
def D.whole : D → Bool
  | .int _ => true
  | _ => false
/-- its kind is known to isinstance -/
def Ty (d : D) : Prop := ∃ a, d.tn = some a
end Fs

namespace Fs
open PySem PySem.Spec PyProof.Rows L2
/-! ### own classes -/
/-- what is asked of a class of the text -/
structure OwnC (K : PySem.W.Frag) (C : Addr) : Prop where
  cl : Cls K C
  ha : PySem.W.findIn K (.ref C) "__class__" = some (some (.builtin "object.__class__"))
  hn : PySem.W.specialIn K (.builtin "object.__class__") "__get__" = some (some (.builtin "getset_descriptor.__get__"))
  htk : PySem.W.takesIn K (.builtin "object.__class__") = some true
  hm : PySem.W.mroIn K C (.type "object") = some true
/-- a class that may be made, by its __init__ -/
structure Mak (P : Program) (w : World) (K : PySem.W.Frag) (mg : Str → Option Value) (base : Heap) (x : Str) (C : Addr) (k : Nat) (ps : List Str) (dvs : List V) (sp : Sp) : Prop where
  ex : ∃ (f : Addr) (fd : FuncData) (ds : List Value), Mk K C f ∧ FnOk P w K mg base CX0 k f fd ps sp ∧ mg x = some (.ref C) ∧ Binds K fd ps ds ∧ Vals dvs ds
/-- a method -/
structure Met (P : Program) (w : World) (K : PySem.W.Frag) (mg : Str → Option Value) (base : Heap) (m : Str) (C : Addr) (k : Nat) (ps : List Str) (dvs : List V) (sp : Sp) : Prop where
  ex : ∃ (f : Addr) (fd : FuncData) (ds : List Value), Cls K C ∧ Meth K C m f ∧ FnOk P w K mg base CX0 k f fd ps sp ∧ Binds K fd ps ds ∧ Vals dvs ds
section
variable {X : Cx} {x m : Str} {C : Addr} {p pos apos : Pos} {e o : Expr} {es : List Expr} {ta : TE} {t : TA} {k : Nat} {ps : List Str} {dvs : List V} {sp : Sp}
theorem pe_mk (c : Mak X.prog X.w X.K X.mg X.base x C k ps dvs sp) (hr : Room (k + 1) X.A) (hg : Gl X x) (ha : PA X (e :: es) t) (hdb : (x == ("__debug__" : Str)) = false := by decide)
    (he : starEach (e :: es) X.env = (false, eval e X.env) :: starEach es X.env := by rfl) (hpl : (backTo pos (starEach es X.env)).any (·.1) = false := by rfl) : PE X (.Call (.Name x p) (e :: es) [] pos) (tMake C sp dvs E0 t) := by
  obtain ⟨f, fd, ds, M, F, hm, hb, hd⟩ := c.ex
  exact pe_make M F hr hg hm hb hd pass0 ha hdb he hpl
theorem pe_mk0 (c : Mak X.prog X.w X.K X.mg X.base x C k ps dvs sp) (hr : Room (k + 1) X.A) (hg : Gl X x) (hdb : (x == ("__debug__" : Str)) = false := by decide) : PE X (.Call (.Name x p) [] [] pos) (tMake C sp dvs E0 tNil) := by
  obtain ⟨f, fd, ds, M, F, hm, hb, hd⟩ := c.ex
  exact pe_make0 M F hr hg hm hb hd pass0 hdb
theorem pe_met {pl : Sem Bool} (he : PE X o ta) (c : Met X.prog X.w X.K X.mg X.base m C k ps dvs sp) (hr : Room k X.A) (ha : PA X (e :: es) t)
    (hst : starEach (e :: es) X.env = (false, eval e X.env) :: starEach es X.env := by rfl) (hpl : (backTo pos (starEach es X.env)).any (·.1) = false := by rfl)
    (ht : eval (.Call (.Attribute o m apos) (e :: es) [] pos) X.env = (do
      let ov ← eval o X.env
      standAt apos.atName
      let (f, first) ← holding [ov] (getMethod ov m pl)
      callWith pos f first (backTo pos (starEach (e :: es) X.env)) (backToKw pos (keywordEach [] X.env))) := by rfl) :
    PE X (.Call (.Attribute o m apos) (e :: es) [] pos) (tMeth C m sp dvs E0 ta t) := by
  obtain ⟨f, fd, ds, c, hm, F, hb, hd⟩ := c.ex
  exact pe_meth he c hm F hr hb hd pass0 ha hst hpl ht
theorem pe_met0 {pl : Sem Bool} (he : PE X o ta) (c : Met X.prog X.w X.K X.mg X.base m C k ps dvs sp) (hr : Room k X.A)
    (ht : eval (.Call (.Attribute o m apos) [] [] pos) X.env = (do
      let ov ← eval o X.env
      standAt apos.atName
      let (f, first) ← holding [ov] (getMethod ov m pl)
      callWith pos f first (backTo pos (starEach [] X.env)) (backToKw pos (keywordEach [] X.env))) := by rfl) :
    PE X (.Call (.Attribute o m apos) [] [] pos) (tMeth C m sp dvs E0 ta tNil) := by
  obtain ⟨f, fd, ds, c, hm, F, hb, hd⟩ := c.ex
  exact pe_meth0 he c hm F hr hb hd pass0 ht
end
/-- a class made with keywords -/
structure MakK (P : Program) (w : World) (K : PySem.W.Frag) (mg : Str → Option Value) (base : Heap) (x : Str) (C : Addr) (k : Nat) (ps : List Str) (n : Nat) (ks : List Str) (gV : List V → List V → List V) (sp : Sp) : Prop where
  ex : ∃ (f : Addr) (fd : FuncData) (g : List Value → List Value → List Value), Mk K C f ∧ FnOk P w K mg base CX0 k f fd ps sp ∧ mg x = some (.ref C) ∧ KBn K fd ps (n + 1) ks g gV
section
variable {X : Cx} {x : Str} {C : Addr} {p pos : Pos} {e : Expr} {es : List Expr} {kws : List Keyword} {t tk : TA} {k n : Nat} {ps ks : List Str} {gV : List V → List V → List V} {sp : Sp}
theorem pe_mkK (c : MakK X.prog X.w X.K X.mg X.base x C k ps n ks gV sp) (hr : Room (k + 1) X.A) (hg : Gl X x) (ha : PA X (e :: es) t) (hkw : PK X kws tk)
    (hall : (backToKw pos (keywordEach kws X.env)).all (·.1.isSome) = true := by rfl) (hks : (backToKw pos (keywordEach kws X.env)).filterMap (·.1) = ks := by rfl) (hdb : (x == ("__debug__" : Str)) = false := by decide)
    (he : starEach (e :: es) X.env = (false, eval e X.env) :: starEach es X.env := by rfl) (hpl : ((backTo pos (starEach (e :: es) X.env)).any (·.1) || (backToKw pos (keywordEach kws X.env)).any (·.1.isNone)) = false := by rfl) :
    PE X (.Call (.Name x p) (e :: es) kws pos) (tMakeK C n ks.length sp gV E0 t tk) := by
  obtain ⟨f, fd, g, M, F, hm, hb⟩ := c.ex
  exact pe_makeK M F hr hg hm hb pass0 ha hkw hall hks hdb he hpl
theorem pe_mkK0 (c : MakK X.prog X.w X.K X.mg X.base x C k ps 0 ks gV sp) (hr : Room (k + 1) X.A) (hg : Gl X x) (hkw : PK X kws tk)
    (hall : (backToKw pos (keywordEach kws X.env)).all (·.1.isSome) = true := by rfl) (hks : (backToKw pos (keywordEach kws X.env)).filterMap (·.1) = ks := by rfl) (hdb : (x == ("__debug__" : Str)) = false := by decide)
    (hpl : ((backTo pos (starEach [] X.env)).any (·.1) || (backToKw pos (keywordEach kws X.env)).any (·.1.isNone)) = false := by rfl) :
    PE X (.Call (.Name x p) [] kws pos) (tMakeK C 0 ks.length sp gV E0 tNil tk) := by
  obtain ⟨f, fd, g, M, F, hm, hb⟩ := c.ex
  exact pe_makeK0 M F hr hg hm hb pass0 hkw hall hks hdb hpl
end
theorem Vals.dt {vs : List V} {us : List Value} (r : Vals vs us) (j : Nat) : Vals ((vs.drop j).take 1) ((us.drop j).take 1) := by
  induction r generalizing j with
  | nil => simp; exact .nil
  | cons h r ih =>
    cases j with
    | zero => exact .cons h .nil
    | succ j => exact ih j
theorem kps_fld {X : Cx} {K : PySem.W.Frag} {o value : Expr} {f : Str} {pos pos' : Pos} {ta tv : TE} (h : X.K = K) (ha : PE X o ta) (hv : PE X value tv) (hs : swapsWith value (some (.Attribute o f pos')) pos.line X.env = pure false) : PS X (.Assign [.Attribute o f pos'] value pos) (sFld K ta tv f) := h ▸ ps_fld ha hv hs
/-! steps -/
def MakeQ (C : Addr) (sp : Sp) (E : XK) (Q : VK) (vs : List V) (H1 : Hp) : Prop := ∀ x dx, H1 x = none → H1 dx = none → dx ≠ x → sp (.ref x :: vs) (upd (upd H1 dx (.own x)) x (.ins C dx [])) (fun v H2 => v = .non ∧ Q (.ref x) H2) E
def SfQ (K : PySem.W.Frag) (f : Str) (G : Ends) (σ : L2.St) (x y : V) (H2 : Hp) : Prop := ∃ a C dx fs, x = .ref a ∧ H2 a = some (.ins C dx fs) ∧ Cls K C ∧ NoAttr K C f ∧ fs.length < 1000 ∧ G.nx σ (upd H2 a (.ins C dx (putF f y fs)))
def MethQ (C : Addr) (m : Str) (x : V) (H : Hp) (A : Prop) : Prop := ∃ a dx fs, x = .ref a ∧ H a = some (.ins C dx fs) ∧ fs.lookup m = none ∧ A
theorem putF_new {f : Str} {v : V} : ∀ {fs : List (Str × V)}, f ∉ fs.map (·.1) → putF f v fs = fs ++ [(f, v)]
  | [], _ => rfl
  | (g, x) :: r, h => by
    have h1 : ¬ g = f := fun e => h (by rw [e]; exact List.mem_cons_self)
    have h2 : f ∉ r.map (·.1) := fun e => h (List.mem_cons_of_mem _ e)
    show (if g = f then _ else (g, x) :: putF f v r) = _
    rw [if_neg h1, putF_new h2]
    rfl
section
variable {K : PySem.W.Frag} {σ : L2.St} {I H : Hp} {M : List (Addr × HO)} {Q : VK} {G : Ends} {ta tv : TE} {tA : TA} {C : Addr} {sp : Sp} {dvs vs : List V} {E : XK} {m f : Str} {v x y : V} {fs : List (Str × D)} {L : List Str}
theorem s_make (h : tA σ H fun vs H1 => MakeQ C sp E Q (vs ++ dvs) H1) : tMake C sp dvs E tA σ H Q := h
theorem s_makeW (w : W I H M) (q : ∀ x dx H', I x = none → W I H' ((x, .ins C dx []) :: M) → sp (.ref x :: vs) H' (fun v H2 => v = .non ∧ Q (.ref x) H2) E) : MakeQ C sp E Q vs H := fun x dx hx hd ne => by
  have w1 : W I (upd H dx (.own x)) M := w.more (same_new hd)
  have hx1 : upd H dx (.own x) x = none := by rw [upd_ne ne.symm]; exact hx
  exact q x dx _ (w.fresh hx) (w1.newM hx1)
def MakeKQ (C : Addr) (sp : Sp) (gV : List V → List V → List V) (E : XK) (Q : VK) (vs zs : List V) (H2 : Hp) : Prop := ∀ x dx, H2 x = none → H2 dx = none → dx ≠ x → sp (gV (.ref x :: vs) zs) (upd (upd H2 dx (.own x)) x (.ins C dx [])) (fun v H3 => v = .non ∧ Q (.ref x) H3) E
theorem s_makeK {gV : List V → List V → List V} {n m : Nat} {tK : TA} (h : tA σ H fun vs H1 => tK σ H1 fun zs H2 => vs.length = n ∧ zs.length = m ∧ MakeKQ C sp gV E Q vs zs H2) : tMakeK C n m sp gV E tA tK σ H Q := h
theorem s_mkKQ {gV : List V → List V → List V} {zs us : List V} (hg : ∀ x, gV (x :: vs) zs = x :: us) (h : MakeQ C sp E Q us H) : MakeKQ C sp gV E Q vs zs H := fun x dx a b c => by rw [hg]; exact h x dx a b c
theorem s_makeW2 {m0 : Addr × HO} (w : W I H (m0 :: M)) (q : ∀ x dx H', I x = none → W I H' ((x, .ins C dx []) :: m0 :: M) → sp (.ref x :: vs) H' (fun v H2 => v = .non ∧ Q (.ref x) H2) E) : MakeQ C sp E Q vs H := s_makeW w q
theorem s_sfld (h : tv σ H fun y H1 => ta σ H1 fun x H2 => SfQ K f G σ x y H2) : sFld K ta tv f G σ H := h
theorem s_sfW {a dx : Addr} {gs : List (Str × V)} (w : W I H ((a, .ins C dx gs) :: M)) (hc : Cls K C) (hn : ∀ f ∈ L, NoAttr K C f) (hf : f ∈ L) (hg : gs.length < 1000) (q : ∀ H', W I H' ((a, .ins C dx (putF f y gs)) :: M) → G.nx σ H') : SfQ K f G σ (.ref a) y H :=
  ⟨a, C, dx, gs, rfl, w.at0, hc, hn f hf, hg, q _ w.put0⟩
theorem s_meth (h : ta σ H fun x H1 => MethQ C m x H1 (tA σ H1 fun vs H2 => sp (x :: (vs ++ dvs)) H2 Q E)) : tMeth C m sp dvs E ta tA σ H Q := h
theorem s_methAt {A : Prop} (w : W I H M) (h : Is I v (.obj C fs)) (hm : m ∉ fs.map (·.1)) (q : A) : MethQ C m v H A := by
  obtain ⟨p, dx, vs, rfl, hp, a⟩ := h.obj_ex
  refine ⟨p, dx, vs, rfl, w.imm _ _ hp, a.no ?_, q⟩
  cases e : fs.lookup m with
  | none => rfl
  | some d =>
    exfalso
    apply hm
    clear a hp h
    induction fs with
    | nil => cases e
    | cons g r ih =>
      rw [List.lookup_cons] at e
      cases hc : m == g.1 with
      | true => rw [beq_iff_eq.mp hc]; exact List.mem_cons_self
      | false => rw [hc] at e; exact List.mem_cons_of_mem _ (ih (fun q => hm (List.mem_cons_of_mem _ q)) e)
theorem s_fldA {d : D} (w : W I H M) (h : Is I v (.obj C fs)) (hc : Cls K C) (hn : ∀ f ∈ L, NoAttr K C f) (hf : f ∈ L) (hd : fs.lookup f = some d) (q : ∀ u, Is I u d → Q u H) :
    ∃ a C dx fs u, v = .ref a ∧ H a = some (.ins C dx fs) ∧ Cls K C ∧ NoAttr K C f ∧ fs.lookup f = some u ∧ Q u H := s_fldAt w h hc (hn f hf) hd q
def FldQ (K : PySem.W.Frag) (f : Str) (Q : VK) (x : V) (H1 : Hp) : Prop := tFld K (fun _ H Q => Q x H) f [] H1 Q
theorem s_fldQ (h : ta σ H fun x H1 => FldQ K f Q x H1) : tFld K ta f σ H Q := h
theorem s_fldI {d : D} (w : W I H M) (h : Is I v (.obj C fs)) (hc : Cls K C) (hn : ∀ f ∈ L, NoAttr K C f) (hf : f ∈ L) (hd : fs.lookup f = some d) (q : ∀ u, Is I u d → Q u H) : FldQ K f Q v H := s_fldA w h hc hn hf hd q
theorem Is.tyo (o : OwnC K C) (w : W I H M) (h : Is I v (.obj C fs)) : TyX K H v (.ref C) := by
  obtain ⟨p, dx, vs, rfl, hp, a⟩ := h.obj_ex
  exact .base (.ins (w.imm _ _ hp) o.cl o.ha o.hn o.htk o.hm)
theorem s_isiO {b : String} {k : Bool} (o : OwnC K C) (w : W I H M) (h : Is I v (.obj C fs)) (hb : PySem.W.kitOne K (.ref C) (.type b) = some k) (q : Q (.bl k) H) : rIsiU K [v, .ty b] H Q :=
  .inl ⟨v, .ty b, .ref C, .type b, k, rfl, .ty b, h.tyo o w, hb, q⟩
theorem s_isiC {a : String} {d : D} {k : Bool} (w : W I H M) (h : Is I v d) (e : d.tn = some a) (hb : PySem.W.kitOne K (.type a) (.ref C) = some k) (q : Q (.bl k) H) : rIsiU K [v, .ref C] H Q :=
  .inl ⟨v, .ref C, .type a, .ref C, k, rfl, .own C, h.tyx w e, hb, q⟩
theorem s_isiOC {C' : Addr} {k : Bool} (o : OwnC K C) (w : W I H M) (h : Is I v (.obj C fs)) (hb : PySem.W.kitOne K (.ref C) (.ref C') = some k) (q : Q (.bl k) H) : rIsiU K [v, .ref C'] H Q :=
  .inl ⟨v, .ref C', .ref C, .ref C', k, rfl, .own C', h.tyo o w, hb, q⟩
end
theorem s_intN {n : Int} {A B : Prop} (h : B) : if decide (V.int n = V.non) = true then A else B := s_iteDn (fun q => nomatch q) h
theorem s_refN {n : Addr} {A B : Prop} (h : B) : if decide (V.ref n = V.non) = true then A else B := s_iteDn (fun q => nomatch q) h
theorem s_nonN {A B : Prop} (h : A) : if decide (V.non = V.non) = true then A else B := s_iteDp rfl h
/-- an own class is no built-in one -/
structure KitC (K : PySem.W.Frag) (C : Addr) : Prop where
  i : PySem.W.kitOne K (.ref C) (.type "int") = some false
  b : PySem.W.kitOne K (.ref C) (.type "bool") = some false
  t : PySem.W.kitOne K (.ref C) (.type "tuple") = some false
  l : PySem.W.kitOne K (.ref C) (.type "list") = some false
  s : PySem.W.kitOne K (.ref C) (.type "str") = some false
  d : PySem.W.kitOne K (.ref C) (.type "dict") = some false
theorem kit_mro {K : PySem.W.Frag} {C : Addr} {b : String} {r : Bool} (hk : PySem.W.kitMeta b = true) (hm : PySem.W.mroIn K C (.type b) = some r) : PySem.W.kitOne K (.ref C) (.type b) = some r := by
  have e : ¬ (Value.ref C == Value.type b) = true := fun h => by cases (beq_iff_eq.mp h)
  show (if (Value.ref C == Value.type b) = true then some true else PySem.W.kitCls K (.ref C) (.type b)) = some r
  rw [if_neg e]
  show (if PySem.W.kitMeta b = true then PySem.W.subIn K (.ref C) (.type b) else none) = some r
  rw [if_pos hk]
  exact hm
/-- of a known kind, or an instance that is no int -/
def TyK (K : PySem.W.Frag) (d : D) : Prop := Ty d ∨ ∃ C fs, d = .obj C fs ∧ OwnC K C ∧ PySem.W.kitOne K (.ref C) (.type "int") = some false
theorem TyK.of {K : PySem.W.Frag} {d : D} (h : Ty d) : TyK K d := .inl h
/-- a part -/
abbrev prt (C : Addr) (b l : Int) (g : D) (w s : Int) : D := .obj C [("base", .int b), ("least", .int l), ("greatest", g), ("grow", .int w), ("shrink", .int s)]
end Fs

namespace Fs
open PySem PySem.Spec PyProof.Rows L2
/-! ### texts -/
/-- a text times a number: here only its length is told -/
def rMulS : R2 := fun x y H Q => ∃ (z : Str) (n : Int), x = .str z ∧ y = .int n ∧ 0 ≤ n ∧ n ≤ 1000 ∧ z.length ≤ 1000 ∧ ∀ z' : Str, z'.length ≤ z.length * n.toNat → Q (.str z') H
theorem rep_len (x : Array Nat) : ∀ (n : Nat) (acc : Array Nat), ((List.replicate n x).foldl (· ++ ·) acc).size = acc.size + n * x.size
  | 0, acc => by simp
  | n + 1, acc => by
    rw [List.replicate_succ, List.foldl_cons, rep_len x n, Array.size_append, Nat.add_mul]
    omega
theorem op_mulS {X : Cx} : OpR X (binaryOp .Mult) rMulS := by
  intro pins s σ H x y v u Q I rx ry h
  obtain ⟨z, n, rfl, rfl, h0, h1, h2, q⟩ := h
  obtain ⟨t, rfl⟩ := rx
  obtain ⟨t', rfl⟩ := ry
  have hz : z.length * n.toNat ≤ 1000 * 1000 := Nat.mul_le_mul h2 (by omega)
  refine PySem.P.mul_str (by simp; omega) (fun hn _ => ?_) (fun hn _ => ?_) ?_
  · have : (1000 : Int) ≤ (2 ^ 63 - 1) / n := by
      refine Int.le_ediv_of_mul_le (by omega) ?_
      have : 1000 * n ≤ 1000 * 1000 := Int.mul_le_mul_of_nonneg_left h1 (by decide)
      omega
    have h3 : (z.length : Int) ≤ 1000 := by omega
    omega
  · exact decide_eq_false (by
      have : (1000 * 1000 : Nat) ≤ sizeLine := by decide
      omega)
  · by_cases hn : n < 1
    · rw [if_pos hn]
      exact ⟨by decide, .str Str.empty, H, I.tok _, ⟨_, rfl⟩, q _ (Nat.zero_le _)⟩
    · rw [if_neg hn]
      by_cases hc : (n == 1 || z.length == 0) = true
      · rw [if_pos hc]
        refine ⟨.str z, H, I, ⟨_, rfl⟩, q _ ?_⟩
        have : 1 ≤ n.toNat := by omega
        exact Nat.le_mul_of_pos_right _ this
      · rw [if_neg hc]
        have e : Str.length ⟨(List.replicate n.toNat z.cps).foldl (· ++ ·) #[]⟩ = n.toNat * z.length := by
          have := rep_len z.cps n.toNat #[]
          show Array.size _ = _
          rw [this]
          simp [Str.length]
        have : (1000 * 1000 : Nat) ≤ sizeLine := by decide
        rw [Nat.mul_comm] at hz
        exact ⟨by rw [e]; omega, .str _, H, I.tok _, ⟨_, rfl⟩, q _ (by rw [e, Nat.mul_comm]; exact Nat.le_refl _)⟩
section
variable {K : PySem.W.Frag} {X : Cx} {σ : L2.St} {I H : Hp} {M : List (Addr × HO)} {Q : VK} {G : Ends} {z y : Str} {n : Int} {te : TE} {g : TG} {tb : TS}
theorem small_line {n : Nat} (h : n ≤ 100000) : n ≤ sizeLine := Nat.le_trans h (by decide)
theorem s_mulS (h0 : 0 ≤ n) (h1 : n ≤ 1000) (h2 : z.length ≤ 1000) (q : ∀ z' : Str, z'.length ≤ z.length * n.toNat → Q (.str z') H) : rMulS (.str z) (.int n) H Q := ⟨z, n, rfl, rfl, h0, h1, h2, q⟩
theorem s_lenS (hz : z.length ≤ 100000) (q : Q (.int z.length) H) : rLenU K [.str z] H Q := .inr ⟨z, rfl, small_line hz, q⟩
theorem s_addT (hz : z.length + y.length ≤ 100000) (q : Q (.str (z ++ y)) H) : rAddU K (.str z) (.str y) H Q := .inr (.inl ⟨z, y, rfl, rfl, small_line hz, q⟩)
theorem s_ixS (h0 : 0 ≤ n) (h1 : n < z.length) (hz : z.length ≤ 100000) (q : ∀ c, Q (.str ⟨#[c]⟩) H) : rIx K (.str z) (.int n) H Q := by
  obtain ⟨c, _, e⟩ := at_nat (l := z.cps.toList) h0 (by rw [Array.length_toList]; exact h1)
  exact .inr (.inr ⟨z, n, c, rfl, rfl, small_line hz, e, q c⟩)
theorem cut_len {lo hi : Option Int} : (cutS z lo hi).length ≤ z.length := by
  show Array.size _ ≤ Array.size _
  simp only [cutS, List.size_toArray, List.length_take, List.length_drop, Array.length_toList]
  omega
theorem s_cutS {lo hi : Option Int} (hz : z.length ≤ 100000) (q : ∀ z' : Str, z'.length ≤ z.length → Q (.str z') H) : rSlS (.str z) lo hi H Q := ⟨z, rfl, small_line hz, q _ cut_len⟩
theorem s_ltS (q : Q (.bl (decide (z.cps.toList < y.cps.toList))) H) : (fun x y H Q => ∃ i j, x = V.str i ∧ y = V.str j ∧ Q (V.bl (decide (i.cps.toList < j.cps.toList))) H : R2) (.str z) (.str y) H Q := ⟨z, y, rfl, rfl, q⟩
def rLtS : R2 := fun x y H Q => ∃ i j, x = V.str i ∧ y = V.str j ∧ Q (.bl (decide (i.cps.toList < j.cps.toList))) H
def rGtS : R2 := fun x y H Q => ∃ i j, x = V.str i ∧ y = V.str j ∧ Q (.bl (decide (j.cps.toList < i.cps.toList))) H
def rNiS : R2 := fun x y H Q => ∃ (c : Nat) (z : Str), x = .str ⟨#[c]⟩ ∧ y = .str z ∧ Q (.bl (!decide (c ∈ z.cps.toList))) H
theorem u_ltS : OpR X (compareOp .Lt) rLtS := op_lt_str
theorem u_gtS : OpR X (compareOp .Gt) rGtS := op_gt_str
theorem u_niS : OpR X (compareOp .NotIn) rNiS := op_notIn_sign
theorem s_lts (q : Q (.bl (decide (z.cps.toList < y.cps.toList))) H) : rLtS (.str z) (.str y) H Q := ⟨z, y, rfl, rfl, q⟩
theorem s_gts (q : Q (.bl (decide (y.cps.toList < z.cps.toList))) H) : rGtS (.str z) (.str y) H Q := ⟨z, y, rfl, rfl, q⟩
theorem s_nis {c : Nat} (q : Q (.bl (!decide (c ∈ z.cps.toList))) H) : rNiS (.str ⟨#[c]⟩) (.str z) H Q := ⟨c, z, rfl, rfl, q⟩
/-- sep.join(list) : only the length is told -/
def rJoin (K : PySem.W.Frag) : V → List V → Hp → VK → Prop := fun x xs H Q => ∃ a p, ∃ ys : List Str, x = .str a ∧ xs = [.ref p] ∧ (SqL K H p (ys.map V.str) ∨ SqT K H p (ys.map V.str)) ∧
    (ys.map (·.length)).sum + ys.length * a.length ≤ 16777216 ∧ Q (.str (Txt.join a ys)) H
theorem k_join {o e : Expr} {to te : TE} {apos pos : Pos} (h : X.K = K) (ho : PE X o to) (he : PE X e te) (hs : starEach [e] X.env = [(false, eval e X.env)] := by rfl) (hbase : attributeBase o "join" X.env (eval o X.env) = eval o X.env := by rfl) (hline : (apos.endLine == pos.line) = true := by rfl) :
    PE X (.Call (.Attribute o "join" apos) [e] [] pos) (tM1 (rJoin K) to te) := h ▸ pe_join ho he hs hbase hline
theorem s_m1 {r : V → List V → Hp → VK → Prop} {to : TE} (h : to σ H fun x H1 => (∃ a, x = .str a) ∧ te σ H1 fun y H2 => r x [y] H2 Q) : tM1 r to te σ H Q := h
/-- for c in text -/
theorem s_iS {R : It → Hp → Prop} (h : te σ H fun v H1 => ∃ x, v = .str x ∧ R (Its x) H1) : iStr te σ H R := h
theorem s_forS (Pv : Nat → L2.St → Hp → Prop) (h0 : Pv 0 σ H)
    (hs : ∀ i c σ H, z.cps.toList[i]? = some c → Pv i σ H → g (.str ⟨#[c]⟩) σ H fun σ2 H2 => tb { G with nx := Pv (i + 1), ct := Pv (i + 1), bk := G.nx } σ2 H2) (hd : ∀ σ H, Pv z.length σ H → G.nx σ H) :
    ∃ x, V.str z = .str x ∧ ∃ W : Nat → Nat → L2.St → Hp → Prop, (∃ m, W 0 m σ H) ∧ ∀ i m σ H, W i m σ H →
      ((Its x).stop i H ∧ G.nx σ H) ∨ ((Its x).go i H ∧ ∃ N : L2.St → Hp → Prop, (∀ σ' H', N σ' H' → ∃ m', m' < m ∧ W (i + 1) m' σ' H') ∧ ∀ v H', (Its x).yld i H v H' → g v σ H' fun σ2 H2 => tb { G with nx := N, ct := N, bk := G.nx } σ2 H2) := by
  refine ⟨z, rfl, ?_⟩
  refine for_it walk_str Pv h0 (fun i σ H _ q => trivial) (fun i x σ H H' hi q y => ?_) (fun σ H q => hd σ H q)
  obtain ⟨rfl, c, e, rfl⟩ := y
  exact hs i c σ _ (by rw [Array.getElem?_toList]; exact e) q
end
end Fs

namespace Fs
open PySem PySem.Spec PyProof.Rows L2
/-! ### what is known, as a list of facts; what may be changed, by what it holds -/
inductive ME where
  | raw (p : Addr) (o : HO)
  | ml (p : Addr) (ds : List D)
  | mi (p C : Addr) (fs : List (Str × D))
  | bag (b : Addr)
  | dk (p : Addr) (kvs : List (Key × D))
  | dt (p : Addr) (kvs : List (List Key × D))
  /-- a cell that is shown; a table of code objects, all of one name -/
  | cel (c : Addr) (v : V)
  | tb (p : Addr) (q : Str)
/-- pairs with the same keys -/
inductive IsP (I : Hp) {κ : Type} : List (κ × V) → List (κ × D) → Prop
  | nil : IsP I [] []
  | cons {f : κ} {v : V} {d : D} {vs : List (κ × V)} {ds : List (κ × D)} : Is I v d → IsP I vs ds → IsP I ((f, v) :: vs) ((f, d) :: ds)
theorem IsP.mono {I J : Hp} {κ : Type} (s : Same I J) : ∀ {vs : List (κ × V)} {ds : List (κ × D)}, IsP I vs ds → IsP J vs ds
  | _, _, .nil => .nil
  | _, _, .cons h a => .cons (h.mono s) (IsP.mono s a)
def topO : HO := .ext fun _ => True
def CelO (o : Obj) (v : V) : Prop := ∃ u, o.data = .cell (some u) ∧ RelV v u
inductive Cn (I : Hp) : ME → Addr × HO → Prop
  | raw {p : Addr} {o : HO} (hn : ∀ vs, o ≠ .tup vs) : Cn I (.raw p o) (p, o)
  | ml {p : Addr} {vs : List V} {ds : List D} : IsA I vs ds → Cn I (.ml p ds) (p, .lst vs)
  | mi {p C dx : Addr} {vs : List (Str × V)} {fs : List (Str × D)} : IsF I vs fs → Cn I (.mi p C fs) (p, .ins C dx vs)
  | bag {b c : Addr} {o : HO} : Bag I c o → Cn I (.bag b) (b, o)
  | dk {p : Addr} {vs : List (Key × V)} {ds : List (Key × D)} : IsP I vs ds → Cn I (.dk p ds) (p, .dK vs)
  | dt {p : Addr} {vs : List (List Key × V)} {ds : List (List Key × D)} : IsP I vs ds → Cn I (.dt p ds) (p, .dT vs)
  | cel {c : Addr} {v : V} {o : Obj} : CelO o v → Cn I (.cel c v) (c, .frz o topO)
  | tb {p : Addr} {q : Str} {ps : Array Value} : TriplesOk ps.toList → (∀ (pos : Pos) (cv : Value), codeAmong pos ps.toList = some cv → ∃ c, cv = .ref c ∧ I c = some (LamX.CodeO c q)) → Cn I (.tb p q) (p, .tbl ps)
theorem Cn.mono {I J : Hp} {e : ME} {m : Addr × HO} (s : Same I J) (h : Cn I e m) : Cn J e m := by
  cases h with
  | raw hn => exact .raw hn
  | ml a => exact .ml (a.mono s)
  | mi a => exact .mi (a.mono s)
  | bag b => exact .bag (b.mono s)
  | dk b => exact .dk (b.mono s)
  | dt b => exact .dt (b.mono s)
  | cel b => exact .cel b
  | tb a b => exact .tb a fun pos cv e => let ⟨c, h1, h2⟩ := b pos cv e; ⟨c, h1, s _ _ h2⟩
inductive CnA (I : Hp) : List ME → List (Addr × HO) → Prop
  | nil : CnA I [] []
  | cons {e : ME} {m : Addr × HO} {M : List ME} {Mc : List (Addr × HO)} : Cn I e m → CnA I M Mc → CnA I (e :: M) (m :: Mc)
theorem CnA.mono {I J : Hp} (s : Same I J) : ∀ {M : List ME} {Mc : List (Addr × HO)}, CnA I M Mc → CnA J M Mc
  | _, _, .nil => .nil
  | _, _, .cons h a => .cons (h.mono s) (CnA.mono s a)
structure Wf (F : List (V × D)) (H : Hp) (M : List ME) : Prop where
  ex : ∃ I Mc, W I H Mc ∧ CnA I M Mc ∧ ∀ f ∈ F, Is I f.1 f.2
/-- one is changed -/
inductive Foc : List ME → ME → List ME → ME → Prop
  | here {e e' : ME} {M : List ME} : Foc (e :: M) e (e' :: M) e'
  | there {e e' m : ME} {M M' : List ME} : Foc M e M' e' → Foc (m :: M) e (m :: M') e'
/-- one is taken out -/
inductive Rem : List ME → ME → List ME → Prop
  | here {e : ME} {M : List ME} : Rem (e :: M) e M
  | there {e m : ME} {M M' : List ME} : Rem M e M' → Rem (m :: M) e (m :: M')
section
variable {I H : Hp} {M M' : List ME} {Mc : List (Addr × HO)} {e e' : ME}
theorem CnA.foc (a : CnA I M Mc) (f : Foc M e M' e') : ∃ M1 m M2, Mc = M1 ++ m :: M2 ∧ Cn I e m ∧ ∀ J m', Same I J → Cn J e' m' → CnA J M' (M1 ++ m' :: M2) := by
  induction f generalizing Mc with
  | here =>
    cases a with
    | cons h a => exact ⟨[], _, _, rfl, h, fun J m' s h' => .cons h' (a.mono s)⟩
  | there f ih =>
    cases a with
    | cons h a =>
      obtain ⟨M1, m, M2, rfl, h1, h2⟩ := ih a
      exact ⟨_ :: M1, m, M2, rfl, h1, fun J m' s h' => .cons (h.mono s) (h2 J m' s h')⟩
theorem CnA.rem (a : CnA I M Mc) (f : Rem M e M') : ∃ M1 m M2, Mc = M1 ++ m :: M2 ∧ Cn I e m ∧ CnA I M' (M1 ++ M2) := by
  induction f generalizing Mc with
  | here =>
    cases a with
    | cons h a => exact ⟨[], _, _, rfl, h, a⟩
  | there f ih =>
    cases a with
    | cons h a =>
      obtain ⟨M1, m, M2, rfl, h1, h2⟩ := ih a
      exact ⟨_ :: M1, m, M2, rfl, h1, .cons h h2⟩
theorem CnA.mem (a : CnA I M Mc) (h : e ∈ M) : ∃ m, m ∈ Mc ∧ Cn I e m := by
  induction a with
  | nil => cases h
  | cons h1 a ih =>
    rcases List.mem_cons.mp h with rfl | h
    · exact ⟨_, List.mem_cons_self, h1⟩
    · obtain ⟨m, q1, q2⟩ := ih h
      exact ⟨m, List.mem_cons_of_mem _ q1, q2⟩
theorem CnA.sub (a : CnA I M Mc) (s : List.Sublist M' M) : ∃ Mc', List.Sublist Mc' Mc ∧ CnA I M' Mc' := by
  induction s generalizing Mc with
  | slnil => cases a; exact ⟨[], .slnil, .nil⟩
  | cons _ s ih =>
    cases a with
    | cons h a =>
      obtain ⟨Mc', h1, h2⟩ := ih a
      exact ⟨Mc', .cons _ h1, h2⟩
  | cons_cons _ s ih =>
    cases a with
    | cons h a =>
      obtain ⟨Mc', h1, h2⟩ := ih a
      exact ⟨_ :: Mc', .cons_cons _ h1, .cons h h2⟩
theorem CnA.perm {M' : List ME} (p : List.Perm M M') : ∀ {Mc : List (Addr × HO)}, CnA I M Mc → ∃ Mc', List.Perm Mc Mc' ∧ CnA I M' Mc' := by
  induction p with
  | nil => intro Mc a; exact ⟨Mc, .refl _, a⟩
  | cons x p ih =>
    intro Mc a
    cases a with
    | cons h a =>
      obtain ⟨Mc', h1, h2⟩ := ih a
      exact ⟨_ :: Mc', .cons _ h1, .cons h h2⟩
  | swap x y l =>
    intro Mc a
    cases a with
    | cons h a =>
      cases a with
      | cons h' a => exact ⟨_, .swap _ _ _, .cons h' (.cons h a)⟩
  | trans p q ih1 ih2 =>
    intro Mc a
    obtain ⟨M1, h1, a1⟩ := ih1 a
    obtain ⟨M2, h2, a2⟩ := ih2 a1
    exact ⟨M2, h1.trans h2, a2⟩
theorem W.subl {Mc' : List (Addr × HO)} (w : W I H Mc) (s : List.Sublist Mc' Mc) : W I H Mc' := ⟨w.imm, fun x hx => w.mu x (s.subset hx), w.nd.sublist (s.map _)⟩
theorem W.perm {Mc' : List (Addr × HO)} (w : W I H Mc) (s : List.Perm Mc Mc') : W I H Mc' := ⟨w.imm, fun x hx => w.mu x (s.mem_iff.mpr hx), (s.map _).nodup_iff.mp w.nd⟩
end
/-- known -/
inductive Rk (F : List (V × D)) (M : List ME) : V → D → Prop
  | mem {v : V} {d : D} : (v, d) ∈ F → Rk F M v d
  | int (n : Int) : Rk F M (.int n) (.int n)
  | bl (n : Bool) : Rk F M (.bl n) (.bl n)
  | str (n : Str) : Rk F M (.str n) (.str n)
  | non : Rk F M .non .non
  | ml {p : Addr} {ds : List D} : .ml p ds ∈ M → Rk F M (.ref p) (.lst ds)
  | mi {p C : Addr} {fs : List (Str × D)} : .mi p C fs ∈ M → Rk F M (.ref p) (.obj C fs)
/-- known for good -/
inductive Kn (F : List (V × D)) : V → D → Prop
  | mem {v : V} {d : D} : (v, d) ∈ F → Kn F v d
  | int (n : Int) : Kn F (.int n) (.int n)
  | bl (n : Bool) : Kn F (.bl n) (.bl n)
  | str (n : Str) : Kn F (.str n) (.str n)
  | non : Kn F .non .non
  | ty (n : String) : Kn F (.ty n) (.ty n)
  | ref (a : Addr) : Kn F (.ref a) (.ref a)
inductive KnA (F : List (V × D)) : List V → List D → Prop
  | nil : KnA F [] []
  | cons {v : V} {d : D} {vs : List V} {ds : List D} : Kn F v d → KnA F vs ds → KnA F (v :: vs) (d :: ds)
/-- all facts of F' are among F's -/
def KS (F' F : List (V × D)) : Prop := ∀ f ∈ F', Kn F f.1 f.2
theorem KS.nil {F : List (V × D)} : KS [] F := fun _ h => nomatch h
theorem KS.refl {F : List (V × D)} : KS F F := fun _ h => .mem h
theorem KS.cons {F F' : List (V × D)} {v : V} {d : D} (h : Kn F v d) (r : KS F' F) : KS ((v, d) :: F') F := fun f hf => by
  rcases List.mem_cons.mp hf with rfl | hf
  · exact h
  · exact r f hf
theorem Kn.more {F : List (V × D)} {g : V × D} {v : V} {d : D} (h : Kn F v d) : Kn (g :: F) v d := by
  cases h with
  | mem h => exact .mem (List.mem_cons_of_mem _ h)
  | int n => exact .int n
  | bl n => exact .bl n
  | str n => exact .str n
  | non => exact .non
  | ty n => exact .ty n
  | ref a => exact .ref a
theorem KS.drop {F F' : List (V × D)} {g : V × D} (r : KS F' F) : KS F' (g :: F) := fun f hf => (r f hf).more
section
variable {I H H' : Hp} {F F' : List (V × D)} {M M' : List ME} {Mc : List (Addr × HO)} {v x y : V} {d : D} {ds : List D} {vs xs : List V}
theorem Kn.is (hF : ∀ f ∈ F, Is I f.1 f.2) (h : Kn F v d) : Is I v d := by
  cases h with
  | mem h => exact hF _ h
  | int n => exact .int n
  | bl n => exact .bl n
  | str n => exact .str n
  | non => exact .non
  | ty n => exact .ty n
  | ref a => exact .ref a
theorem KnA.is (hF : ∀ f ∈ F, Is I f.1 f.2) : ∀ {vs : List V} {ds : List D}, KnA F vs ds → IsA I vs ds
  | _, _, .nil => .nil
  | _, _, .cons h a => .cons (h.is hF) (KnA.is hF a)
theorem Rk.of (h : Kn F v d) (hd : (∃ n, d = .ref n) ∨ (∃ n, d = .ty n) → False) : Rk F M v d := by
  cases h with
  | mem h => exact .mem h
  | int n => exact .int n
  | bl n => exact .bl n
  | str n => exact .str n
  | non => exact .non
  | ty n => exact (hd (.inr ⟨_, rfl⟩)).elim
  | ref a => exact (hd (.inl ⟨_, rfl⟩)).elim
/-- what is known is there to be read -/
theorem Rk.rd (w : W I H Mc) (a : CnA I M Mc) (hF : ∀ f ∈ F, Is I f.1 f.2) (h : Rk F M v d) : Is H v d := by
  cases h with
  | mem h => exact (hF _ h).mono w.imm
  | int n => exact .int n
  | bl n => exact .bl n
  | str n => exact .str n
  | non => exact .non
  | ml h =>
    obtain ⟨m, h1, h2⟩ := a.mem h
    cases h2 with
    | ml b => exact .lst (w.mu _ h1).1 (b.mono w.imm)
  | mi h =>
    obtain ⟨m, h1, h2⟩ := a.mem h
    cases h2 with
    | mi b => exact .obj (w.mu _ h1).1 (b.mono w.imm)
theorem Rk.lst (w : W I H Mc) (a : CnA I M Mc) (hF : ∀ f ∈ F, Is I f.1 f.2) (h : Rk F M v (.lst ds)) : ∃ p vs, v = .ref p ∧ H p = some (.lst vs) ∧ IsA I vs ds := by
  cases h with
  | mem h =>
    obtain ⟨p, vs, e, h1, h2⟩ := (hF _ h).lst_ex
    exact ⟨p, vs, e, w.imm _ _ h1, h2⟩
  | ml h =>
    obtain ⟨m, h1, h2⟩ := a.mem h
    cases h2 with
    | ml b => exact ⟨_, _, rfl, (w.mu _ h1).1, b⟩
theorem Rk.tup (w : W I H Mc) (a : CnA I M Mc) (hF : ∀ f ∈ F, Is I f.1 f.2) (h : Rk F M v (.tup ds)) : ∃ p vs, v = .ref p ∧ H p = some (.tup vs) ∧ IsA I vs ds := by
  cases h with
  | mem h =>
    obtain ⟨p, vs, e, h1, h2⟩ := (hF _ h).tup_ex
    exact ⟨p, vs, e, w.imm _ _ h1, h2⟩
theorem Rk.obj {C : Addr} {fs : List (Str × D)} (w : W I H Mc) (a : CnA I M Mc) (hF : ∀ f ∈ F, Is I f.1 f.2) (h : Rk F M v (.obj C fs)) : ∃ p dx vs, v = .ref p ∧ H p = some (.ins C dx vs) ∧ IsF I vs fs := by
  cases h with
  | mem h =>
    obtain ⟨p, dx, vs, e, h1, h2⟩ := (hF _ h).obj_ex
    exact ⟨p, dx, vs, e, w.imm _ _ h1, h2⟩
  | mi h =>
    obtain ⟨m, h1, h2⟩ := a.mem h
    cases h2 with
    | mi b => exact ⟨_, _, _, rfl, (w.mu _ h1).1, b⟩
theorem Wf.sub (w : Wf F H M) (k : KS F' F) (s : List.Sublist M' M) : Wf F' H M' := by
  obtain ⟨I, Mc, w, a, hF⟩ := w.ex
  obtain ⟨Mc', h1, h2⟩ := a.sub s
  exact ⟨I, Mc', w.subl h1, h2, fun f hf => (k f hf).is hF⟩
theorem Wf.perm (w : Wf F H M) (s : List.Perm M M') : Wf F H M' := by
  obtain ⟨I, Mc, w, a, hF⟩ := w.ex
  obtain ⟨Mc', h1, h2⟩ := a.perm s
  exact ⟨I, Mc', w.perm h1, h2, hF⟩
theorem Wf.tail {f : V × D} (w : Wf (f :: F) H M) : Wf F H M := w.sub KS.refl.drop (.refl _)
theorem Wf.int_eq {n : Int} (w : Wf F H M) (h : Kn F v (.int n)) : v = .int n := by
  obtain ⟨I, Mc, w, a, hF⟩ := w.ex
  exact (h.is hF).int_eq
theorem Wf.eq0 {n : Int} (w : Wf ((v, .int n) :: F) H M) : v = .int n ∧ Wf F H M := ⟨w.int_eq (.mem List.mem_cons_self), w.tail⟩
theorem Wf.add (w : Wf F H M) (h : Kn F v d) : Wf ((v, d) :: F) H M := w.sub (KS.cons h KS.refl) (.refl _)
theorem Wf.more (w : Wf F H M) (s : Same H H') : Wf F H' M := by
  obtain ⟨I, Mc, w, a, hF⟩ := w.ex
  exact ⟨I, Mc, w.more s, a, hF⟩
/-- for contracts in the elder form -/
theorem Wf.old (w : Wf F H M) : ∃ I Mc, W I H Mc ∧ (∀ v d, Kn F v d → Is I v d) ∧ (∀ J H', Same I J → W J H' Mc → Wf F H' M) ∧ ∀ J H' r d, Same I J → W J H' Mc → Is J r d → Wf ((r, d) :: F) H' M := by
  obtain ⟨I, Mc, w, a, hF⟩ := w.ex
  refine ⟨I, Mc, w, fun v d h => h.is hF, fun J H' s w' => ⟨J, Mc, w', a.mono s, fun f hf => (hF f hf).mono s⟩, fun J H' r d s w' h => ⟨J, Mc, w', a.mono s, fun f hf => ?_⟩⟩
  rcases List.mem_cons.mp hf with rfl | hf
  · exact h
  · exact (hF f hf).mono s
theorem Wf.oldB {b : Addr} (w : Wf F H M) (hb : .bag b ∈ M) : ∃ I Mc c o, W I H ((b, o) :: Mc) ∧ Bag I c o ∧ (∀ v d, Kn F v d → Is I v d) ∧ (∀ J H' o', Same I J → W J H' ((b, o') :: Mc) → Bag J c o' → Wf F H' M) ∧ ∀ J H' o' r d, Same I J → W J H' ((b, o') :: Mc) → Bag J c o' → Is J r d → Wf ((r, d) :: F) H' M := by
  obtain ⟨M1, M2, rfl⟩ := List.append_of_mem hb
  have hp : List.Perm (M1 ++ .bag b :: M2) (.bag b :: (M1 ++ M2)) := List.perm_middle
  obtain ⟨I, Mc, w, a, hF⟩ := (w.perm hp).ex
  cases a with
  | cons h a =>
    cases h with
    | @bag _ c o hb =>
      have z : ∀ J H' o', Same I J → W J H' ((b, o') :: _) → Bag J c o' → ∀ F', (∀ f ∈ F', Is J f.1 f.2) → Wf F' H' (M1 ++ .bag b :: M2) := fun J H' o' s w' hb' F' hF' =>
        Wf.perm (M := .bag b :: (M1 ++ M2)) ⟨J, _, w', .cons (.bag hb') (a.mono s), hF'⟩ hp.symm
      refine ⟨I, _, _, _, w, hb, fun v d h => h.is hF, fun J H' o' s w' hb' => z J H' o' s w' hb' F fun f hf => (hF f hf).mono s, fun J H' o' r d s w' hb' h => z J H' o' s w' hb' _ fun f hf => ?_⟩
      rcases List.mem_cons.mp hf with rfl | hf
      · exact h
      · exact (hF f hf).mono s
end

/-! ### steps -/
section
variable {K : PySem.W.Frag} {σ : L2.St} {H : Hp} {F : List (V × D)} {M M' : List ME} {Q : VK} {G : Ends} {v x y u : V} {vs xs us : List V} {d e : D} {ds es : List D} {p : Addr} {i : Int} {g : TG} {tb : TS} {te : TE} {tt : TT} {sp : Sp} {C : Addr} {E : XK} {f m : Str} {fs : List (Str × D)} {L : List Str}
theorem Wf.put {o' : HO} {e e' : ME} (w : Wf F H M) (f : Foc M e M' e') (h : ∀ I m, (∀ f ∈ F, Is I f.1 f.2) → Cn I e m → m.1 = p ∧ Cn I e' (p, o')) : Wf F (upd H p o') M' := by
  obtain ⟨I, Mc, w, a, hF⟩ := w.ex
  obtain ⟨M1, m, M2, rfl, h1, h2⟩ := a.foc f
  obtain ⟨h3, h4⟩ := h I m hF h1
  obtain ⟨p', o⟩ := m
  cases h3
  exact ⟨I, _, w.put, h2 I _ (Same.refl _) h4, hF⟩
theorem Wf.lstAt (w : Wf F H M) (h : .ml p ds ∈ M) : ∃ vs, H p = some (.lst vs) ∧ vs.length = ds.length := by
  obtain ⟨I, Mc, w, a, hF⟩ := w.ex
  obtain ⟨m, h1, h2⟩ := a.mem h
  cases h2 with
  | ml b => exact ⟨_, (w.mu _ h1).1, b.length⟩
theorem Foc.mem {e e' : ME} (f : Foc M e M' e') : e ∈ M := by
  induction f with
  | here => exact List.mem_cons_self
  | there _ ih => exact List.mem_cons_of_mem _ ih
theorem Rem.mem {e : ME} (f : Rem M e M') : e ∈ M := by
  induction f with
  | here => exact List.mem_cons_self
  | there _ ih => exact List.mem_cons_of_mem _ ih
theorem Wf.frzL (w : Wf F H M) (r : Rem M (.ml p ds) M') : Wf ((.ref p, .lst ds) :: F) H M' := by
  obtain ⟨I, Mc, w, a, hF⟩ := w.ex
  obtain ⟨M1, m, M2, rfl, h1, h2⟩ := a.rem r
  cases h1 with
  | ml b =>
    refine ⟨_, _, w.frz, h2.mono w.frzS, fun f hf => ?_⟩
    rcases List.mem_cons.mp hf with rfl | hf
    · exact .lst upd_same (b.mono w.frzS)
    · exact (hF f hf).mono w.frzS
theorem Wf.frzI (w : Wf F H M) (r : Rem M (.mi p C fs) M') : Wf ((.ref p, .obj C fs) :: F) H M' := by
  obtain ⟨I, Mc, w, a, hF⟩ := w.ex
  obtain ⟨M1, m, M2, rfl, h1, h2⟩ := a.rem r
  cases h1 with
  | mi b =>
    refine ⟨_, _, w.frz, h2.mono w.frzS, fun f hf => ?_⟩
    rcases List.mem_cons.mp hf with rfl | hf
    · exact .obj upd_same (b.mono w.frzS)
    · exact (hF f hf).mono w.frzS
-- subscripts
theorem n_ixT (w : Wf F H M) (h : Rk F M v (.tup ds)) (hd : atI ds i = some d) (q : ∀ u, Wf ((u, d) :: F) H M → Q u H) : rIx K v (.int i) H Q := by
  obtain ⟨I, Mc, w, a, hF⟩ := w.ex
  obtain ⟨p, vs, rfl, hp, b⟩ := h.tup w a hF
  obtain ⟨u, e, hu⟩ := atI_isa b hd
  exact .inr (.inl ⟨p, vs, i, u, rfl, rfl, .inl (.inl hp), e, q u ⟨I, Mc, w, a, fun f hf => by
    rcases List.mem_cons.mp hf with rfl | hf
    · exact hu
    · exact hF f hf⟩⟩)
theorem n_ixL (w : Wf F H M) (h : Rk F M v (.lst ds)) (hd : atI ds i = some d) (q : ∀ u, Wf ((u, d) :: F) H M → Q u H) : rIx K v (.int i) H Q := by
  obtain ⟨I, Mc, w, a, hF⟩ := w.ex
  obtain ⟨p, vs, rfl, hp, b⟩ := h.lst w a hF
  obtain ⟨u, e, hu⟩ := atI_isa b hd
  exact .inl ⟨p, vs, i, u, rfl, rfl, .inl (.inl hp), e, q u ⟨I, Mc, w, a, fun f hf => by
    rcases List.mem_cons.mp hf with rfl | hf
    · exact hu
    · exact hF f hf⟩⟩
theorem n_ixTi {n : Int} (w : Wf F H M) (h : Rk F M v (.tup ds)) (hd : atI ds i = some (.int n)) (q : Q (.int n) H) : rIx K v (.int i) H Q := n_ixT w h hd fun u w => by rw [w.eq0.1]; exact q
theorem n_ixLi {n : Int} (w : Wf F H M) (h : Rk F M v (.lst ds)) (hd : atI ds i = some (.int n)) (q : Q (.int n) H) : rIx K v (.int i) H Q := n_ixL w h hd fun u w => by rw [w.eq0.1]; exact q
theorem n_ixTn (w : Wf F H M) (h : Rk F M v (.tup ds)) (hd : atI ds i = some .non) (q : Q .non H) : rIx K v (.int i) H Q := n_ixT w h hd fun u w => by
  obtain ⟨I, Mc, w, a, hF⟩ := w.ex
  cases (hF (u, .non) List.mem_cons_self : Is I u .non).non_eq
  exact q
theorem n_ixLLi {n : Int} (w : Wf F H M) (h : Rk F M v (.lst ds)) (hd : atI ds i = some (.int n)) (q : Q (.int n) H) : rIxL K v (.int i) H Q := by
  obtain ⟨I, Mc, w, a, hF⟩ := w.ex
  obtain ⟨p, vs, rfl, hp, b⟩ := h.lst w a hF
  obtain ⟨u, e, hu⟩ := atI_isa b hd
  cases hu.int_eq
  exact ⟨p, vs, i, _, rfl, rfl, .inl (.inl hp), e, q⟩
/-- an item at an open place -/
theorem n_ixAny (w : Wf F H M) (h : Rk F M v (.lst ds)) (h0 : 0 ≤ i) (h1 : i < ds.length) (q : ∀ d u, ds[i.toNat]? = some d → Wf ((u, d) :: F) H M → Q u H) : rIx K v (.int i) H Q := by
  have h2 : i.toNat < ds.length := by omega
  have e : (i.toNat : Int) = i := by omega
  have z := atI_nat (List.getElem?_eq_getElem h2)
  rw [e] at z
  exact n_ixL w h z fun u w' => q _ u (List.getElem?_eq_getElem h2) w'
theorem n_ixAnyT (w : Wf F H M) (h : Rk F M v (.tup ds)) (h0 : 0 ≤ i) (h1 : i < ds.length) (q : ∀ d u, ds[i.toNat]? = some d → Wf ((u, d) :: F) H M → Q u H) : rIx K v (.int i) H Q := by
  have h2 : i.toNat < ds.length := by omega
  have e : (i.toNat : Int) = i := by omega
  have z := atI_nat (List.getElem?_eq_getElem h2)
  rw [e] at z
  exact n_ixT w h z fun u w' => q _ u (List.getElem?_eq_getElem h2) w'
/-- an item of a list of ints at an open place -/
theorem n_ixInts {ns : List Int} (w : Wf F H M) (h : Rk F M v (.lst (ns.map D.int))) (h0 : 0 ≤ i) (h1 : i < ns.length) (q : ∀ n, ns[i.toNat]? = some n → Q (.int n) H) : rIx K v (.int i) H Q :=
  n_ixAny w h h0 (by rw [List.length_map]; exact h1) fun d u hd w => by
    rw [List.getElem?_map] at hd
    cases e : ns[i.toNat]? with
    | none => rw [e] at hd; cases hd
    | some n =>
      rw [e] at hd
      cases hd
      rw [w.eq0.1]
      exact q n e
-- len
theorem n_lenL (w : Wf F H M) (h : Rk F M v (.lst ds)) (q : Q (.int ds.length) H) : rLenU K [v] H Q := by
  obtain ⟨I, Mc, w, a, hF⟩ := w.ex
  obtain ⟨p, vs, rfl, hp, b⟩ := h.lst w a hF
  exact .inl ⟨p, vs, rfl, .inl (.inl (.inl hp)), by rw [b.length]; exact q⟩
theorem n_lenT (w : Wf F H M) (h : Rk F M v (.tup ds)) (q : Q (.int ds.length) H) : rLenU K [v] H Q := by
  obtain ⟨I, Mc, w, a, hF⟩ := w.ex
  obtain ⟨p, vs, rfl, hp, b⟩ := h.tup w a hF
  exact .inl ⟨p, vs, rfl, .inr (.inl (.inl hp)), by rw [b.length]; exact q⟩
-- new things
theorem n_newT (w : Wf F H M) (a : KnA F xs ds) (hz : xs.length ≤ 1000) (q : ∀ p H', Wf ((.ref p, .tup ds) :: F) H' M → Q (.ref p) H') : NewT Q xs H := by
  obtain ⟨I, Mc, w, ac, hF⟩ := w.ex
  refine s_newT w (a.is hF) hz fun p J H' s _ w' h' => q p H' ⟨J, Mc, w', ac.mono s, fun f hf => ?_⟩
  rcases List.mem_cons.mp hf with rfl | hf
  · exact h'
  · exact (hF f hf).mono s
theorem n_newL (w : Wf F H M) (a : KnA F xs ds) (hz : xs.length ≤ 1000) (q : ∀ p H', Wf F H' (.ml p ds :: M) → Q (.ref p) H') : NewL Q xs H := by
  obtain ⟨I, Mc, w, ac, hF⟩ := w.ex
  exact s_newM w hz fun p H' w' => q p H' ⟨I, _, w', .cons (.ml (a.is hF)) ac, hF⟩
theorem n_newNil (w : Wf F H M) (q : ∀ p H', Wf F H' (.ml p [] :: M) → Q (.ref p) H') : NewL Q [] H := n_newL w .nil (by simp) q
-- unpacking
theorem n_gtup {n : Nat} {gs : TGs} {T : L2.St → Hp → Prop} (w : Wf F H M) (h : Rk F M v (.tup ds)) (hn : ds.length = n) (q : ∀ I Mc xs, W I H Mc → CnA I M Mc → (∀ f ∈ F, Is I f.1 f.2) → IsA I xs ds → gs xs σ H T) : gTup K n gs v σ H T := by
  obtain ⟨I, Mc, w, a, hF⟩ := w.ex
  obtain ⟨p, vs, rfl, hp, b⟩ := h.tup w a hF
  exact ⟨p, vs, rfl, .inl (.inl hp), by rw [b.length]; exact hn, q I Mc vs w a hF b⟩
theorem n_gtup2 {gs : TGs} {T : L2.St → Hp → Prop} {d0 d1 : D} (w : Wf F H M) (h : Rk F M v (.tup [d0, d1])) (q : ∀ x y, Wf ((x, d0) :: (y, d1) :: F) H M → gs [x, y] σ H T) : gTup K 2 gs v σ H T :=
  n_gtup w h rfl fun I Mc xs w a hF b => by
    cases b with | cons h0 b =>
    cases b with | cons h1 b =>
    cases b
    refine q _ _ ⟨I, Mc, w, a, fun f hf => ?_⟩
    rcases List.mem_cons.mp hf with rfl | hf
    · exact h0
    rcases List.mem_cons.mp hf with rfl | hf
    · exact h1
    · exact hF f hf
theorem n_gtup3 {gs : TGs} {T : L2.St → Hp → Prop} {d0 d1 d2 : D} (w : Wf F H M) (h : Rk F M v (.tup [d0, d1, d2])) (q : ∀ x y z, Wf ((x, d0) :: (y, d1) :: (z, d2) :: F) H M → gs [x, y, z] σ H T) : gTup K 3 gs v σ H T :=
  n_gtup w h rfl fun I Mc xs w a hF b => by
    cases b with | cons h0 b =>
    cases b with | cons h1 b =>
    cases b with | cons h2 b =>
    cases b
    refine q _ _ _ ⟨I, Mc, w, a, fun f hf => ?_⟩
    rcases List.mem_cons.mp hf with rfl | hf
    · exact h0
    rcases List.mem_cons.mp hf with rfl | hf
    · exact h1
    rcases List.mem_cons.mp hf with rfl | hf
    · exact h2
    · exact hF f hf
theorem n_gtup4 {gs : TGs} {T : L2.St → Hp → Prop} {d0 d1 d2 d3 : D} (w : Wf F H M) (h : Rk F M v (.tup [d0, d1, d2, d3])) (q : ∀ x y z u, Wf ((x, d0) :: (y, d1) :: (z, d2) :: (u, d3) :: F) H M → gs [x, y, z, u] σ H T) : gTup K 4 gs v σ H T :=
  n_gtup w h rfl fun I Mc xs w a hF b => by
    cases b with | cons h0 b =>
    cases b with | cons h1 b =>
    cases b with | cons h2 b =>
    cases b with | cons h3 b =>
    cases b
    refine q _ _ _ _ ⟨I, Mc, w, a, fun f hf => ?_⟩
    rcases List.mem_cons.mp hf with rfl | hf
    · exact h0
    rcases List.mem_cons.mp hf with rfl | hf
    · exact h1
    rcases List.mem_cons.mp hf with rfl | hf
    · exact h2
    rcases List.mem_cons.mp hf with rfl | hf
    · exact h3
    · exact hF f hf
/-- two ints -/
theorem n_gtupII {gs : TGs} {T : L2.St → Hp → Prop} {m n : Int} (w : Wf F H M) (h : Rk F M v (.tup [.int m, .int n])) (q : gs [.int m, .int n] σ H T) : gTup K 2 gs v σ H T :=
  n_gtup2 w h fun x y w => by
    rw [w.eq0.1, w.eq0.2.eq0.1]
    exact q
theorem n_gtupIII {gs : TGs} {T : L2.St → Hp → Prop} {m n o : Int} (w : Wf F H M) (h : Rk F M v (.tup [.int m, .int n, .int o])) (q : gs [.int m, .int n, .int o] σ H T) : gTup K 3 gs v σ H T :=
  n_gtup3 w h fun x y z w => by
    rw [w.eq0.1, w.eq0.2.eq0.1, w.eq0.2.eq0.2.eq0.1]
    exact q
-- lists that may be changed
theorem n_tyL {A : Prop} (w : Wf F H M) (h : .ml p ds ∈ M) (a : A) : tyV K "list" (.ref p) H ∧ A := by
  obtain ⟨vs, h1, _⟩ := w.lstAt h
  exact s_tyL h1 a
theorem n_app (w : Wf F H M) (f : Foc M (.ml p ds) M' (.ml p (ds ++ [d]))) (h : Kn F x d) (hz : ds.length ≤ 100000) (q : ∀ H', Wf F H' M' → Q .non H') : rAppend (.ref p) [x] H Q := by
  obtain ⟨vs, h1, hl⟩ := w.lstAt f.mem
  obtain ⟨I, Mc, w, a, hF⟩ := w.ex
  obtain ⟨M1, m, M2, rfl, h3, h4⟩ := a.foc f
  cases h3 with
  | ml b =>
    exact s_app w.at (by rw [b.length]; exact hz) (q _ ⟨I, _, w.put, h4 I _ (Same.refl _) (.ml (b.app (.one (h.is hF)))), hF⟩)
theorem n_clear (w : Wf F H M) (f : Foc M (.ml p ds) M' (.ml p [])) (q : ∀ H', Wf F H' M' → Q .non H') : rClear (.ref p) [] H Q := by
  obtain ⟨vs, h1, hl⟩ := w.lstAt f.mem
  exact s_clear h1 (q _ (w.put f fun I m _ h => by cases h; exact ⟨rfl, .ml .nil⟩))
theorem IsA.set {I : Hp} (h : Is I v d) : ∀ {vs : List V} {ds : List D} (j : Nat), IsA I vs ds → IsA I (vs.set j v) (ds.set j d)
  | _, _, _, .nil => .nil
  | _, _, 0, .cons _ a => .cons h a
  | _, _, j + 1, .cons h' a => .cons h' (IsA.set h j a)
theorem n_set {T : Hp → Prop} {k : Int} {j : Nat} (w : Wf F H M) (f : Foc M (.ml p ds) M' (.ml p (ds.set j d))) (h : Kn F v d) (hj : ixN ds.length k = some j) (q : ∀ H', Wf F H' M' → T H') : rSetL (.ref p) (.int k) v H T := by
  obtain ⟨I, Mc, w, a, hF⟩ := w.ex
  obtain ⟨M1, m, M2, rfl, h3, h4⟩ := a.foc f
  cases h3 with
  | ml b => exact s_setL w.at (by rw [b.length]; exact hj) (q _ ⟨I, _, w.put, h4 I _ (Same.refl _) (.ml (IsA.set (h.is hF) j b)), hF⟩)
-- list(..), slices, +, reversed copies
theorem n_list (w : Wf F H M) (h : Rk F M x (.lst ds)) (q : ∀ p H', Wf F H' (.ml p ds :: M) → Q (.ref p) H') : rListOf K [x] H Q := by
  obtain ⟨I, Mc, w, a, hF⟩ := w.ex
  obtain ⟨p, vs, rfl, hp, b⟩ := h.lst w a hF
  exact ⟨p, vs, rfl, .inl (.inl (.inl hp)), fun l hl => q l _ ⟨I, _, w.newM hl, .cons (.ml b) a, hF⟩⟩
theorem n_listT (w : Wf F H M) (h : Rk F M x (.tup ds)) (q : ∀ p H', Wf F H' (.ml p ds :: M) → Q (.ref p) H') : rListOf K [x] H Q := by
  obtain ⟨I, Mc, w, a, hF⟩ := w.ex
  obtain ⟨p, vs, rfl, hp, b⟩ := h.tup w a hF
  exact ⟨p, vs, rfl, .inr (.inl (.inl hp)), fun l hl => q l _ ⟨I, _, w.newM hl, .cons (.ml b) a, hF⟩⟩
theorem n_sl {lo hi : Option Int} (w : Wf F H M) (h : Rk F M x (.lst ds)) (q : ∀ p H', Wf F H' (.ml p (cutD ds lo hi) :: M) → Q (.ref p) H') : rSlL K x lo hi H Q := by
  obtain ⟨I, Mc, w, a, hF⟩ := w.ex
  obtain ⟨p, vs, rfl, hp, b⟩ := h.lst w a hF
  exact ⟨p, vs, rfl, .inl (.inl hp), fun l hl => q l _ ⟨I, _, w.newM hl, .cons (.ml (b.cut lo hi)) a, hF⟩⟩
theorem n_cat (w : Wf F H M) (hx : Rk F M x (.lst ds)) (hy : Rk F M y (.lst es)) (hz : ds.length + es.length ≤ 100000) (q : ∀ p H', Wf F H' (.ml p (ds ++ es) :: M) → Q (.ref p) H') : rAddU K x y H Q := by
  obtain ⟨I, Mc, w, a, hF⟩ := w.ex
  obtain ⟨p1, vs, rfl, h1, a1⟩ := hx.lst w a hF
  obtain ⟨p2, us, rfl, h2, a2⟩ := hy.lst w a hF
  exact .inr (.inr (.inl ⟨p1, p2, vs, us, rfl, rfl, h1, h2, by rw [a1.length, a2.length]; exact Nat.le_trans hz (by decide), fun p hp => q p _ ⟨I, _, w.newM hp, .cons (.ml (a1.app a2)) a, hF⟩⟩))
theorem n_rev (w : Wf F H M) (h : Rk F M v (.lst ds)) (q : ∀ p H', Wf F H' (.ml p ds.reverse :: M) → Q (.ref p) H') : RevQ K Q v H := by
  obtain ⟨I, Mc, w, a, hF⟩ := w.ex
  obtain ⟨p, vs, rfl, hp, b⟩ := h.lst w a hF
  exact ⟨p, vs, rfl, .inl (.inl hp), fun l hl => q l _ ⟨I, _, w.newM hl, .cons (.ml b.rev) a, hF⟩⟩
-- == of data
theorem NB.dpH {k : Nat} (n : NB k d) : ∀ {v : V}, Is H v d → Dp K H v d.pd := fun {v} h => NB.dp (I := H) (M := []) ⟨fun _ _ e => e, fun _ h => (nomatch h), List.nodup_nil⟩ n h
theorem Wf.rd (w : Wf F H M) (h : Rk F M v d) : Is H v d := by
  obtain ⟨I, Mc, w, a, hF⟩ := w.ex
  exact h.rd w a hF
theorem n_eq {b : Bool} {j k : Nat} (w : Wf F H M) (hx : Rk F M x d) (hy : Rk F M y e) (n : NB k d) (m : NB j e) (hk : k ≤ 64) (hj : j ≤ 64) (hb : b = true ↔ d = e) (q : Q (.bl b) H) : rEqU K x y H Q :=
  .inr ⟨d.pd, e.pd, n.dpH (w.rd hx), m.dpH (w.rd hy), n.shaped hk, m.shaped hj, by
    have h1 := n.eqv m
    have h2 : PyData.eqv d.pd e.pd = b := by rw [Bool.eq_iff_iff, h1, hb]
    rw [h2]; exact q⟩
theorem n_ne {b : Bool} {j k : Nat} (w : Wf F H M) (hx : Rk F M x d) (hy : Rk F M y e) (n : NB k d) (m : NB j e) (hk : k ≤ 64) (hj : j ≤ 64) (hb : b = true ↔ d = e) (q : Q (.bl (!b)) H) : rNeU K x y H Q :=
  .inr ⟨d.pd, e.pd, n.dpH (w.rd hx), m.dpH (w.rd hy), n.shaped hk, m.shaped hj, by
    have h1 := n.eqv m
    have h2 : PyData.eqv d.pd e.pd = b := by rw [Bool.eq_iff_iff, h1, hb]
    rw [h2]; exact q⟩
theorem n_eqT (w : Wf F H M) (hx : Rk F M x d) (hy : Rk F M y d) (n : NB 60 d) (q : Q (.bl true) H) : rEqU K x y H Q := n_eq w hx hy n n (by decide) (by decide) (b := true) (by simp) q
theorem n_neT (w : Wf F H M) (hx : Rk F M x d) (hy : Rk F M y d) (n : NB 60 d) (q : Q (.bl false) H) : rNeU K x y H Q := n_ne w hx hy n n (by decide) (by decide) (b := true) (by simp) q
-- isinstance
theorem isi_base {a b : String} {k : Bool} (h : Is H v d) (e : d.tn = some a) (hb : kitB a b = some k) (q : Q (.bl k) H) : rIsiU K [v, .ty b] H Q := s_isi (I := H) (M := []) ⟨fun _ _ e => e, fun _ h => (nomatch h), List.nodup_nil⟩ h e hb q
theorem n_isi {a b : String} {k : Bool} (w : Wf F H M) (h : Rk F M v d) (e : d.tn = some a) (hb : kitB a b = some k) (q : Q (.bl k) H) : rIsiU K [v, .ty b] H Q := isi_base (w.rd h) e hb q
theorem W.self : W H H [] := ⟨fun _ _ e => e, fun _ h => (nomatch h), List.nodup_nil⟩
theorem n_isiO {b : String} {k : Bool} (o : OwnC K C) (w : Wf F H M) (h : Rk F M v (.obj C fs)) (hb : PySem.W.kitOne K (.ref C) (.type b) = some k) (q : Q (.bl k) H) : rIsiU K [v, .ty b] H Q := s_isiO o W.self (w.rd h) hb q
theorem n_isiC {a : String} {k : Bool} (w : Wf F H M) (h : Rk F M v d) (e : d.tn = some a) (hb : PySem.W.kitOne K (.type a) (.ref C) = some k) (q : Q (.bl k) H) : rIsiU K [v, .ref C] H Q := s_isiC W.self (w.rd h) e hb q
theorem n_isiOC {C' : Addr} {k : Bool} (o : OwnC K C) (w : Wf F H M) (h : Rk F M v (.obj C fs)) (hb : PySem.W.kitOne K (.ref C) (.ref C') = some k) (q : Q (.bl k) H) : rIsiU K [v, .ref C'] H Q := s_isiOC o W.self (w.rd h) hb q
-- objects
theorem n_fld (w : Wf F H M) (h : Rk F M v (.obj C fs)) (hc : Cls K C) (hn : ∀ f ∈ L, NoAttr K C f) (hf : f ∈ L) (hd : fs.lookup f = some d) (q : ∀ u, Wf ((u, d) :: F) H M → Q u H) : FldQ K f Q v H := by
  obtain ⟨I, Mc, w, a, hF⟩ := w.ex
  obtain ⟨p, dx, vs, rfl, hp, b⟩ := h.obj w a hF
  obtain ⟨u, e, hu⟩ := b.get hd
  exact ⟨p, C, dx, vs, u, rfl, hp, hc, hn f hf, e, q u ⟨I, Mc, w, a, fun f hf => by
    rcases List.mem_cons.mp hf with rfl | hf
    · exact hu
    · exact hF f hf⟩⟩
theorem n_fldi {n : Int} (w : Wf F H M) (h : Rk F M v (.obj C fs)) (hc : Cls K C) (hn : ∀ f ∈ L, NoAttr K C f) (hf : f ∈ L) (hd : fs.lookup f = some (.int n)) (q : Q (.int n) H) : FldQ K f Q v H := n_fld w h hc hn hf hd fun u w => by rw [w.eq0.1]; exact q
theorem n_fldn (w : Wf F H M) (h : Rk F M v (.obj C fs)) (hc : Cls K C) (hn : ∀ f ∈ L, NoAttr K C f) (hf : f ∈ L) (hd : fs.lookup f = some .non) (q : Q .non H) : FldQ K f Q v H := n_fld w h hc hn hf hd fun u w => by
  obtain ⟨I, Mc, w, a, hF⟩ := w.ex
  cases (hF (u, .non) List.mem_cons_self : Is I u .non).non_eq
  exact q
theorem n_meth {A : Prop} (w : Wf F H M) (h : Rk F M v (.obj C fs)) (hm : m ∉ fs.map (·.1)) (q : A) : MethQ C m v H A := s_methAt W.self (w.rd h) hm q
theorem n_make (w : Wf F H M) (q : ∀ x H', Wf F H' (.mi x C [] :: M) → sp (.ref x :: vs) H' (fun v H2 => v = .non ∧ Q (.ref x) H2) E) : MakeQ C sp E Q vs H := by
  obtain ⟨I, Mc, w, a, hF⟩ := w.ex
  exact s_makeW w fun x dx H' _ w' => q x H' ⟨I, _, w', .cons (.mi .nil) a, hF⟩
def putD (f : Str) (d : D) : List (Str × D) → List (Str × D)
  | [] => [(f, d)]
  | (g, x) :: r => if g = f then (g, d) :: r else (g, x) :: putD f d r
theorem IsF.put {I : Hp} (h : Is I v d) : ∀ {vs : List (Str × V)} {fs : List (Str × D)}, IsF I vs fs → IsF I (putF f v vs) (putD f d fs)
  | _, _, .nil => .cons h .nil
  | _, _, .cons (f := g) h' a => by
    unfold putF putD
    by_cases e : g = f
    · rw [if_pos e, if_pos e]; exact .cons h a
    · rw [if_neg e, if_neg e]; exact .cons h' (IsF.put h a)
theorem IsF.length {I : Hp} : ∀ {vs : List (Str × V)} {fs : List (Str × D)}, IsF I vs fs → vs.length = fs.length
  | _, _, .nil => rfl
  | _, _, .cons _ a => by rw [List.length_cons, List.length_cons, a.length]
theorem n_sf (w : Wf F H M) (fo : Foc M (.mi p C fs) M' (.mi p C (putD f d fs))) (h : Kn F y d) (hc : Cls K C) (hn : ∀ f ∈ L, NoAttr K C f) (hf : f ∈ L) (hg : fs.length < 1000) (q : ∀ H', Wf F H' M' → G.nx σ H') : SfQ K f G σ (.ref p) y H := by
  obtain ⟨I, Mc, w, a, hF⟩ := w.ex
  obtain ⟨M1, m, M2, rfl, h3, h4⟩ := a.foc fo
  cases h3 with
  | mi b =>
    exact ⟨p, C, _, _, rfl, w.at, hc, hn f hf, by rw [b.length]; exact hg, q _ ⟨I, _, w.put, h4 I _ (Same.refl _) (.mi (b.put (h.is hF))), hF⟩⟩
end

/-! ### loops -/
section
variable {K : PySem.W.Frag} {σ : L2.St} {H : Hp} {F : List (V × D)} {M M' : List ME} {Q : VK} {G : Ends} {v : V} {ds : List D} {g : TG} {tb : TS} {te : TE} {tt : TT} {c : TT}
/-- the heap of a loop -/
def LI (R : L2.St → List (V × D) → List ME → Prop) (σ : L2.St) (H : Hp) : Prop := ∃ F M, R σ F M ∧ Wf F H M
theorem n_forL (w : Wf F H M) (R : Nat → L2.St → List (V × D) → List ME → Prop) (hv : ∀ i σ F M, R i σ F M → Rk F M v (.lst ds)) (h0 : R 0 σ F M)
    (step : ∀ i d x σ H F M, ds[i]? = some d → R i σ F M → Wf ((x, d) :: F) H M → g x σ H fun σ2 H2 => tb { G with nx := LI (R (i + 1)), ct := LI (R (i + 1)), bk := G.nx } σ2 H2)
    (fin : ∀ σ H F M, R ds.length σ F M → Wf F H M → G.nx σ H) :
    ∃ a, v = .ref a ∧ (∃ xs, SqL K H a xs) ∧ ∃ W : Nat → Nat → L2.St → Hp → Prop, (∃ m, W 0 m σ H) ∧ ∀ i m σ H, W i m σ H →
      ((Itl K a).stop i H ∧ G.nx σ H) ∨ ((Itl K a).go i H ∧ ∃ N : L2.St → Hp → Prop, (∀ σ' H', N σ' H' → ∃ m', m' < m ∧ W (i + 1) m' σ' H') ∧ ∀ x H', (Itl K a).yld i H x H' → g x σ H' fun σ2 H2 => tb { G with nx := N, ct := N, bk := G.nx } σ2 H2) := by
  have e0 : ∃ a, v = .ref a ∧ ∃ xs, SqL K H a xs := by
    obtain ⟨I, Mc, w, a, hF⟩ := w.ex
    obtain ⟨p, vs, rfl, hp, b⟩ := (hv _ _ _ _ h0).lst w a hF
    exact ⟨p, rfl, vs, .inl (.inl hp)⟩
  obtain ⟨a, rfl, hx⟩ := e0
  refine ⟨a, rfl, hx, fun i m σ H => m = ds.length - i ∧ i ≤ ds.length ∧ LI (R i) σ H, ⟨ds.length, rfl, Nat.zero_le _, F, M, h0, w⟩, ?_⟩
  rintro i m σ H ⟨rfl, hi, F, M, hR, w⟩
  obtain ⟨I, Mc, w1, ac, hF⟩ := w.ex
  obtain ⟨p, vs, e, hp, b⟩ := (hv _ _ _ _ hR).lst w1 ac hF
  cases e
  have hs : SqL K H a vs := .inl (.inl hp)
  by_cases hlt : i < ds.length
  · have hl : i < vs.length := by rw [b.length]; exact hlt
    refine .inr ⟨⟨vs, vs[i], hs, List.getElem?_eq_getElem hl⟩, LI (R (i + 1)), fun σ' H' z => ⟨ds.length - (i + 1), by omega, rfl, hlt, z⟩, fun x H' y => ?_⟩
    obtain ⟨rfl, y⟩ := y
    obtain ⟨d, e1, e2⟩ := b.of (y vs hs)
    refine step i d x σ _ F M e1 hR ⟨I, Mc, w1, ac, fun f hf => ?_⟩
    rcases List.mem_cons.mp hf with rfl | hf
    · exact e2
    · exact hF f hf
  · have e : i = ds.length := by omega
    subst e
    exact .inl ⟨⟨vs, hs, by rw [b.length]; exact Nat.le_refl _⟩, fin σ H F M hR w⟩
theorem n_forT (w : Wf F H M) (R : Nat → L2.St → List (V × D) → List ME → Prop) (hv : ∀ i σ F M, R i σ F M → Rk F M v (.tup ds)) (h0 : R 0 σ F M)
    (step : ∀ i d x σ H F M, ds[i]? = some d → R i σ F M → Wf ((x, d) :: F) H M → g x σ H fun σ2 H2 => tb { G with nx := LI (R (i + 1)), ct := LI (R (i + 1)), bk := G.nx } σ2 H2)
    (fin : ∀ σ H F M, R ds.length σ F M → Wf F H M → G.nx σ H) :
    ∃ a, v = .ref a ∧ (∃ xs, SqT K H a xs) ∧ ∃ W : Nat → Nat → L2.St → Hp → Prop, (∃ m, W 0 m σ H) ∧ ∀ i m σ H, W i m σ H →
      ((Itt K a).stop i H ∧ G.nx σ H) ∨ ((Itt K a).go i H ∧ ∃ N : L2.St → Hp → Prop, (∀ σ' H', N σ' H' → ∃ m', m' < m ∧ W (i + 1) m' σ' H') ∧ ∀ x H', (Itt K a).yld i H x H' → g x σ H' fun σ2 H2 => tb { G with nx := N, ct := N, bk := G.nx } σ2 H2) := by
  have e0 : ∃ a, v = .ref a ∧ ∃ xs, SqT K H a xs := by
    obtain ⟨I, Mc, w, a, hF⟩ := w.ex
    obtain ⟨p, vs, rfl, hp, b⟩ := (hv _ _ _ _ h0).tup w a hF
    exact ⟨p, rfl, vs, .inl (.inl hp)⟩
  obtain ⟨a, rfl, hx⟩ := e0
  refine ⟨a, rfl, hx, fun i m σ H => m = ds.length - i ∧ i ≤ ds.length ∧ LI (R i) σ H, ⟨ds.length, rfl, Nat.zero_le _, F, M, h0, w⟩, ?_⟩
  rintro i m σ H ⟨rfl, hi, F, M, hR, w⟩
  obtain ⟨I, Mc, w1, ac, hF⟩ := w.ex
  obtain ⟨p, vs, e, hp, b⟩ := (hv _ _ _ _ hR).tup w1 ac hF
  cases e
  have hs : SqT K H a vs := .inl (.inl hp)
  by_cases hlt : i < ds.length
  · have hl : i < vs.length := by rw [b.length]; exact hlt
    refine .inr ⟨⟨vs, vs[i], hs, List.getElem?_eq_getElem hl⟩, LI (R (i + 1)), fun σ' H' z => ⟨ds.length - (i + 1), by omega, rfl, hlt, z⟩, fun x H' y => ?_⟩
    obtain ⟨rfl, y⟩ := y
    obtain ⟨d, e1, e2⟩ := b.of (y vs hs)
    refine step i d x σ _ F M e1 hR ⟨I, Mc, w1, ac, fun f hf => ?_⟩
    rcases List.mem_cons.mp hf with rfl | hf
    · exact e2
    · exact hF f hf
  · have e : i = ds.length := by omega
    subst e
    exact .inl ⟨⟨vs, hs, by rw [b.length]; exact Nat.le_refl _⟩, fin σ H F M hR w⟩
theorem n_forR {lo : Int} {n : Nat} (w : Wf F H M) (R : Nat → L2.St → List (V × D) → List ME → Prop) (h0 : R 0 σ F M)
    (step : ∀ i σ H F M, i < n → R i σ F M → Wf F H M → g (.int (lo + i)) σ H fun σ2 H2 => tb { G with nx := LI (R (i + 1)), ct := LI (R (i + 1)), bk := G.nx } σ2 H2)
    (fin : ∀ σ H F M, R n σ F M → Wf F H M → G.nx σ H) :
    ∃ W : Nat → Nat → L2.St → Hp → Prop, (∃ m, W 0 m σ H) ∧ ∀ i m σ H, W i m σ H →
      ((Itr lo n).stop i H ∧ G.nx σ H) ∨ ((Itr lo n).go i H ∧ ∃ N : L2.St → Hp → Prop, (∀ σ' H', N σ' H' → ∃ m', m' < m ∧ W (i + 1) m' σ' H') ∧ ∀ x H', (Itr lo n).yld i H x H' → g x σ H' fun σ2 H2 => tb { G with nx := N, ct := N, bk := G.nx } σ2 H2) :=
  for_range (fun i => LI (R i)) ⟨F, M, h0, w⟩ (fun i σ H hi ⟨F, M, hR, w⟩ => step i σ H F M hi hR w) fun σ H ⟨F, M, hR, w⟩ => fin σ H F M hR w
/-- while, by a measure of the slots -/
theorem n_while (w : Wf F H M) (R : L2.St → List (V × D) → List ME → Prop) (μ : L2.St → Nat) (h0 : R σ F M)
    (step : ∀ σ H F M, R σ F M → Wf F H M → c σ H fun b H1 => if b = true then ∃ N : L2.St → Hp → Prop, (∀ σ' H', N σ' H' → ∃ m', m' < μ σ ∧ m' = μ σ' ∧ LI R σ' H') ∧ tb { G with nx := N, ct := N, bk := G.nx } σ H1 else G.nx σ H1) : tWhile c tb G σ H :=
  s_while (LI R) μ ⟨F, M, h0, w⟩ fun σ H ⟨F, M, hR, w⟩ => step σ H F M hR w
theorem n_wN {R : L2.St → List (V × D) → List ME → Prop} {μ : L2.St → Nat} {m : Nat} {σ1 : L2.St} (h : tb { G with nx := fun σ' H' => LI R σ' H' ∧ μ σ' < m, ct := fun σ' H' => LI R σ' H' ∧ μ σ' < m, bk := G.nx } σ1 H) :
    ∃ N : L2.St → Hp → Prop, (∀ σ' H', N σ' H' → ∃ m', m' < m ∧ m' = μ σ' ∧ LI R σ' H') ∧ tb { G with nx := N, ct := N, bk := G.nx } σ1 H :=
  ⟨_, fun _ _ h => ⟨_, h.2, rfl, h.1⟩, h⟩
/-- comprehensions: what the i-th turn gives is told by P -/
theorem n_lc {J : It} {n : Nat} {Gd : Hp → Prop} {Y : Nat → Hp → V → Hp → Prop} {xs : List Nat} {k : Nat} (wk : Walk J n Gd Y) (w : Wf F H M) (hG : ∀ H' D acc, Wf F H' (.ml D acc :: M) → Gd H') (P : Nat → D → Prop) (hn : n ≤ 100000)
    (hw : ∀ v, wipe ((wipe σ xs).set k (some v)) xs = wipe σ xs)
    (step : ∀ i v D acc H0 H' C, i < n → Wf F H0 (.ml D acc :: M) → Y i H0 v H' → (∀ y d H4, Wf ((y, d) :: F) H4 (.ml D acc :: M) → P i d → C y H4) → te ((wipe σ xs).set k (some v)) H' C)
    (q : ∀ p ds H', ds.length = n → (∀ i d, ds[i]? = some d → P i d) → Wf F H' (.ml p ds :: M) → Q (.ref p) H') : LcGo J (gName k) tYes te xs σ Q H := by
  intro D nD
  have w0 : Wf F (upd H D (.lst [])) (.ml D [] :: M) := by
    obtain ⟨I, Mc, w, a, hF⟩ := w.ex
    exact ⟨I, _, w.newM nD, .cons (.ml .nil) a, hF⟩
  refine lc_it wk (fun i H' => ∃ acc, Wf F H' (.ml D acc :: M) ∧ acc.length = i ∧ ∀ j d, acc[j]? = some d → P j d) ⟨[], w0, rfl, fun j d h => by simp at h⟩ (fun i H' _ ⟨acc, w', _⟩ => hG H' D acc w') ?_ ?_
  · rintro i v H0 H' hi ⟨acc, w', hl, hp⟩ hy
    refine ⟨hw v, ?_⟩
    refine s_yes (iteT (step i v D acc H0 H' _ hi w' hy fun y d H4 w4 hd => ?_))
    obtain ⟨vs, h1, h2⟩ := w4.lstAt List.mem_cons_self
    have w5 : Wf F (upd H4 D (.lst (vs ++ [y]))) (.ml D (acc ++ [d]) :: M) := by
      obtain ⟨I, Mc, w, a, hF⟩ := w4.ex
      cases a with
      | cons h a =>
        cases h with
        | ml b =>
          have := w.at0
          rw [this] at h1
          cases h1
          exact ⟨I, _, w.put0, .cons (.ml (b.app (.one (hF _ List.mem_cons_self)))) a, fun f hf => hF f (List.mem_cons_of_mem _ hf)⟩
    refine ⟨vs, h1, by rw [h2, hl]; exact Nat.lt_of_lt_of_le hi (Nat.le_trans hn (by decide)), acc ++ [d], w5, by rw [List.length_append, hl]; rfl, fun j e h => ?_⟩
    by_cases hj : j < acc.length
    · rw [List.getElem?_append_left hj] at h
      exact hp j e h
    · rw [List.getElem?_append_right (by omega)] at h
      have h3 : j - acc.length = 0 := by
        cases hz : j - acc.length with
        | zero => rfl
        | succ m => rw [hz] at h; simp at h
      rw [h3] at h
      simp at h
      subst h
      have : j = i := by omega
      rw [this]
      exact hd
  · rintro H' ⟨acc, w', hl, hp⟩
    exact q D acc H' hl hp w'
/-- .. over a list -/
theorem n_lcL {xs : List Nat} {k : Nat} (w : Wf F H M) (h : Rk F M v (.lst ds)) (P : Nat → D → Prop) (hn : ds.length ≤ 100000)
    (hw : ∀ v, wipe ((wipe σ xs).set k (some v)) xs = wipe σ xs)
    (step : ∀ i x d D acc H0 C, ds[i]? = some d → Wf ((x, d) :: F) H0 (.ml D acc :: M) → (∀ y d H4, Wf ((y, d) :: F) H4 (.ml D acc :: M) → P i d → C y H4) → te ((wipe σ xs).set k (some x)) H0 C)
    (q : ∀ p es H', es.length = ds.length → (∀ i d, es[i]? = some d → P i d) → Wf F H' (.ml p es :: M) → Q (.ref p) H') :
    ∃ a, v = .ref a ∧ (∃ xs, SqL K H a xs) ∧ LcGo (Itl K a) (gName k) tYes te xs σ Q H := by
  have rk : ∀ D acc, Rk F (.ml D acc :: M) v (.lst ds) := fun D acc => by
    cases h with
    | mem h => exact .mem h
    | ml h => exact .ml (List.mem_cons_of_mem _ h)
  have e0 : ∃ a, v = .ref a ∧ ∃ xs, SqL K H a xs := by
    obtain ⟨I, Mc, w, a, hF⟩ := w.ex
    obtain ⟨p, vs, rfl, hp, b⟩ := h.lst w a hF
    exact ⟨p, rfl, vs, .inl (.inl hp)⟩
  obtain ⟨a, rfl, hx⟩ := e0
  refine ⟨a, rfl, hx, ?_⟩
  have wk : Walk (Itl K a) ds.length (fun H => ∃ D acc, Wf F H (.ml D acc :: M)) (fun i H x H' => H' = H ∧ ∀ xs, SqL K H a xs → xs[i]? = some x) := by
    refine ⟨fun i H hi ⟨D, acc, w⟩ => ?_, fun H ⟨D, acc, w⟩ => ?_, fun i H x H' hi _ y => y⟩
    · obtain ⟨I, Mc, w, ac, hF⟩ := w.ex
      obtain ⟨p, vs, e, hp, b⟩ := (rk D acc).lst w ac hF
      cases e
      have hl : i < vs.length := by rw [b.length]; exact hi
      exact ⟨vs, vs[i], .inl (.inl hp), List.getElem?_eq_getElem hl⟩
    · obtain ⟨I, Mc, w, ac, hF⟩ := w.ex
      obtain ⟨p, vs, e, hp, b⟩ := (rk D acc).lst w ac hF
      cases e
      exact ⟨vs, .inl (.inl hp), by rw [b.length]; exact Nat.le_refl _⟩
  refine n_lc wk w (fun H' D acc w' => ⟨D, acc, w'⟩) P hn hw (fun i x D acc H0 H' C hi w' y k => ?_) q
  obtain ⟨rfl, y⟩ := y
  obtain ⟨I, Mc, w1, ac, hF⟩ := w'.ex
  obtain ⟨p, vs, e, hp, b⟩ := (rk D acc).lst w1 ac hF
  cases e
  obtain ⟨d, e1, e2⟩ := b.of (y vs (.inl (.inl hp)))
  refine step i x d D acc _ C e1 ⟨I, Mc, w1, ac, fun f hf => ?_⟩ k
  rcases List.mem_cons.mp hf with rfl | hf
  · exact e2
  · exact hF f hf
theorem n_lcR {xs : List Nat} {k n : Nat} {lo : Int} (w : Wf F H M) (P : Nat → D → Prop) (hn : n ≤ 100000)
    (hw : ∀ v, wipe ((wipe σ xs).set k (some v)) xs = wipe σ xs)
    (step : ∀ i D acc H0 C, i < n → Wf F H0 (.ml D acc :: M) → (∀ y d H4, Wf ((y, d) :: F) H4 (.ml D acc :: M) → P i d → C y H4) → te ((wipe σ xs).set k (some (.int (lo + i)))) H0 C)
    (q : ∀ p es H', es.length = n → (∀ i d, es[i]? = some d → P i d) → Wf F H' (.ml p es :: M) → Q (.ref p) H') : LcGo (Itr lo n) (gName k) tYes te xs σ Q H :=
  n_lc walk_range w (fun _ _ _ _ => trivial) P hn hw (fun i x D acc H0 H' C hi w' y k => by
    obtain ⟨rfl, rfl⟩ := y
    exact step i D acc _ C hi w' k) q
end
end Fs

namespace Fs
open PySem PySem.Spec PyProof.Rows L2
section
variable {X : Cx} {pos : Pos}
theorem pe_globS {x : Str} {z : Str} (hg : Gl X x) (hm : ∃ t, X.mg x = some (.str z t)) (hd : (x == ("__debug__" : Str)) = false := by decide) : PE X (.Name x pos) (tC (.str z)) := by
  obtain ⟨t, e⟩ := hm
  exact pe_glob hg e ⟨t, rfl⟩ hd
end
section
variable {K : PySem.W.Frag} {σ : L2.St} {H : Hp} {F : List (V × D)} {M M' : List ME} {Q : VK} {G : Ends} {z : Str} {g : TG} {tb : TS} {tk tv : TE}
theorem n_forS (w : Wf F H M) (R : Nat → L2.St → List (V × D) → List ME → Prop) (h0 : R 0 σ F M)
    (step : ∀ i c σ H F M, z.cps.toList[i]? = some c → R i σ F M → Wf F H M → g (.str ⟨#[c]⟩) σ H fun σ2 H2 => tb { G with nx := LI (R (i + 1)), ct := LI (R (i + 1)), bk := G.nx } σ2 H2)
    (fin : ∀ σ H F M, R z.length σ F M → Wf F H M → G.nx σ H) :
    ∃ x, V.str z = .str x ∧ ∃ W : Nat → Nat → L2.St → Hp → Prop, (∃ m, W 0 m σ H) ∧ ∀ i m σ H, W i m σ H →
      ((Its x).stop i H ∧ G.nx σ H) ∨ ((Its x).go i H ∧ ∃ N : L2.St → Hp → Prop, (∀ σ' H', N σ' H' → ∃ m', m' < m ∧ W (i + 1) m' σ' H') ∧ ∀ v H', (Its x).yld i H v H' → g v σ H' fun σ2 H2 => tb { G with nx := N, ct := N, bk := G.nx } σ2 H2) :=
  s_forS (fun i => LI (R i)) ⟨F, M, h0, w⟩ (fun i c σ H hc ⟨F, M, hR, w⟩ => step i c σ H F M hc hR w) fun σ H ⟨F, M, hR, w⟩ => fin σ H F M hR w
/-- a comprehension over a text -/
theorem n_lcS {te : TE} {xs : List Nat} {k : Nat} (w : Wf F H M) (P : Nat → D → Prop) (hn : z.length ≤ 100000)
    (hw : ∀ v, wipe ((wipe σ xs).set k (some v)) xs = wipe σ xs)
    (step : ∀ i c D acc H0 C, z.cps.toList[i]? = some c → Wf F H0 (.ml D acc :: M) → (∀ y d H4, Wf ((y, d) :: F) H4 (.ml D acc :: M) → P i d → C y H4) → te ((wipe σ xs).set k (some (.str ⟨#[c]⟩))) H0 C)
    (q : ∀ p es H', es.length = z.length → (∀ i d, es[i]? = some d → P i d) → Wf F H' (.ml p es :: M) → Q (.ref p) H') :
    ∃ x, V.str z = .str x ∧ LcGo (Its x) (gName k) tYes te xs σ Q H := by
  refine ⟨z, rfl, n_lc walk_str w (fun _ _ _ _ => trivial) P hn hw (fun i x D acc H0 H' C hi w' y k => ?_) q⟩
  obtain ⟨rfl, c, e, rfl⟩ := y
  exact step i c D acc _ C (by rw [Array.getElem?_toList]; exact e) w' k
/-- a displayed dict of one pair -/
def DkQ (Q : VK) (p : Addr) (F : List (V × D)) (M : List ME) (x : V) (H : Hp) : Prop := ∀ H', Wf ((.ref p, .dict) :: F) H' M → Q (.ref p) H'
theorem n_disp1 (w : Wf F H M) (q : ∀ p H', Wf F H' (.raw p (.dK []) :: M) → tk σ H' fun x H1 => tv σ H1 fun y H2 => DispQ Q p x y H2) : tDisp [(tk, tv)] σ H Q := by
  obtain ⟨I, Mc, w, a, hF⟩ := w.ex
  exact s_disp1 w fun p H' _ w' => q p H' ⟨I, _, w', .cons (.raw fun _ e => nomatch e) a, hF⟩
theorem n_dispS {n : Str} {p : Addr} {y : V} (w : Wf F H (.raw p (.dK []) :: M)) (q : ∀ H', Wf ((.ref p, .dict) :: F) H' M → Q (.ref p) H') : DispQ Q p (.str n) y H := by
  obtain ⟨I, Mc, w, a, hF⟩ := w.ex
  cases a with
  | cons h a =>
    cases h
    exact s_dispS w fun J H' s w' h' => q H' ⟨J, _, w', a.mono s, fun f hf => by
      rcases List.mem_cons.mp hf with rfl | hf
      · exact h'
      · exact (hF f hf).mono s⟩
theorem n_dispI {n : Int} {p : Addr} {y : V} (w : Wf F H (.raw p (.dK []) :: M)) (q : ∀ H', Wf ((.ref p, .dict) :: F) H' M → Q (.ref p) H') : DispQ Q p (.int n) y H := by
  obtain ⟨I, Mc, w, a, hF⟩ := w.ex
  cases a with
  | cons h a =>
    cases h
    exact s_dispI w fun J H' s w' h' => q H' ⟨J, _, w', a.mono s, fun f hf => by
      rcases List.mem_cons.mp hf with rfl | hf
      · exact h'
      · exact (hF f hf).mono s⟩
/-- a joined list of signs -/
theorem n_join {p : Addr} {ds : List D} {a : Str} (w : Wf F H M) (h : Rk F M (.ref p) (.lst ds)) (hs : ∀ d ∈ ds, ∃ y : Str, d = .str y ∧ y.length ≤ 1) (hl : ds.length ≤ 1000) (ha : a.length ≤ 1) (q : ∀ z : Str, z.length ≤ 2 * ds.length → Q (.str z) H) : rJoin K (.str a) [.ref p] H Q := by
  obtain ⟨I, Mc, w, ac, hF⟩ := w.ex
  obtain ⟨p', vs, e, hp, b⟩ := h.lst w ac hF
  cases e
  have : ∃ ys : List Str, vs = ys.map V.str ∧ ys.length = ds.length ∧ (ys.map (·.length)).sum ≤ ds.length := by
    clear h hp w hl q
    revert vs
    induction ds with
    | nil => intro vs b; cases b; exact ⟨[], rfl, rfl, by simp⟩
    | cons d ds ih =>
      intro vs b
      cases b with
      | cons h1 b =>
        obtain ⟨y, rfl, hy⟩ := hs d List.mem_cons_self
        obtain ⟨ys, rfl, h3, h4⟩ := ih (fun d hd => hs d (List.mem_cons_of_mem _ hd)) _ b
        rw [h1.str_eq]
        exact ⟨y :: ys, rfl, by simp [h3], by simp only [List.map_cons, List.sum_cons, List.length_cons]; omega⟩
  obtain ⟨ys, rfl, h3, h4⟩ := this
  have h5 : ys.length * a.length ≤ ys.length * 1 := Nat.mul_le_mul_left _ ha
  have h6 := StrLaws.join_length_le a ys
  refine ⟨a, p, ys, rfl, rfl, .inl (.inl (.inl hp)), by omega, q _ ?_⟩
  unfold Txt.join
  rw [StrLaws.glued_eq_join]
  omega
end
end Fs

namespace Fs
open PySem PySem.Spec PyProof.Rows L2
/-! ### what is walked, in one form: the i-th item is known by f -/
structure Src (J : It) (n : Nat) (f : Nat → D) (OK : List (V × D) → List ME → Prop) : Prop where
  go : ∀ i H F M, i < n → OK F M → Wf F H M → J.go i H
  stop : ∀ H F M, OK F M → Wf F H M → J.stop n H
  yld : ∀ i H F M x H', i < n → OK F M → Wf F H M → J.yld i H x H' → Wf ((x, f i) :: F) H' M
section
variable {K : PySem.W.Frag} {σ : L2.St} {H : Hp} {F : List (V × D)} {M M' : List ME} {Q : VK} {G : Ends} {v u x y : V} {ds es : List D} {g : TG} {tb : TS} {te : TE} {tt : TT} {a b : Addr} {J : It} {n : Nat} {f : Nat → D} {OK : List (V × D) → List ME → Prop}
theorem Wf.lstE (w : Wf F H M) (h : Rk F M v (.lst ds)) : ∃ I Mc p vs, v = .ref p ∧ W I H Mc ∧ CnA I M Mc ∧ (∀ f ∈ F, Is I f.1 f.2) ∧ H p = some (.lst vs) ∧ IsA I vs ds := by
  obtain ⟨I, Mc, w, ac, hF⟩ := w.ex
  obtain ⟨p, vs, e, hp, b⟩ := h.lst w ac hF
  exact ⟨I, Mc, p, vs, e, w, ac, hF, hp, b⟩
theorem Wf.cons {I : Hp} {Mc : List (Addr × HO)} {v : V} {d : D} (w : W I H Mc) (ac : CnA I M Mc) (hF : ∀ f ∈ F, Is I f.1 f.2) (h : Is I v d) : Wf ((v, d) :: F) H M := ⟨I, Mc, w, ac, fun f hf => by
  rcases List.mem_cons.mp hf with rfl | hf
  · exact h
  · exact hF f hf⟩
theorem getD_of {i : Nat} {d : D} (h : ds[i]? = some d) : ds.getD i .non = d := by rw [List.getD_eq_getElem?_getD, h]; rfl
theorem src_list : Src (Itl K a) ds.length (fun i => ds.getD i .non) (fun F M => Rk F M (.ref a) (.lst ds)) where
  go := fun i H F M hi ok w => by
    obtain ⟨I, Mc, p, vs, e, w, ac, hF, hp, b⟩ := w.lstE ok
    cases e
    have hl : i < vs.length := by rw [b.length]; exact hi
    exact ⟨vs, vs[i], .inl (.inl hp), List.getElem?_eq_getElem hl⟩
  stop := fun H F M ok w => by
    obtain ⟨I, Mc, p, vs, e, w, ac, hF, hp, b⟩ := w.lstE ok
    cases e
    exact ⟨vs, .inl (.inl hp), by rw [b.length]; exact Nat.le_refl _⟩
  yld := fun i H F M x H' hi ok w y => by
    obtain ⟨I, Mc, p, vs, e, w, ac, hF, hp, b⟩ := w.lstE ok
    cases e
    obtain ⟨rfl, y⟩ := y
    obtain ⟨d, e1, e2⟩ := b.of (y vs (.inl (.inl hp)))
    rw [getD_of e1]
    exact .cons w ac hF e2
theorem src_range {lo : Int} : Src (Itr lo n) n (fun i => .int (lo + i)) (fun _ _ => True) where
  go := fun i H F M hi _ _ => hi
  stop := fun H F M _ _ => Nat.le_refl _
  yld := fun i H F M x H' hi _ w y => by
    obtain ⟨rfl, rfl⟩ := y
    exact w.add (.int _)
theorem Wf.newT {p : Addr} {xs : List V} (w : Wf F H M) (hp : H p = none) (h : ∀ I Mc, W I H Mc → CnA I M Mc → (∀ f ∈ F, Is I f.1 f.2) → IsA I xs ds) : Wf ((.ref p, .tup ds) :: F) (upd H p (.tup xs)) M := by
  obtain ⟨I, Mc, w, ac, hF⟩ := w.ex
  exact .cons (w.newI hp) (ac.mono (w.same hp)) (fun f hf => (hF f hf).mono (w.same hp)) (.tup upd_same ((h I Mc w ac hF).mono (w.same hp)))
theorem src_zip : Src (Itz K a b) (min ds.length es.length) (fun i => .tup [ds.getD i .non, es.getD i .non]) (fun F M => Rk F M (.ref a) (.lst ds) ∧ Rk F M (.ref b) (.lst es)) where
  go := fun i H F M hi ok w => by
    obtain ⟨I, Mc, w, ac, hF⟩ := w.ex
    obtain ⟨p, vs, e, hp, b1⟩ := ok.1.lst w ac hF
    cases e
    obtain ⟨p, us, e, hp2, b2⟩ := ok.2.lst w ac hF
    cases e
    have hl : i < vs.length := by rw [b1.length]; omega
    have hl2 : i < us.length := by rw [b2.length]; omega
    exact ⟨vs, us, vs[i], us[i], .inl (.inl hp), .inl (.inl hp2), List.getElem?_eq_getElem hl, List.getElem?_eq_getElem hl2⟩
  stop := fun H F M ok w => by
    obtain ⟨I, Mc, w, ac, hF⟩ := w.ex
    obtain ⟨p, vs, e, hp, b1⟩ := ok.1.lst w ac hF
    cases e
    obtain ⟨p, us, e, hp2, b2⟩ := ok.2.lst w ac hF
    cases e
    exact ⟨vs, us, .inl (.inl hp), .inl (.inl hp2), by rw [b1.length, b2.length]; omega⟩
  yld := fun i H F M x H' hi ok w y => by
    obtain ⟨T, x, y', rfl, hT, rfl, h1, h2⟩ := y
    refine w.newT hT fun I Mc w ac hF => ?_
    obtain ⟨p, vs, e, hp, b1⟩ := ok.1.lst w ac hF
    cases e
    obtain ⟨p, us, e, hp2, b2⟩ := ok.2.lst w ac hF
    cases e
    obtain ⟨d, e1, f1⟩ := b1.of (h1 vs (.inl (.inl hp)))
    obtain ⟨e', e2, f2⟩ := b2.of (h2 us (.inl (.inl hp2)))
    rw [getD_of e1, getD_of e2]
    exact .cons f1 (.cons f2 .nil)
theorem src_enum : Src (Ite K a) ds.length (fun i => .tup [.int (i : Nat), ds.getD i .non]) (fun F M => Rk F M (.ref a) (.lst ds)) where
  go := fun i H F M hi ok w => by
    obtain ⟨I, Mc, p, vs, e, w, ac, hF, hp, b⟩ := w.lstE ok
    cases e
    have hl : i < vs.length := by rw [b.length]; exact hi
    exact ⟨vs, vs[i], .inl (.inl hp), List.getElem?_eq_getElem hl⟩
  stop := fun H F M ok w => by
    obtain ⟨I, Mc, p, vs, e, w, ac, hF, hp, b⟩ := w.lstE ok
    cases e
    exact ⟨vs, .inl (.inl hp), by rw [b.length]; exact Nat.le_refl _⟩
  yld := fun i H F M x H' hi ok w y => by
    obtain ⟨T, x, rfl, hT, rfl, h1⟩ := y
    refine w.newT hT fun I Mc w ac hF => ?_
    obtain ⟨p, vs, e, hp, b1⟩ := ok.lst w ac hF
    cases e
    obtain ⟨d, e1, f1⟩ := b1.of (h1 vs (.inl (.inl hp)))
    rw [getD_of e1]
    exact .cons (.int _) (.cons f1 .nil)
/-- a for over such -/
theorem n_forJ (S : Src J n f OK) (w : Wf F H M) (R : Nat → L2.St → List (V × D) → List ME → Prop) (hv : ∀ i σ F M, R i σ F M → OK F M) (h0 : R 0 σ F M)
    (step : ∀ i x σ H F M, i < n → R i σ F M → Wf ((x, f i) :: F) H M → g x σ H fun σ2 H2 => tb { G with nx := LI (R (i + 1)), ct := LI (R (i + 1)), bk := G.nx } σ2 H2)
    (fin : ∀ σ H F M, R n σ F M → Wf F H M → G.nx σ H) :
    ∃ W : Nat → Nat → L2.St → Hp → Prop, (∃ m, W 0 m σ H) ∧ ∀ i m σ H, W i m σ H →
      (J.stop i H ∧ G.nx σ H) ∨ (J.go i H ∧ ∃ N : L2.St → Hp → Prop, (∀ σ' H', N σ' H' → ∃ m', m' < m ∧ W (i + 1) m' σ' H') ∧ ∀ x H', J.yld i H x H' → g x σ H' fun σ2 H2 => tb { G with nx := N, ct := N, bk := G.nx } σ2 H2) := by
  refine ⟨fun i m σ H => m = n - i ∧ i ≤ n ∧ LI (R i) σ H, ⟨n, rfl, Nat.zero_le _, F, M, h0, w⟩, ?_⟩
  rintro i m σ H ⟨rfl, hi, F, M, hR, w⟩
  by_cases hlt : i < n
  · exact .inr ⟨S.go i H F M hlt (hv _ _ _ _ hR) w, LI (R (i + 1)), fun σ' H' z => ⟨n - (i + 1), by omega, rfl, hlt, z⟩, fun x H' y => step i x σ H' F M hlt hR (S.yld i H F M x H' hlt (hv _ _ _ _ hR) w y)⟩
  · have e : i = n := by omega
    subst e
    exact .inl ⟨S.stop H F M (hv _ _ _ _ hR) w, fin σ H F M hR w⟩
theorem n_zip (w : Wf F H M) (R : Nat → L2.St → List (V × D) → List ME → Prop) (hv : ∀ i σ F M, R i σ F M → Rk F M v (.lst ds) ∧ Rk F M u (.lst es)) (h0 : R 0 σ F M)
    (step : ∀ i d e x σ H F M, ds[i]? = some d → es[i]? = some e → R i σ F M → Wf ((x, .tup [d, e]) :: F) H M → g x σ H fun σ2 H2 => tb { G with nx := LI (R (i + 1)), ct := LI (R (i + 1)), bk := G.nx } σ2 H2)
    (fin : ∀ σ H F M, R (min ds.length es.length) σ F M → Wf F H M → G.nx σ H) :
    ∃ a b xs ys, [v, u] = [V.ref a, .ref b] ∧ SqL K H a xs ∧ SqL K H b ys ∧ ∃ W : Nat → Nat → L2.St → Hp → Prop, (∃ m, W 0 m σ H) ∧ ∀ i m σ H, W i m σ H →
      ((Itz K a b).stop i H ∧ G.nx σ H) ∨ ((Itz K a b).go i H ∧ ∃ N : L2.St → Hp → Prop, (∀ σ' H', N σ' H' → ∃ m', m' < m ∧ W (i + 1) m' σ' H') ∧ ∀ x H', (Itz K a b).yld i H x H' → g x σ H' fun σ2 H2 => tb { G with nx := N, ct := N, bk := G.nx } σ2 H2) := by
  obtain ⟨I, Mc, w1, ac, hF⟩ := w.ex
  obtain ⟨p, vs, rfl, hp, b1⟩ := (hv _ _ _ _ h0).1.lst w1 ac hF
  obtain ⟨q, us, rfl, hq, b2⟩ := (hv _ _ _ _ h0).2.lst w1 ac hF
  refine ⟨p, q, vs, us, rfl, .inl (.inl hp), .inl (.inl hq), n_forJ src_zip w R hv h0 (fun i x σ H F M hi hR w => ?_) fin⟩
  have h1 : i < ds.length := by omega
  have h2 : i < es.length := by omega
  have e1 : ds[i]? = some ds[i] := List.getElem?_eq_getElem h1
  have e2 : es[i]? = some es[i] := List.getElem?_eq_getElem h2
  rw [getD_of e1, getD_of e2] at w
  exact step i _ _ x σ H F M e1 e2 hR w
theorem s_enum {σ : L2.St} {ta : TA} {R : It → Hp → Prop} (h : ta σ H fun vs H1 => ∃ a xs, vs = [.ref a] ∧ SqL K H1 a xs ∧ R (Ite K a) H1) : iEnum K ta σ H R := h
theorem n_enum (w : Wf F H M) (R : Nat → L2.St → List (V × D) → List ME → Prop) (hv : ∀ i σ F M, R i σ F M → Rk F M v (.lst ds)) (h0 : R 0 σ F M)
    (step : ∀ i d x σ H F M, ds[i]? = some d → R i σ F M → Wf ((x, .tup [.int (i : Nat), d]) :: F) H M → g x σ H fun σ2 H2 => tb { G with nx := LI (R (i + 1)), ct := LI (R (i + 1)), bk := G.nx } σ2 H2)
    (fin : ∀ σ H F M, R ds.length σ F M → Wf F H M → G.nx σ H) :
    ∃ a xs, [v] = [V.ref a] ∧ SqL K H a xs ∧ ∃ W : Nat → Nat → L2.St → Hp → Prop, (∃ m, W 0 m σ H) ∧ ∀ i m σ H, W i m σ H →
      ((Ite K a).stop i H ∧ G.nx σ H) ∨ ((Ite K a).go i H ∧ ∃ N : L2.St → Hp → Prop, (∀ σ' H', N σ' H' → ∃ m', m' < m ∧ W (i + 1) m' σ' H') ∧ ∀ x H', (Ite K a).yld i H x H' → g x σ H' fun σ2 H2 => tb { G with nx := N, ct := N, bk := G.nx } σ2 H2) := by
  obtain ⟨I, Mc, p, vs, rfl, w1, ac, hF, hp, b⟩ := w.lstE (hv _ _ _ _ h0)
  refine ⟨p, vs, rfl, .inl (.inl hp), n_forJ src_enum w R hv h0 (fun i x σ H F M hi hR w => ?_) fin⟩
  have e1 : ds[i]? = some ds[i] := List.getElem?_eq_getElem hi
  rw [getD_of e1] at w
  exact step i _ x σ H F M e1 hR w
/-- any comprehension: acc is what was kept so far -/
theorem n_lcJ {xs : List Nat} (S : Src J n f OK) (w : Wf F H M) (ok : OK F M) (okm : ∀ D acc, OK F M → OK F (.ml D acc :: M)) (R : Nat → List D → Prop) (h0 : R 0 []) (hn : n ≤ 100000)
    (step : ∀ i x D acc H0 (Ap : VK) (Sk : Hp → Prop), i < n → R i acc → Wf ((x, f i) :: F) H0 (.ml D acc :: M) → (∀ y d H4, Wf ((y, d) :: F) H4 (.ml D acc :: M) → R (i + 1) (acc ++ [d]) → Ap y H4) → (∀ H3, Wf F H3 (.ml D acc :: M) → R (i + 1) acc → Sk H3) →
      g x (wipe σ xs) H0 fun σ2 H2 => wipe σ2 xs = wipe σ xs ∧ tt σ2 H2 fun b H3 => if b = true then te σ2 H3 Ap else Sk H3)
    (q : ∀ p es H', R n es → Wf F H' (.ml p es :: M) → Q (.ref p) H') : LcGo J g tt te xs σ Q H := by
  intro D nD
  have w0 : Wf F (upd H D (.lst [])) (.ml D [] :: M) := by
    obtain ⟨I, Mc, w, a, hF⟩ := w.ex
    exact ⟨I, _, w.newM nD, .cons (.ml .nil) a, hF⟩
  refine ⟨fun i m H => m = n - i ∧ i ≤ n ∧ ∃ acc, R i acc ∧ acc.length ≤ i ∧ Wf F H (.ml D acc :: M), ⟨n, rfl, Nat.zero_le _, [], h0, Nat.le_refl _, w0⟩, ?_⟩
  rintro i m H ⟨rfl, hi, acc, hR, hl, w⟩
  by_cases hlt : i < n
  · refine .inr ⟨S.go i H _ _ hlt (okm _ _ ok) w, fun H' => ∃ acc, R (i + 1) acc ∧ acc.length ≤ i + 1 ∧ Wf F H' (.ml D acc :: M), fun H' ⟨acc', h1, h2, h3⟩ => ⟨n - (i + 1), by omega, rfl, hlt, acc', h1, h2, h3⟩, fun x H' y => ?_⟩
    refine step i x D acc H' _ _ hlt hR (S.yld i H _ _ x H' hlt (okm _ _ ok) w y) (fun y d H4 w4 r => ?_) fun H3 w3 r => ⟨acc, r, by omega, w3⟩
    obtain ⟨vs, h1, h2⟩ := w4.lstAt List.mem_cons_self
    have w5 : Wf F (upd H4 D (.lst (vs ++ [y]))) (.ml D (acc ++ [d]) :: M) := by
      obtain ⟨I, Mc, w, a, hF⟩ := w4.ex
      cases a with
      | cons h a =>
        cases h with
        | ml b =>
          have := w.at0
          rw [this] at h1
          cases h1
          exact ⟨I, _, w.put0, .cons (.ml (b.app (.one (hF _ List.mem_cons_self)))) a, fun f hf => hF f (List.mem_cons_of_mem _ hf)⟩
    exact ⟨vs, h1, by rw [h2]; exact Nat.lt_of_le_of_lt hl (Nat.lt_of_lt_of_le hlt (Nat.le_trans hn (by decide))), acc ++ [d], r, by rw [List.length_append]; exact Nat.add_le_add_right hl 1, w5⟩
  · have e : i = n := by omega
    subst e
    exact .inl ⟨S.stop H _ _ (okm _ _ ok) w, q D acc H hR w⟩
theorem Rk.more {e : ME} {d : D} (h : Rk F M v d) : Rk F (e :: M) v d := by
  cases h with
  | mem h => exact .mem h
  | int n => exact .int n
  | bl n => exact .bl n
  | str n => exact .str n
  | non => exact .non
  | ml h => exact .ml (List.mem_cons_of_mem _ h)
  | mi h => exact .mi (List.mem_cons_of_mem _ h)
theorem Rk.moreF {f : V × D} {d : D} (h : Rk F M v d) : Rk (f :: F) M v d := by
  cases h with
  | mem h => exact .mem (List.mem_cons_of_mem _ h)
  | int n => exact .int n
  | bl n => exact .bl n
  | str n => exact .str n
  | non => exact .non
  | ml h => exact .ml h
  | mi h => exact .mi h
/-- .. over a list -/
theorem n_lcG {xs : List Nat} (w : Wf F H M) (h : Rk F M v (.lst ds)) (R : Nat → List D → Prop) (h0 : R 0 []) (hn : ds.length ≤ 100000)
    (step : ∀ i d x D acc H0 (Ap : VK) (Sk : Hp → Prop), ds[i]? = some d → R i acc → Wf ((x, d) :: F) H0 (.ml D acc :: M) → (∀ y d H4, Wf ((y, d) :: F) H4 (.ml D acc :: M) → R (i + 1) (acc ++ [d]) → Ap y H4) → (∀ H3, Wf F H3 (.ml D acc :: M) → R (i + 1) acc → Sk H3) →
      g x (wipe σ xs) H0 fun σ2 H2 => wipe σ2 xs = wipe σ xs ∧ tt σ2 H2 fun b H3 => if b = true then te σ2 H3 Ap else Sk H3)
    (q : ∀ p es H', R ds.length es → Wf F H' (.ml p es :: M) → Q (.ref p) H') : ∃ a, v = .ref a ∧ (∃ xs, SqL K H a xs) ∧ LcGo (Itl K a) g tt te xs σ Q H := by
  obtain ⟨I, Mc, p, vs, rfl, w1, ac, hF, hp, b⟩ := w.lstE h
  refine ⟨p, rfl, ⟨vs, .inl (.inl hp)⟩, n_lcJ src_list w h (fun D acc h => h.more) R h0 hn (fun i x D acc H0 Ap Sk hi hR w k1 k2 => ?_) q⟩
  have e1 : ds[i]? = some ds[i] := List.getElem?_eq_getElem hi
  rw [getD_of e1] at w
  exact step i _ x D acc H0 Ap Sk e1 hR w k1 k2
theorem n_lcZ {xs : List Nat} (w : Wf F H M) (h : Rk F M v (.lst ds)) (h' : Rk F M u (.lst es)) (R : Nat → List D → Prop) (h0 : R 0 []) (hn : ds.length ≤ 100000)
    (step : ∀ i d e x D acc H0 (Ap : VK) (Sk : Hp → Prop), ds[i]? = some d → es[i]? = some e → R i acc → Wf ((x, .tup [d, e]) :: F) H0 (.ml D acc :: M) → (∀ y d H4, Wf ((y, d) :: F) H4 (.ml D acc :: M) → R (i + 1) (acc ++ [d]) → Ap y H4) → (∀ H3, Wf F H3 (.ml D acc :: M) → R (i + 1) acc → Sk H3) →
      g x (wipe σ xs) H0 fun σ2 H2 => wipe σ2 xs = wipe σ xs ∧ tt σ2 H2 fun b H3 => if b = true then te σ2 H3 Ap else Sk H3)
    (q : ∀ p es' H', R (min ds.length es.length) es' → Wf F H' (.ml p es' :: M) → Q (.ref p) H') : ∃ a b xs' ys, [v, u] = [V.ref a, .ref b] ∧ SqL K H a xs' ∧ SqL K H b ys ∧ LcGo (Itz K a b) g tt te xs σ Q H := by
  obtain ⟨I, Mc, w1, ac, hF⟩ := w.ex
  obtain ⟨p, vs, rfl, hp, b1⟩ := h.lst w1 ac hF
  obtain ⟨p', us, rfl, hq, b2⟩ := h'.lst w1 ac hF
  refine ⟨p, p', vs, us, rfl, .inl (.inl hp), .inl (.inl hq), n_lcJ src_zip w ⟨h, h'⟩ (fun D acc h => ⟨h.1.more, h.2.more⟩) R h0 (by omega) (fun i x D acc H0 Ap Sk hi hR w k1 k2 => ?_) q⟩
  have h1 : i < ds.length := by omega
  have h2 : i < es.length := by omega
  have e1 : ds[i]? = some ds[i] := List.getElem?_eq_getElem h1
  have e2 : es[i]? = some es[i] := List.getElem?_eq_getElem h2
  rw [getD_of e1, getD_of e2] at w
  exact step i _ _ x D acc H0 Ap Sk e1 e2 hR w k1 k2
theorem n_lcE {xs : List Nat} (w : Wf F H M) (h : Rk F M v (.lst ds)) (R : Nat → List D → Prop) (h0 : R 0 []) (hn : ds.length ≤ 100000)
    (step : ∀ i d x D acc H0 (Ap : VK) (Sk : Hp → Prop), ds[i]? = some d → R i acc → Wf ((x, .tup [.int (i : Nat), d]) :: F) H0 (.ml D acc :: M) → (∀ y d H4, Wf ((y, d) :: F) H4 (.ml D acc :: M) → R (i + 1) (acc ++ [d]) → Ap y H4) → (∀ H3, Wf F H3 (.ml D acc :: M) → R (i + 1) acc → Sk H3) →
      g x (wipe σ xs) H0 fun σ2 H2 => wipe σ2 xs = wipe σ xs ∧ tt σ2 H2 fun b H3 => if b = true then te σ2 H3 Ap else Sk H3)
    (q : ∀ p es H', R ds.length es → Wf F H' (.ml p es :: M) → Q (.ref p) H') : ∃ a xs', [v] = [V.ref a] ∧ SqL K H a xs' ∧ LcGo (Ite K a) g tt te xs σ Q H := by
  obtain ⟨I, Mc, p, vs, rfl, w1, ac, hF, hp, b⟩ := w.lstE h
  refine ⟨p, vs, rfl, .inl (.inl hp), n_lcJ src_enum w h (fun D acc h => h.more) R h0 hn (fun i x D acc H0 Ap Sk hi hR w k1 k2 => ?_) q⟩
  have e1 : ds[i]? = some ds[i] := List.getElem?_eq_getElem hi
  rw [getD_of e1] at w
  exact step i _ x D acc H0 Ap Sk e1 hR w k1 k2
theorem n_lcN {xs : List Nat} {lo : Int} (w : Wf F H M) (R : Nat → List D → Prop) (h0 : R 0 []) (hn : n ≤ 100000)
    (step : ∀ i D acc H0 (Ap : VK) (Sk : Hp → Prop), i < n → R i acc → Wf F H0 (.ml D acc :: M) → (∀ y d H4, Wf ((y, d) :: F) H4 (.ml D acc :: M) → R (i + 1) (acc ++ [d]) → Ap y H4) → (∀ H3, Wf F H3 (.ml D acc :: M) → R (i + 1) acc → Sk H3) →
      g (.int (lo + i)) (wipe σ xs) H0 fun σ2 H2 => wipe σ2 xs = wipe σ xs ∧ tt σ2 H2 fun b H3 => if b = true then te σ2 H3 Ap else Sk H3)
    (q : ∀ p es H', R n es → Wf F H' (.ml p es :: M) → Q (.ref p) H') : LcGo (Itr lo n) g tt te xs σ Q H :=
  n_lcJ src_range w trivial (fun _ _ _ => trivial) R h0 hn (fun i x D acc H0 Ap Sk hi hR w k1 k2 => by
    have w2 := w.eq0.2
    rw [w.eq0.1]
    exact step i D acc H0 Ap Sk hi hR w2 k1 k2) q
-- ints in lists
theorem Wf.ints {ns : List Int} (w : Wf F H M) (h : Rk F M v (.lst (ns.map D.int))) : ∃ p, v = .ref p ∧ H p = some (.lst (ns.map V.int)) := by
  obtain ⟨I, Mc, p, vs, rfl, w1, ac, hF, hp, b⟩ := w.lstE h
  exact ⟨p, rfl, by rw [hp, b.ints_eq]⟩
theorem n_min {ns : List Int} (w : Wf F H M) (h : Rk F M v (.lst (ns.map D.int))) (h0 : 0 < ns.length) (q : ∀ m, m ∈ ns → (∀ y ∈ ns, m ≤ y) → Q (.int m) H) : rMinU K [v] H Q := by
  obtain ⟨p, rfl, hp⟩ := w.ints h
  exact .inr ⟨p, ns, rfl, .inl (.inl hp), h0, q⟩
theorem n_max {ns : List Int} (w : Wf F H M) (h : Rk F M v (.lst (ns.map D.int))) (h0 : 0 < ns.length) (q : ∀ m, m ∈ ns → (∀ y ∈ ns, y ≤ m) → Q (.int m) H) : rMaxU K [v] H Q := by
  obtain ⟨p, rfl, hp⟩ := w.ints h
  exact .inr ⟨p, ns, rfl, .inl (.inl hp), h0, q⟩
theorem n_sum {ns : List Int} (w : Wf F H M) (h : Rk F M v (.lst (ns.map D.int))) (q : Q (.int ns.sum) H) : rSum K [v] H Q := by
  obtain ⟨p, rfl, hp⟩ := w.ints h
  exact ⟨p, ns, rfl, .inl (.inl hp), q⟩
theorem n_sorted {ns : List Int} (w : Wf F H M) (h : Rk F M v (.lst (ns.map D.int))) (q : ∀ (ms : List Int) p H', ms.Perm ns → ms.Pairwise (· ≤ ·) → Wf F H' (.ml p (ms.map D.int) :: M) → Q (.ref p) H') : rSortedI K [v] H Q := by
  obtain ⟨p, rfl, hp⟩ := w.ints h
  refine ⟨p, ns, rfl, .inl (.inl hp), fun ms p h1 h2 h3 => q ms p _ h1 h2 ?_⟩
  obtain ⟨I, Mc, w, a, hF⟩ := w.ex
  exact ⟨I, _, w.newM h3, .cons (.ml (IsA.ints ms)) a, hF⟩
theorem IsA.flat {I : Hp} {vs : List V} (a : IsA I vs ds) : ∀ n : Nat, IsA I (List.replicate n vs).flatten (List.replicate n ds).flatten
  | 0 => .nil
  | n + 1 => by
    rw [List.replicate_succ, List.replicate_succ, List.flatten_cons, List.flatten_cons]
    exact a.app (IsA.flat a n)
theorem flat_one {α : Type} (x : α) : ∀ n : Nat, (List.replicate n [x]).flatten = List.replicate n x
  | 0 => rfl
  | n + 1 => by rw [List.replicate_succ, List.flatten_cons, flat_one x n]; rfl
theorem n_rep {k : Int} (w : Wf F H M) (h : Rk F M v (.lst ds)) (h1 : -(2 ^ 63) ≤ k) (h2 : k < 2 ^ 63) (hz : ds.length * k.toNat ≤ 100000) (q : ∀ p H', Wf F H' (.ml p (List.replicate k.toNat ds).flatten :: M) → Q (.ref p) H') : rMulU v (.int k) H Q := by
  obtain ⟨I, Mc, p, vs, rfl, w1, ac, hF, hp, b⟩ := w.lstE h
  exact .inr ⟨p, k, vs, rfl, rfl, hp, h1, h2, by rw [b.length]; exact Nat.le_trans hz (by decide), fun l hl => q l _ ⟨I, _, w1.newM hl, .cons (.ml (b.flat _)) ac, hF⟩⟩
/-- [d] * k -/
theorem n_rep1 {k : Int} {d : D} (w : Wf F H M) (h : Rk F M v (.lst [d])) (h1 : 0 ≤ k) (h2 : k ≤ 100000) (q : ∀ p H', Wf F H' (.ml p (List.replicate k.toNat d) :: M) → Q (.ref p) H') : rMulU v (.int k) H Q :=
  n_rep w h (by omega) (by omega) (by rw [List.length_singleton]; omega) fun p H' w => q p H' (by rw [flat_one] at w; exact w)
def rTupOf (K : PySem.W.Frag) : List V → Hp → VK → Prop := fun xs H Q => ∃ p ys, xs = [.ref p] ∧ ((SqL K H p ys ∧ ∀ l, H l = none → Q (.ref l) (upd H l (.tup ys))) ∨ (SqT K H p ys ∧ Q (.ref p) H))
theorem k_tuple {X : Cx} (h : X.K = K) : CallR X (.type "tuple") (rTupOf K) := h ▸ call_tuple_of
theorem n_tupL (w : Wf F H M) (h : Rk F M v (.lst ds)) (q : ∀ p H', Wf ((.ref p, .tup ds) :: F) H' M → Q (.ref p) H') : rTupOf K [v] H Q := by
  obtain ⟨I, Mc, p, vs, rfl, w1, ac, hF, hp, b⟩ := w.lstE h
  exact ⟨p, vs, rfl, .inl ⟨.inl (.inl hp), fun l hl => q l _ (.cons (w1.newI hl) (ac.mono (w1.same hl)) (fun f hf => (hF f hf).mono (w1.same hl)) (.tup upd_same (b.mono (w1.same hl))))⟩⟩
-- dicts with tuples as keys
def keyD : Key → D
  | .inl i => .int i
  | .inr x => .str x
def getP {κ : Type} [DecidableEq κ] (kvs : List (κ × D)) (k : κ) : Option D := (kvs.find? fun kv => decide (kv.1 = k)).map (·.2)
def putP {κ : Type} [DecidableEq κ] (kvs : List (κ × D)) (k : κ) (d : D) : List (κ × D) :=
  if (kvs.any fun kv => decide (kv.1 = k)) = true then kvs.map (fun kv => if kv.1 = k then (kv.1, d) else kv) else kvs ++ [(k, d)]
theorem IsP.length {I : Hp} {κ : Type} : ∀ {vs : List (κ × V)} {ds : List (κ × D)}, IsP I vs ds → vs.length = ds.length
  | _, _, .nil => rfl
  | _, _, .cons _ a => by rw [List.length_cons, List.length_cons, a.length]
theorem IsP.app {I : Hp} {κ : Type} {us : List (κ × V)} {es : List (κ × D)} (b : IsP I us es) : ∀ {vs : List (κ × V)} {ds : List (κ × D)}, IsP I vs ds → IsP I (vs ++ us) (ds ++ es)
  | _, _, .nil => b
  | _, _, .cons h a => .cons h (IsP.app b a)
theorem IsP.get {I : Hp} {κ : Type} [DecidableEq κ] {k : κ} : ∀ {vs : List (κ × V)} {ds : List (κ × D)}, IsP I vs ds → (getP ds k = none ∧ valV vs k = none) ∨ ∃ v d, valV vs k = some v ∧ getP ds k = some d ∧ Is I v d
  | _, _, .nil => .inl ⟨rfl, rfl⟩
  | _, _, .cons (f := f) h a => by
    by_cases e : f = k
    · exact .inr ⟨_, _, by simp [valV, List.find?_cons, e], by simp [getP, List.find?_cons, e], h⟩
    · rcases IsP.get (k := k) a with ⟨h1, h2⟩ | ⟨v, d, h1, h2, h3⟩
      · exact .inl ⟨by simpa [getP, List.find?_cons, e] using h1, by simpa [valV, List.find?_cons, e] using h2⟩
      · exact .inr ⟨v, d, by simpa [valV, List.find?_cons, e] using h1, by simpa [getP, List.find?_cons, e] using h2, h3⟩
theorem IsP.any {I : Hp} {κ : Type} [DecidableEq κ] {k : κ} : ∀ {vs : List (κ × V)} {ds : List (κ × D)}, IsP I vs ds → (vs.any fun kv => decide (kv.1 = k)) = ds.any fun kv => decide (kv.1 = k)
  | _, _, .nil => rfl
  | _, _, .cons h a => by rw [List.any_cons, List.any_cons, IsP.any a]
theorem IsP.mapP {I : Hp} {κ : Type} [DecidableEq κ] {k : κ} {v : V} {d : D} (h : Is I v d) : ∀ {vs : List (κ × V)} {ds : List (κ × D)}, IsP I vs ds → IsP I (vs.map fun kv => if kv.1 = k then (kv.1, v) else kv) (ds.map fun kv => if kv.1 = k then (kv.1, d) else kv)
  | _, _, .nil => .nil
  | _, _, .cons (f := f) h' a => by
    rw [List.map_cons, List.map_cons]
    by_cases e : f = k
    · simp only [e, if_true]; exact .cons h (IsP.mapP h a)
    · simp only [e, if_false]; exact .cons h' (IsP.mapP h a)
theorem IsP.put {I : Hp} {κ : Type} [DecidableEq κ] {k : κ} {v : V} {d : D} (h : Is I v d) {vs : List (κ × V)} {ds : List (κ × D)} (a : IsP I vs ds) : IsP I (putK vs k v) (putP ds k d) := by
  unfold putK putP
  rw [a.any]
  split
  · exact a.mapP h
  · exact IsP.app (.cons h .nil) a
theorem isA_keys {I : Hp} : ∀ {k : List Key} {vs : List V}, IsA I vs (k.map keyD) → vs = k.map kV
  | [], _, h => by cases h; rfl
  | k :: r, _, h => by
    cases h with
    | cons h a =>
      rw [isA_keys a]
      cases k with
      | inl i => rw [h.int_eq]; rfl
      | inr i => rw [h.str_eq]; rfl
def DGetQ (Q : VK) (x y : V) (H : Hp) : Prop := ∃ a v, x = .ref a ∧ DGet H a y (some v) ∧ Q v H
def DInQ (P : Bool → Prop) (x y : V) (H : Hp) : Prop := ∃ a o, x = .ref a ∧ DGet H a y o ∧ P o.isSome
def DPutQ (P : Hp → Prop) (x y v : V) (H : Hp) : Prop := ∃ a H4, x = .ref a ∧ DPut H a y v H4 ∧ P H4
theorem s_dget {td ty : TE} (h : td σ H fun x H1 => ty σ H1 fun y H2 => DGetQ Q x y H2) : tDGet td ty σ H Q := h
theorem s_din {td ty : TE} (h : ty σ H fun y H1 => td σ H1 fun x H2 => DInQ (fun b => Q (.bl b) H2) x y H2) : tDIn ty td σ H Q := h
theorem s_dnotin {td ty : TE} (h : ty σ H fun y H1 => td σ H1 fun x H2 => DInQ (fun b => Q (.bl (!b)) H2) x y H2) : tDNotIn ty td σ H Q := h
theorem s_dput {td ty tv : TE} (h : tv σ H fun v H1 => td σ H1 fun x H2 => ty σ H2 fun y H3 => DPutQ (fun H4 => G.nx σ H4) x y v H3) : sDPut td ty tv G σ H := h
theorem s_dnewT (w : Wf F H M) (q : ∀ p H', Wf F H' (.dt p [] :: M) → Q (.ref p) H') : tDNewT σ H Q := fun p hp => by
  obtain ⟨I, Mc, w, a, hF⟩ := w.ex
  exact q p _ ⟨I, _, w.newM hp, .cons (.dt .nil) a, hF⟩
theorem s_dnewK (w : Wf F H M) (q : ∀ p H', Wf F H' (.dk p [] :: M) → Q (.ref p) H') : tDNewK σ H Q := fun p hp => by
  obtain ⟨I, Mc, w, a, hF⟩ := w.ex
  exact q p _ ⟨I, _, w.newM hp, .cons (.dk .nil) a, hF⟩
theorem Wf.keyT {k : List Key} (w : Wf F H M) (h : Rk F M y (.tup (k.map keyD))) : ∃ b, y = .ref b ∧ H b = some (.tup (k.map kV)) := by
  obtain ⟨I, Mc, w, a, hF⟩ := w.ex
  obtain ⟨p, vs, rfl, hp, b⟩ := h.tup w a hF
  exact ⟨p, rfl, by rw [hp, isA_keys b]⟩
theorem Wf.dtAt {p : Addr} {kvs : List (List Key × D)} (w : Wf F H M) (h : .dt p kvs ∈ M) : ∃ I Mc vs, W I H Mc ∧ CnA I M Mc ∧ (∀ f ∈ F, Is I f.1 f.2) ∧ H p = some (.dT vs) ∧ IsP I vs kvs := by
  obtain ⟨I, Mc, w, a, hF⟩ := w.ex
  obtain ⟨m, h1, h2⟩ := a.mem h
  cases h2 with
  | dt b => exact ⟨I, Mc, _, w, a, hF, (w.mu _ h1).1, b⟩
theorem n_dinT {P : Bool → Prop} {p : Addr} {kvs : List (List Key × D)} {k : List Key} (w : Wf F H M) (h : .dt p kvs ∈ M) (hy : Rk F M y (.tup (k.map keyD))) (q : P (getP kvs k).isSome) : DInQ P (.ref p) y H := by
  obtain ⟨b, rfl, hb⟩ := w.keyT hy
  obtain ⟨I, Mc, vs, w, a, hF, hp, ha⟩ := w.dtAt h
  refine ⟨p, _, rfl, DGet.t hp hb, ?_⟩
  rcases ha.get (k := k) with ⟨h1, h2⟩ | ⟨v, d, h1, h2, h3⟩
  · rw [h2]; rw [h1] at q; exact q
  · rw [h1]; rw [h2] at q; exact q
theorem n_dgetT {p : Addr} {kvs : List (List Key × D)} {k : List Key} {d : D} (w : Wf F H M) (h : .dt p kvs ∈ M) (hy : Rk F M y (.tup (k.map keyD))) (hd : getP kvs k = some d) (q : ∀ u, Wf ((u, d) :: F) H M → Q u H) : DGetQ Q (.ref p) y H := by
  obtain ⟨b, rfl, hb⟩ := w.keyT hy
  obtain ⟨I, Mc, vs, w, a, hF, hp, ha⟩ := w.dtAt h
  rcases ha.get (k := k) with ⟨h1, h2⟩ | ⟨v, d', h1, h2, h3⟩
  · rw [h1] at hd; cases hd
  · rw [h2] at hd; cases hd
    exact ⟨p, v, rfl, h1 ▸ DGet.t hp hb, q v (.cons w a hF h3)⟩
theorem n_dputT {P : Hp → Prop} {p : Addr} {kvs : List (List Key × D)} {k : List Key} {d : D} (w : Wf F H M) (f : Foc M (.dt p kvs) M' (.dt p (putP kvs k d))) (hy : Rk F M y (.tup (k.map keyD))) (hv : Kn F v d) (hl : kvs.length ≤ 100000) (q : ∀ H', Wf F H' M' → P H') : DPutQ P (.ref p) y v H := by
  obtain ⟨b, rfl, hb⟩ := w.keyT hy
  obtain ⟨I, Mc, w, a, hF⟩ := w.ex
  obtain ⟨M1, m, M2, rfl, h3, h4⟩ := a.foc f
  cases h3 with
  | dt ha => exact ⟨p, _, rfl, DPut.t w.at hb (by rw [ha.length]; exact Nat.lt_of_le_of_lt hl (by decide)), q _ ⟨I, _, w.put, h4 I _ (Same.refl _) (.dt (ha.put (hv.is hF))), hF⟩⟩
-- keys are ints and texts
theorem Wf.keyK {k : Key} (w : Wf F H M) (h : Rk F M y (keyD k)) : y = kV k := by
  have := w.rd h
  cases k with
  | inl i => exact this.int_eq
  | inr i => exact this.str_eq
theorem Wf.dkAt {p : Addr} {kvs : List (Key × D)} (w : Wf F H M) (h : .dk p kvs ∈ M) : ∃ I Mc vs, W I H Mc ∧ CnA I M Mc ∧ (∀ f ∈ F, Is I f.1 f.2) ∧ H p = some (.dK vs) ∧ IsP I vs kvs := by
  obtain ⟨I, Mc, w, a, hF⟩ := w.ex
  obtain ⟨m, h1, h2⟩ := a.mem h
  cases h2 with
  | dk b => exact ⟨I, Mc, _, w, a, hF, (w.mu _ h1).1, b⟩
theorem n_dinK {P : Bool → Prop} {p : Addr} {kvs : List (Key × D)} {k : Key} (w : Wf F H M) (h : .dk p kvs ∈ M) (hy : Rk F M y (keyD k)) (q : P (getP kvs k).isSome) : DInQ P (.ref p) y H := by
  cases w.keyK hy
  obtain ⟨I, Mc, vs, w, a, hF, hp, ha⟩ := w.dkAt h
  refine ⟨p, _, rfl, DGet.k hp, ?_⟩
  rcases ha.get (k := k) with ⟨h1, h2⟩ | ⟨v, d, h1, h2, h3⟩
  · rw [h2]; rw [h1] at q; exact q
  · rw [h1]; rw [h2] at q; exact q
theorem n_dgetK {p : Addr} {kvs : List (Key × D)} {k : Key} {d : D} (w : Wf F H M) (h : .dk p kvs ∈ M) (hy : Rk F M y (keyD k)) (hd : getP kvs k = some d) (q : ∀ u, Wf ((u, d) :: F) H M → Q u H) : DGetQ Q (.ref p) y H := by
  cases w.keyK hy
  obtain ⟨I, Mc, vs, w, a, hF, hp, ha⟩ := w.dkAt h
  rcases ha.get (k := k) with ⟨h1, h2⟩ | ⟨v, d', h1, h2, h3⟩
  · rw [h1] at hd; cases hd
  · rw [h2] at hd; cases hd
    exact ⟨p, v, rfl, h1 ▸ DGet.k hp, q v (.cons w a hF h3)⟩
theorem n_dputK {P : Hp → Prop} {p : Addr} {kvs : List (Key × D)} {k : Key} {d : D} (w : Wf F H M) (f : Foc M (.dk p kvs) M' (.dk p (putP kvs k d))) (hy : Rk F M y (keyD k)) (hv : Kn F v d) (hl : kvs.length ≤ 100000) (q : ∀ H', Wf F H' M' → P H') : DPutQ P (.ref p) y v H := by
  cases w.keyK hy
  obtain ⟨I, Mc, w, a, hF⟩ := w.ex
  obtain ⟨M1, m, M2, rfl, h3, h4⟩ := a.foc f
  cases h3 with
  | dk ha => exact ⟨p, _, rfl, DPut.k w.at (by rw [ha.length]; exact Nat.lt_of_le_of_lt hl (by decide)), q _ ⟨I, _, w.put, h4 I _ (Same.refl _) (.dk (ha.put (hv.is hF))), hF⟩⟩
end
theorem hu1 {n : Nat} (h : n + 64 < cLine) : n + 1 < cLine := by omega
theorem k_sorted {X : Cx} {K : PySem.W.Frag} (h : X.K = K) : CallR X (.builtin "sorted") (rSortedI K) := h ▸ cr_sortedI
theorem ps_augLS {X : Cx} {pos : Pos} {o i e : Expr} {to ti te : TE} {tpos : Pos} (ho : PE X o to) (hi : PE X i ti) (he : PE X e te)
    (ha : ∀ ov iv new, augStore i ov iv new = (do holding [new, ov, iv] (setItem ov iv new); release [new, ov, iv] []; pure .next) := by intros; rfl) : PS X (.AugAssign (.Subscript o i tpos) .Sub e pos) (tAugS to ti te (rIxL X.K) (ipI fun i j => i - j) rSetL) :=
  ps_augS ho hi get_list he ip_sub set_list ha
section
variable {K : PySem.W.Frag} {σ : L2.St} {H : Hp} {F : List (V × D)} {M M' : List ME} {Q : VK} {G : Ends} {v u x y : V} {ds es : List D} {tb : TS} {c : TT} {i : Int}
/-- while, by any measure -/
theorem n_whileG (w : Wf F H M) (R : Nat → L2.St → List (V × D) → List ME → Prop) (m : Nat) (h0 : R m σ F M)
    (step : ∀ m σ H F M, R m σ F M → Wf F H M → c σ H fun b H1 => if b = true then ∃ N : L2.St → Hp → Prop, (∀ σ' H', N σ' H' → ∃ m', m' < m ∧ LI (R m') σ' H') ∧ tb { G with nx := N, ct := N, bk := G.nx } σ H1 else G.nx σ H1) : tWhile c tb G σ H :=
  ⟨fun m σ H => LI (R m) σ H, ⟨m, F, M, h0, w⟩, fun m σ H ⟨F, M, hR, w⟩ => step m σ H F M hR w⟩
theorem n_wG {R : Nat → L2.St → List (V × D) → List ME → Prop} {m : Nat} {σ1 : L2.St} (h : tb { G with nx := fun σ' H' => ∃ m', m' < m ∧ LI (R m') σ' H', ct := fun σ' H' => ∃ m', m' < m ∧ LI (R m') σ' H', bk := G.nx } σ1 H) :
    ∃ N : L2.St → Hp → Prop, (∀ σ' H', N σ' H' → ∃ m', m' < m ∧ LI (R m') σ' H') ∧ tb { G with nx := N, ct := N, bk := G.nx } σ1 H := ⟨_, fun _ _ h => h, h⟩
theorem n_ixN {ns : List Int} {j : Nat} (w : Wf F H M) (h : Rk F M v (.lst (ns.map D.int))) (hi : i = (j : Int)) (hj : j < ns.length) (q : Q (.int (ns.getD j 0)) H) : rIx K v (.int i) H Q := by
  subst hi
  refine n_ixInts w h (by omega) (by omega) fun n hn => ?_
  rw [Int.toNat_natCast] at hn
  rw [List.getD_eq_getElem?_getD, hn] at q
  exact q
/-- an item of a list made from another one -/
theorem n_ixM {α : Type} {f : α → D} {l : List α} {z : α} {j : Nat} (w : Wf F H M) (h : Rk F M v (.lst (l.map f))) (hi : i = (j : Int)) (hj : j < l.length) (q : ∀ u, Wf ((u, f (l.getD j z)) :: F) H M → Q u H) : rIx K v (.int i) H Q := by
  subst hi
  refine n_ixAny w h (by omega) (by rw [List.length_map]; omega) fun d u hd w => ?_
  rw [Int.toNat_natCast, List.getElem?_map, List.getElem?_eq_getElem hj] at hd
  cases hd
  have e : l.getD j z = l[j] := by rw [List.getD_eq_getElem?_getD, List.getElem?_eq_getElem hj]; rfl
  rw [← e] at w
  exact q u w
theorem ixN_of {n j : Nat} (h : j < n) : ixN n (j : Int) = some j := by
  have := atI_nat (xs := List.range n) (List.getElem?_range h)
  unfold atI at this
  rw [List.length_range] at this
  cases e : ixN n (j : Int) with
  | none => rw [e] at this; cases this
  | some k =>
    rw [e] at this
    have h2 : (List.range n)[k]? = some j := this
    by_cases hk : k < n
    · rw [List.getElem?_range hk] at h2; exact h2
    · rw [List.getElem?_eq_none (by rw [List.length_range]; omega)] at h2; cases h2
theorem atI_head {α : Type} {x : α} {l : List α} : atI (x :: l) 0 = some x := atI_nat (j := 0) rfl
theorem map_get {α β : Type} {f : α → β} {l : List α} {i : Nat} {d : β} (h : (l.map f)[i]? = some d) : ∃ x, l[i]? = some x ∧ d = f x := by
  rw [List.getElem?_map] at h
  cases e : l[i]? with
  | none => rw [e] at h; cases h
  | some x => rw [e] at h; exact ⟨x, rfl, (Option.some.inj h).symm⟩
theorem Wf.non0 (w : Wf ((v, .non) :: F) H M) : v = .non ∧ Wf F H M := ⟨(w.rd (.mem List.mem_cons_self) : Is H v .non).non_eq, w.tail⟩
theorem Wf.bl0 {b : Bool} (w : Wf ((v, .bl b) :: F) H M) : v = .bl b ∧ Wf F H M := ⟨(w.rd (.mem List.mem_cons_self) : Is H v (.bl b)).bl_eq, w.tail⟩
theorem Wf.str0 {b : Str} (w : Wf ((v, .str b) :: F) H M) : v = .str b ∧ Wf F H M := ⟨(w.rd (.mem List.mem_cons_self) : Is H v (.str b)).str_eq, w.tail⟩
theorem Wf.ref0 {b : Addr} (w : Wf ((v, .ref b) :: F) H M) : v = .ref b ∧ Wf F H M := ⟨(w.rd (.mem List.mem_cons_self) : Is H v (.ref b)).ref_eq, w.tail⟩
theorem Wf.tup0 (w : Wf ((v, .tup ds) :: F) H M) : ∃ p, v = .ref p := by
  obtain ⟨p, _, e, _⟩ := (w.rd (.mem List.mem_cons_self) : Is H v (.tup ds)).tup_ex
  exact ⟨p, e⟩
theorem Wf.lst0 (w : Wf ((v, .lst ds) :: F) H M) : ∃ p, v = .ref p := by
  obtain ⟨p, _, e, _⟩ := (w.rd (.mem List.mem_cons_self) : Is H v (.lst ds)).lst_ex
  exact ⟨p, e⟩
theorem n_gtup4i {gs : TGs} {T : L2.St → Hp → Prop} {a b c : Int} {d3 : D} (w : Wf F H M) (h : Rk F M v (.tup [.int a, .int b, .int c, d3])) (q : ∀ u, Wf ((u, d3) :: F) H M → gs [.int a, .int b, .int c, u] σ H T) : gTup K 4 gs v σ H T :=
  n_gtup4 w h fun x y z u w => by
    rw [w.eq0.1, w.eq0.2.eq0.1, w.eq0.2.eq0.2.eq0.1]
    exact q u w.eq0.2.eq0.2.eq0.2
theorem take_flat {α β : Type} {f : α → List β} {l : List α} {i : Nat} {x : α} (h : l[i]? = some x) : (l.take (i + 1)).flatMap f = (l.take i).flatMap f ++ f x := by
  rw [List.take_add_one, h, List.flatMap_append]
  simp
theorem take_snoc {α : Type} {l : List α} {i : Nat} {x : α} (h : l[i]? = some x) : l.take (i + 1) = l.take i ++ [x] := by
  rw [List.take_add_one, h]
  rfl
end
def oD : Option Int → D
  | none => .non
  | some k => .int k
def oV : Option Int → V
  | none => .non
  | some k => .int k
theorem Kn.oV {F : List (V × D)} (m : Option Int) : Kn F (oV m) (oD m) := by
  cases m with
  | none => exact .non
  | some k => exact .int k
/-- [e for x in xs], e told by f -/
theorem n_lcMap {α : Type} {K : PySem.W.Frag} {σ : L2.St} {H : Hp} {F : List (V × D)} {M : List ME} {Q : VK} {v : V} {te : TE} {xs : List Nat} {k : Nat} {g f : α → D} {l : List α} (w : Wf F H M) (h : Rk F M v (.lst (l.map g))) (hn : l.length ≤ 100000)
    (hw : ∀ v, wipe ((wipe σ xs).set k (some v)) xs = wipe σ xs)
    (step : ∀ x y D acc H0 C, x ∈ l → Wf ((y, g x) :: F) H0 (.ml D acc :: M) → (∀ z H4, Wf ((z, f x) :: F) H4 (.ml D acc :: M) → C z H4) → te ((wipe σ xs).set k (some y)) H0 C)
    (q : ∀ p H', Wf F H' (.ml p (l.map f) :: M) → Q (.ref p) H') :
    ∃ a, v = .ref a ∧ (∃ xs, SqL K H a xs) ∧ LcGo (Itl K a) (gName k) tYes te xs σ Q H := by
  refine n_lcL w h (fun i d => ∃ x, l[i]? = some x ∧ d = f x) (by rw [List.length_map]; exact hn) hw (fun i y d D acc H0 C hd w kc => ?_) fun p es H' hl hP w => ?_
  · obtain ⟨x, hx, rfl⟩ := map_get hd
    exact step x y D acc H0 C (List.mem_of_getElem? hx) w fun z H4 w4 => kc z _ H4 w4 ⟨x, hx, rfl⟩
  · have e : es = l.map f := by
      rw [List.length_map] at hl
      apply List.ext_getElem (by rw [List.length_map]; exact hl)
      intro i h1 h2
      obtain ⟨x, hx, e⟩ := hP i _ (List.getElem?_eq_getElem h1)
      rw [List.getElem_map, e]
      have h3 : i < l.length := by omega
      rw [List.getElem?_eq_getElem h3] at hx
      cases hx
      rfl
    rw [e] at w
    exact q p H' w
theorem n_lcMapI {α : Type} {K : PySem.W.Frag} {σ : L2.St} {H : Hp} {F : List (V × D)} {M : List ME} {Q : VK} {v : V} {te : TE} {xs : List Nat} {k : Nat} {g : α → D} {f : α → Int} {l : List α} (w : Wf F H M) (h : Rk F M v (.lst (l.map g))) (hn : l.length ≤ 100000)
    (hw : ∀ v, wipe ((wipe σ xs).set k (some v)) xs = wipe σ xs)
    (step : ∀ x y D acc H0 C, x ∈ l → Wf ((y, g x) :: F) H0 (.ml D acc :: M) → (∀ H4, Wf F H4 (.ml D acc :: M) → C (.int (f x)) H4) → te ((wipe σ xs).set k (some y)) H0 C)
    (q : ∀ p H', Wf F H' (.ml p ((l.map f).map D.int) :: M) → Q (.ref p) H') :
    ∃ a, v = .ref a ∧ (∃ xs, SqL K H a xs) ∧ LcGo (Itl K a) (gName k) tYes te xs σ Q H :=
  n_lcMap (f := fun x => .int (f x)) w h hn hw (fun x y D acc H0 C hx w kc => step x y D acc H0 C hx w fun H4 w4 => kc _ H4 (w4.add (.int _))) fun p H' w => q p H' (by rw [List.map_map]; exact w)
theorem n_gtup5 {K : PySem.W.Frag} {σ : L2.St} {H : Hp} {F : List (V × D)} {M : List ME} {v : V} {gs : TGs} {T : L2.St → Hp → Prop} {d0 d1 d2 d3 d4 : D} (w : Wf F H M) (h : Rk F M v (.tup [d0, d1, d2, d3, d4])) (q : ∀ x y z u t, Wf ((x, d0) :: (y, d1) :: (z, d2) :: (u, d3) :: (t, d4) :: F) H M → gs [x, y, z, u, t] σ H T) : gTup K 5 gs v σ H T :=
  n_gtup w h rfl fun I Mc xs w a hF b => by
    cases b with | cons h0 b =>
    cases b with | cons h1 b =>
    cases b with | cons h2 b =>
    cases b with | cons h3 b =>
    cases b with | cons h4 b =>
    cases b
    refine q _ _ _ _ _ ⟨I, Mc, w, a, fun f hf => ?_⟩
    rcases List.mem_cons.mp hf with rfl | hf
    · exact h0
    rcases List.mem_cons.mp hf with rfl | hf
    · exact h1
    rcases List.mem_cons.mp hf with rfl | hf
    · exact h2
    rcases List.mem_cons.mp hf with rfl | hf
    · exact h3
    rcases List.mem_cons.mp hf with rfl | hf
    · exact h4
    · exact hF f hf
/-- a row of a part: four ints and a greatest -/
theorem n_gtupRow {K : PySem.W.Frag} {σ : L2.St} {H : Hp} {F : List (V × D)} {M : List ME} {v : V} {gs : TGs} {T : L2.St → Hp → Prop} {b l w s : Int} {g : D} (ww : Wf F H M) (h : Rk F M v (.tup [.int b, .int l, g, .int w, .int s])) (q : ∀ u, Wf ((u, g) :: F) H M → gs [.int b, .int l, u, .int w, .int s] σ H T) : gTup K 5 gs v σ H T :=
  n_gtup5 ww h fun x y z u t w2 => by
    rw [w2.int_eq (v := x) (n := b) (.mem (by simp)), w2.int_eq (v := y) (n := l) (.mem (by simp)), w2.int_eq (v := u) (n := w) (.mem (by simp)), w2.int_eq (v := t) (n := s) (.mem (by simp))]
    exact q z (w2.sub (KS.cons (.mem (by simp)) (KS.drop (KS.drop (KS.drop (KS.drop (KS.drop KS.refl)))))) (.refl _))
end Fs

namespace Fs
open PySem PySem.Spec PyProof.Rows L2
/-! ### defs that may raise -/
structure CalX (P : Program) (w : World) (K : PySem.W.Frag) (mg : Str → Option Value) (base : Heap) (x : Str) (k : Nat) (ps : List Str) (dvs : List V) (sp : Sp) : Prop where
  ex : ∃ (f : Addr) (fd : FuncData) (ds : List Value), FnOk P w K mg base (L2.CX P w) k f fd ps sp ∧ mg x = some (.ref f) ∧ PySem.W.keepIn K (.ref f) = true ∧ Binds K fd ps ds ∧ Vals dvs ds
section
variable {X : Cx} {x : Str} {p pos : Pos} {e : Expr} {es : List Expr} {t : TA} {k : Nat} {ps : List Str} {dvs : List V} {sp : Sp} {W : WX}
theorem pe_calX (c : CalX X.prog X.w X.K X.mg X.base x k ps [] sp) (hr : Room k X.A) (hg : Gl X x) (tk : Takes X W) (ha : PA X (e :: es) t) (hdb : (x == ("__debug__" : Str)) = false := by decide)
    (he : starEach (e :: es) X.env = (false, eval e X.env) :: starEach es X.env := by rfl) (hpl : (backTo pos (starEach es X.env)).any (·.1) = false := by rfl) : PE X (.Call (.Name x p) (e :: es) [] pos) (tCallS sp (WE W) t) := by
  obtain ⟨f, fd, ds, F, hm, hk, hb, hd⟩ := c.ex
  cases hd
  exact pe_callS F hr hg hm hk hb (fun σ => passAt tk σ) ha hdb he hpl
end
section
variable {P : Program} {w : World} {K : PySem.W.Frag} {mg : Str → Option Value} {base : Heap}
theorem _root_.L2.FunD.okX {x qual : Str} {st : Stmt} {dvs : List V} {f : Addr} {fd : FuncData} {N ps : List Str} {k : Nat} {sp : Sp} (F : FunD K x qual (defArgs st) (defBody st) (defScope st) dvs [] f fd) (S : FnScope N ps (defScope st)) (len : ∀ vs H Q E, sp vs H Q E → vs.length = ps.length)
    (hbody : ∀ (cdv : Value) (A : Around) (outer : List Env) (s : Shared) (H : Hp) (vs : List V) (Q : VK) (E : XK), Room k (A.deeper (envOfC qual (defScope st) s.heap.objs.size f cdv)) → sp vs H Q E →
      ∃ t, PSs (cxOf (L2.CX P w) P w K mg base N qual (defScope st) f cdv A outer s H E) (defBody st) t ∧ t { nx := fun _ H' => Q .non H', rt := Q } (start N vs) H) : FnOk P w K mg base (L2.CX P w) (k + 1) f fd ps sp :=
  F.ok S len fun cdv A outer s H vs Q E hr h => hbody cdv A outer s H vs Q E hr h
end
/-- a def that is called with keywords -/
structure CalK (P : Program) (w : World) (K : PySem.W.Frag) (mg : Str → Option Value) (base : Heap) (x : Str) (k : Nat) (ps : List Str) (n : Nat) (ks : List Str) (gV : List V → List V → List V) (sp : Sp) : Prop where
  ex : ∃ (f : Addr) (fd : FuncData) (g : List Value → List Value → List Value), FnOk P w K mg base CX0 k f fd ps sp ∧ mg x = some (.ref f) ∧ PySem.W.keepIn K (.ref f) = true ∧ KBn K fd ps n ks g gV
section
variable {X : Cx} {x : Str} {p pos : Pos} {e : Expr} {es : List Expr} {kws : List Keyword} {t tk : TA} {k n : Nat} {ps ks : List Str} {gV : List V → List V → List V} {sp : Sp}
theorem pe_calK (c : CalK X.prog X.w X.K X.mg X.base x k ps n ks gV sp) (hr : Room k X.A) (hg : Gl X x) (ha : PA X (e :: es) t) (hkw : PK X kws tk)
    (hall : (backToKw pos (keywordEach kws X.env)).all (·.1.isSome) = true := by rfl) (hks : (backToKw pos (keywordEach kws X.env)).filterMap (·.1) = ks := by rfl) (hdb : (x == ("__debug__" : Str)) = false := by decide)
    (he : starEach (e :: es) X.env = (false, eval e X.env) :: starEach es X.env := by rfl) (hpl : ((backTo pos (starEach (e :: es) X.env)).any (·.1) || (backToKw pos (keywordEach kws X.env)).any (·.1.isNone)) = false := by rfl) :
    PE X (.Call (.Name x p) (e :: es) kws pos) (tCallN n ks.length sp gV E0 t tk) := by
  obtain ⟨f, fd, g, F, hm, hk, hb⟩ := c.ex
  exact pe_callN F hr hg hm hk hb pass0 ha hkw hall hks hdb he hpl
end
theorem s_callN {sp : Sp} {n m : Nat} {gV : List V → List V → List V} {E : XK} {tA tK : TA} {σ : L2.St} {H : Hp} {Q : VK} (h : tA σ H fun vs H1 => tK σ H1 fun zs H2 => vs.length = n ∧ zs.length = m ∧ sp (gV vs zs) H2 Q E) : tCallN n m sp gV E tA tK σ H Q := h
theorem s_callS {sp : Sp} {E : L2.St → XK} {t : TA} {σ : L2.St} {H : Hp} {Q : VK} (h : t σ H fun vs H1 => sp vs H1 Q (E σ)) : tCallS sp E t σ H Q := h
/-- an exception of the class C comes to 'except x as n' -/
theorem s_caught {K : PySem.W.Frag} {cls c : Value} {i : Nat} {ts : Addr → Value → Option Addr → TS} {D : Ends} {d : Option Addr} {σ : L2.St} {H : Hp} (e : PySem.W.exmOne K cls c = some true)
    (h : ∀ a, H a = none → ts a cls d { nx := fun σ' H' => D.nx (σ'.set i none) H', rt := D.rt, bk := fun σ' H' => D.bk (σ'.set i none) H', ct := fun σ' H' => D.ct (σ'.set i none) H' } (σ.set i (some (.ref a))) H) :
    WE (wAs K c i ts (fun _ _ _ _ => False) D) σ cls d H := ⟨true, e, fun _ a ha => h a ha, fun q => nomatch q⟩
/-! ### own error classes -/
/-- an own error class that is raised with a text -/
structure ErrC (K : PySem.W.Frag) (mg : Str → Option Value) (x : Str) (C : Addr) : Prop where
  g : mg x = some (.ref C)
  q : PySem.W.excIn K C HandSPX.veTail "ValueError.__new__" = true
  kp : PySem.W.keepIn K (.ref C) = true
  ex : PySem.W.subIn K (.ref C) (.type "BaseException") = some true
  ty : PySem.W.typeIn K (.ref C) = some (.type "type")
theorem ps_raiseC {X : Cx} {W : WX} {x m : Str} {C : Addr} {j : Nat} {p p2 pos pos2 : Pos} (c : ErrC X.K X.mg x C) (hc : X.calm = true) (tk : Takes X W) (hg : Gl X x) (hdb : (x == ("__debug__" : Str)) = false := by decide) :
    PS X (.Raise (some (.Call (.Name x p) [.Constant (.str m) j p2] [] pos)) none pos2) (fun _ σ H => W (.ref C) none σ H) :=
  ps_raise hc tk (pmk_own PySem.F.excBase_ValueError c.q c.g c.kp (raises_own c.ex c.ty) hg hdb)
section
variable {X : Cx} {C : Addr} {bmB : List Value} {B newId initId : String}
theorem pmk_own0 {x : Str} {p pos : Pos} (F : ExcBaseFacts B newId initId bmB) (q : PySem.W.excIn X.K C bmB newId = true) (gC : X.mg x = some (.ref C)) (kC : PySem.W.keepIn X.K (.ref C) = true) (r : Raises X (.ref C)) (hg : Gl X x)
    (hdb : (x == ("__debug__" : Str)) = false := by decide) : PMk X (.Call (.Name x p) [] [] pos) (fun _ H Q => Q (.ref C) none H) := by
  intro pins s σ H Q I h
  refine wpAny_Call_Name_kw (ld_glob I hg gC ?_ hdb)
  refine PySem.W.callWith_K0 I.kIn kC ?_
  show wpAny _ _ (call (.ref C) []) _ _ _
  obtain ⟨bm, N, nm, qn, bs, hdct, sn, sub, ab, col, dd, k0, k1, k2, k3, k5, mN, hC, hN, hni, T⟩ := exc_obj I.kIn q
  refine wpAny_call_exc_subT F T hC hN hni (fun h' e hm => ?_) (by show 0 ≤ sizeLine; omega)
  exact mk_of I hm r h (I.hok.gone hm.new)
theorem ps_raiseC0 {W : WX} {x : Str} {p pos pos2 : Pos} (c : ErrC X.K X.mg x C) (hc : X.calm = true) (tk : Takes X W) (hg : Gl X x) (hdb : (x == ("__debug__" : Str)) = false := by decide) :
    PS X (.Raise (some (.Call (.Name x p) [] [] pos)) none pos2) (fun _ σ H => W (.ref C) none σ H) :=
  ps_raise hc tk (pmk_own0 PySem.F.excBase_ValueError c.q c.g c.kp (raises_own c.ex c.ty) hg hdb)
end
/-! ### own error classes with a field -/
/-- what an __init__ of such a class leaves -/
def sp_xinit (C : Addr) (f : Str) : Sp := fun vs H Q _ => ∃ a v, vs = [.ref a, v] ∧ H a = some (exo a C none) ∧ ∀ dx, H dx = none → dx ≠ a → Q .non (upd (upd H dx (exd dx [(f, v)])) a (exo a C (some dx)))
structure ErrB (K : PySem.W.Frag) (mg : Str → Option Value) (x : Str) (B : Addr) : Prop where
  g : mg x = some (.ref B)
  sp : PySem.W.specialIn K (.ref B) "__getattribute__" = some (some (.builtin "type.__getattribute__"))
  rd : PySem.W.readsIn K B (.type "type") = true
  at_ : PySem.W.findCls K (.ref B) (.type "type") "__init__" = some (.val (.builtin "ValueError.__init__"))
section
variable {X : Cx} {o e : Expr} {es : List Expr} {to te : TE} {ta : TA} {x f : Str} {p p' p1 p2 pos : Pos} {C B : Addr}
theorem pe_clinit {pl : Sem Bool} (b : ErrB X.K X.mg x B) (hg : Gl X x) (ha : PA X (e :: es) ta) (hdb : (x == ("__debug__" : Str)) = false := by decide)
    (hc : eval (.Call (.Attribute (.Name x p1) "__init__" p2) (e :: es) [] pos) X.env = (do
      let ov ← eval (.Name x p1) X.env
      standAt p2.atName
      let (f, first) ← holding [ov] (getMethod ov "__init__" pl)
      callWith pos f first (backTo pos (starEach (e :: es) X.env)) (backToKw pos (keywordEach [] X.env))) := by rfl)
    (he : starEach (e :: es) X.env = (false, eval e X.env) :: starEach es X.env := by rfl) (hpl : (backTo pos (starEach es X.env)).any (·.1) = false := by rfl) :
    PE X (.Call (.Attribute (.Name x p1) "__init__" p2) (e :: es) [] pos) (tVeI X.K ta) := by
  refine ⟨fun pins s σ H Q I h => ?_⟩
  refine PySem.W.methodCall_KW (ld_glob I hg b.g ?_ hdb) hc
  refine PySem.W.method_cls I.kIn b.sp (PySem.W.cls_value I.kIn b.rd b.at_ (by decide +kernel) ?_)
  show wpAny _ _ (callWith pos (Value.builtin "ValueError.__init__") [] (backTo pos (starEach (e :: es) X.env)) []) _ _ _
  refine PyProof.Rows.callWith_method1 (thn (ha.run pos pins _ σ H _ (I.tok _) h) fun us s1 ⟨vs, H1, I1, r1, a, C, ws, ev, hl, T, ea, q⟩ => ?_) he hpl
  subst ev
  cases r1 with
  | @cons _ u0 _ ur ra rw' =>
    obtain rfl : u0 = Value.ref a := ra
    have hlen : ur.length ≤ sizeLine := by
      rw [← Paired.length rw', sizeLine_eq]
      omega
    exact oinit_ok T I1 ea hlen fun s' J => ⟨.non, H1, J, rfl, q⟩
end
structure ErrI (P : Program) (w : World) (K : PySem.W.Frag) (mg : Str → Option Value) (base : Heap) (x : Str) (C : Addr) (k : Nat) (ps : List Str) (f : Str) : Prop where
  T : OexC K C
  g : mg x = some (.ref C)
  ex : ∃ (fI : Addr) (fd : FuncData), PySem.W.findIn K (.ref C) "__init__" = some (some (.ref fI)) ∧ PySem.W.typeIn K (.ref fI) = some (.type "function") ∧ FnOk P w K mg base CX0 k fI fd ps (sp_xinit C f) ∧ Binds K fd ps []
section
variable {X : Cx} {e : Expr} {ta : TA} {x f : Str} {p pos pos2 : Pos} {C : Addr} {k : Nat} {ps : List Str} {W : WX}
theorem ps_raiseI (c : ErrI X.prog X.w X.K X.mg X.base x C k ps f) (hr : Room (k + 1) X.A) (hc : X.calm = true) (tk : Takes X W) (hg : Gl X x) (ha : PA X [e] ta) (hdb : (x == ("__debug__" : Str)) = false := by decide)
    (he : starEach (e :: []) X.env = (false, eval e X.env) :: starEach [] X.env := by rfl) (hpl : (backTo pos (starEach [] X.env)).any (·.1) = false := by rfl) :
    PS X (.Raise (some (.Call (.Name x p) [e] [] pos)) none pos2) (fun _ σ H => tMkO C (sp_xinit C f) [] ta σ H fun cls d H' => W cls d σ H') := by
  obtain ⟨fI, fd, h1, h2, F, hb⟩ := c.ex
  exact ps_raise hc tk (pmk_oex c.T h1 h2 F hr hb .nil (fun _ _ _ _ _ _ _ z => False.elim z) hg c.g ha hdb he hpl)
end
section
variable {K : PySem.W.Frag} {σ : L2.St} {H : Hp} {C : Addr} {f : Str} {v : V} {Q : XK} {sp : Sp} {tA : TA}
theorem s_mkO0 {dvs : List V} (h : tA σ H fun vs H1 => vs.length ≤ 1000 ∧ ∀ a, H1 a = none → sp (.ref a :: (vs ++ dvs)) (upd H1 a (exo a C none))
  (fun v H2 => v = .non ∧ ∃ (d : Addr) (fs : List (Str × V)), H2 a = some (exo a C (some d)) ∧ H2 d = some (exd d fs) ∧ H1 d = none ∧ Q (.ref C) (some d) (upd (del H2 a) d (.xd fs))) (fun _ _ _ => False)) : tMkO C sp dvs tA σ H Q := h
theorem s_mkO (q : ∀ d, H d = none → Q (.ref C) (some d) (upd H d (.xd [(f, v)]))) : [v].length ≤ 1000 ∧ ∀ a, H a = none → sp_xinit C f (.ref a :: ([v] ++ [])) (upd H a (exo a C none))
  (fun v H2 => v = .non ∧ ∃ (d : Addr) (fs : List (Str × V)), H2 a = some (exo a C (some d)) ∧ H2 d = some (exd d fs) ∧ H d = none ∧ Q (.ref C) (some d) (upd (del H2 a) d (.xd fs))) (fun _ _ _ => False) := by
  refine ⟨by simp, fun a ha => ⟨a, v, rfl, upd_same, fun dx hd ne => ⟨rfl, dx, [(f, v)], upd_same, ?_, ?_, ?_⟩⟩⟩
  · rw [upd_ne ne, upd_same]
  · rw [upd_ne ne] at hd
    exact hd
  · rw [upd_ne ne] at hd
    have e : upd (del (upd (upd (upd H a (exo a C none)) dx (exd dx [(f, v)])) a (exo a C (some dx))) a) dx (.xd [(f, v)]) = upd H dx (.xd [(f, v)]) := by
      funext b
      by_cases hb : b = dx
      · subst hb
        rw [upd_same, upd_same]
      · rw [upd_ne hb, upd_ne hb]
        by_cases ha' : b = a
        · subst ha'
          rw [del_same, ha]
        · rw [del_ne ha', upd_ne ha', upd_ne hb, upd_ne ha']
    rw [e]
    exact q dx hd
end
section
variable {K : PySem.W.Frag} {σ : L2.St} {H : Hp} {Q : VK} {G : Ends} {ta : TA} {to te : TE} {f : Str}
theorem s_veI (h : ta σ H fun vs H1 => ∃ (a C : Addr) (ws : List V), vs = .ref a :: ws ∧ ws.length ≤ 1000 ∧ OexC K C ∧ H1 a = some (exo a C none) ∧ Q .non H1) : tVeI K ta σ H Q := h
theorem s_ost (h : te σ H fun y H1 => to σ H1 fun x H2 => ∃ a C : Addr, x = .ref a ∧ OexC K C ∧ PySem.W.findIn K (.ref C) f = some none ∧
  ((H2 a = some (exo a C none) ∧ ∀ dx, H2 dx = none → dx ≠ a → G.nx σ (upd (upd H2 dx (exd dx [(f, y)])) a (exo a C (some dx)))) ∨
    ∃ (dx : Addr) (fs : List (Str × V)), H2 a = some (exo a C (some dx)) ∧ H2 dx = some (exd dx fs) ∧ fs.length ≤ 900 ∧ G.nx σ (upd H2 dx (exd dx ((f, y) :: fs))))) : tOst K f to te G σ H := h
end
/-- e.f, e the error that the suite holds -/
def tXf (K : PySem.W.Frag) (a : Addr) (cls : Value) (d : Option Addr) (f : Str) (te : TE) : TE := fun σ H Q => te σ H fun x H1 => x = .ref a ∧ ∃ (C dd : Addr) (fs : List (Str × V)) (v : V), cls = .ref C ∧ d = some dd ∧ H1 dd = some (.xd fs) ∧ fs.lookup f = some v ∧
  ExcC K C ∧ PySem.W.findIn K (.ref C) f = some none ∧ Q v H1
theorem s_xf {K : PySem.W.Frag} {σ : L2.St} {H : Hp} {Q : VK} {a : Addr} {cls : Value} {d : Option Addr} {f : Str} {te : TE} (h : te σ H fun x H1 => x = .ref a ∧ ∃ (C dd : Addr) (fs : List (Str × V)) (v : V), cls = .ref C ∧ d = some dd ∧ H1 dd = some (.xd fs) ∧ fs.lookup f = some v ∧
  ExcC K C ∧ PySem.W.findIn K (.ref C) f = some none ∧ Q v H1) : tXf K a cls d f te σ H Q := h
theorem pe_xfld {X : Cx} {f : Str} {a : Addr} {oe : Obj} {cls : Value} {d : Option Addr} {pn : List (Addr × Obj)} {e : Expr} {te : TE} {pos : Pos} (hz : Zc cls d oe) (hf : ∃ vs, oe.data = .fields vs) (he : PE (X.suite a ((a, oe) :: pn)) e te)
    (hb : attributeBase e f X.env (eval e X.env) = eval e X.env := by rfl) :
    PE (X.suite a ((a, oe) :: pn)) (.Attribute e f pos) (tXf X.K a cls d f te) := by
  refine ⟨fun pins s σ H Q I h => ?_⟩
  refine attr_of hb (thn (he.run pins s σ H _ I h) fun u s1 hh => ?_)
  obtain ⟨x, H1, I1, rx, ex, C, dd, fs, v, ec, ed, ea, l, T, hno, q⟩ := hh
  subst ex
  obtain rfl : u = Value.ref a := rx
  subst ec
  subst ed
  obtain ⟨ha, _⟩ := I1.pin (a, oe) (List.mem_append_left _ List.mem_cons_self)
  obtain ⟨vs, hd⟩ := hf
  have hx : ObjOk X.prog X.w H1 s1.heap dd (.xd fs) := I1.hok dd _ ea
  obtain ⟨mA, hns, hr⟩ := hx
  obtain ⟨od, ho, hl⟩ := lookIn_ns hns
  obtain ⟨u, hu, ru⟩ := RelO.some_of (v := v) (o := mA f) (by rw [← l]; exact hr f)
  have J : PySem.W.InstAt s1.heap a oe C (some od) := ⟨ha, hz.1, by unfold PySem.W.notCls; rw [hd] <;> rfl, by rw [hz.2]; exact ho⟩
  exact HandSPX.exc_get I1.kIn J T.hg T.hk T.hs (PySem.W.findObj_own T.hd hno rfl (by rw [hl, hu])) (handed_of ru) ⟨v, H1, I1.tok _, ru, q⟩
/-! ### isinstance of the error that a suite holds -/
def isOne (K : PySem.W.Frag) (D : Addr) (c : V) (b : Bool) : Prop := ∃ cv, (∀ u, RelV c u → u = cv) ∧ PySem.W.kitOne K (.ref D) cv = some b
def rIsX (K : PySem.W.Frag) (a : Addr) (cls : Value) (d : Option Addr) : List V → Hp → VK → Prop := fun xs H Q => ∃ (D : Addr) (c : V) (b : Bool), xs = [.ref a, c] ∧ cls = .ref D ∧ ExcC K D ∧
  (d = none ∨ ∃ dd fs, d = some dd ∧ H dd = some (.xd fs)) ∧
  (isOne K D c b ∨ ∃ tp vs, ∃ cvs : List Value, c = .ref tp ∧ SqT K H tp vs ∧ (∀ us, Vals vs us → us = cvs) ∧ PySem.W.kitAny K (.ref D) cvs = some b) ∧ Q (.bl b) H
theorem call_isX {X : Cx} {a : Addr} {oe : Obj} {cls : Value} {d : Option Addr} {pn : List (Addr × Obj)} (hz : Zc cls d oe) (hf : ∃ vs, oe.data = .fields vs) : CallR (X.suite a ((a, oe) :: pn)) (.builtin "isinstance") (rIsX X.K a cls d) := by
  intro pins s σ H xs us Q I r h
  obtain ⟨D, c, b, rfl, rfl, C, hd, hc, q⟩ := h
  cases r with
  | cons rx rr =>
    cases rr with
    | cons rt rr =>
      cases rr
      cases rx
      obtain ⟨hget, _⟩ := I.pin (a, oe) (List.mem_append.mpr (.inl List.mem_cons_self))
      obtain ⟨vs, hv⟩ := hf
      have J : ∃ od, PySem.W.InstAt s.heap a oe D od := by
        rcases hd with rfl | ⟨dd, fs, rfl, hx⟩
        · obtain ⟨oc, od, oda, osl⟩ := oe
          obtain ⟨h1, h2⟩ := hz
          dsimp only at h1 h2 hv
          subst h1 h2 hv
          exact ⟨none, hget, rfl, rfl, trivial⟩
        · have hx' := I.hok dd _ hx
          obtain ⟨mA, hns, hr⟩ := hx'
          obtain ⟨od, ho, hl⟩ := lookIn_ns hns
          exact ⟨some od, hget, hz.1, by unfold PySem.W.notCls; rw [hv] <;> rfl, by rw [hz.2]; exact ho⟩
      obtain ⟨od, J⟩ := J
      have Z := PySem.W.kitx_exc (K := X.K) (x := a) (ox := oe) (od := od) (C := D) (by obtain ⟨cd, hc, _⟩ := PySem.W.any_some C.hd; rw [hc]; rfl) C.hg C.hk C.hs C.ha C.hn C.ht C.hm
      rcases hc with ⟨cv, hcv, e⟩ | ⟨tp, ts, cvs, rfl, hq, hcs, e⟩
      · have ec := hcv _ rt
        subst ec
        exact PySem.W.kia_one Z I.kIn J e (fun z => nomatch z) fun tk => ⟨.bl b, H, I.kept (t' := tk) fun _ _ z => z, rfl, q⟩
      · cases rt
        obtain ⟨its, rv, ⟨o, ho, hc, n, hd'⟩, _⟩ := I.tuple hq
        have ec := hcs _ rv
        subst ec
        obtain ⟨oc, od', oda, osl⟩ := o
        dsimp only at hc hd'
        subst hc hd'
        exact PySem.W.kia_tup Z I.kIn J ho e (fun z => nomatch z) fun tk => ⟨.bl b, H, I.kept (t' := tk) fun _ _ z => z, rfl, q⟩
section
variable {K : PySem.W.Frag} {H : Hp} {F : List (V × D)} {M : List ME} {Q : VK} {v : V} {a C D : Addr} {b : Bool}
theorem isOne_ref (h : PySem.W.kitOne K (.ref D) (.ref C) = some b) : isOne K D (.ref C) b := ⟨.ref C, fun u r => r, h⟩
theorem isOne_ty {n : String} (h : PySem.W.kitOne K (.ref D) (.type n) = some b) : isOne K D (.ty n) b := ⟨.type n, fun u r => r, h⟩
theorem n_isX {c : V} (C : ExcC K D) (h : isOne K D c b) (q : Q (.bl b) H) : rIsX K a (.ref D) none [.ref a, c] H Q := ⟨D, c, b, rfl, rfl, C, .inl rfl, .inl h, q⟩
theorem n_isXd {c : V} {dd : Addr} {fs : List (Str × V)} (C : ExcC K D) (hd : H dd = some (.xd fs)) (h : isOne K D c b) (q : Q (.bl b) H) : rIsX K a (.ref D) (some dd) [.ref a, c] H Q := ⟨D, c, b, rfl, rfl, C, .inr ⟨dd, fs, rfl, hd⟩, .inl h, q⟩
theorem isA_refs {I : Hp} : ∀ {cs : List Addr} {vs : List V}, IsA I vs (cs.map Fs.D.ref) → vs = cs.map V.ref
  | [], _, h => by cases h; rfl
  | c :: cs, _, h => by
    cases h with
    | cons h1 h2 =>
      cases h1
      rw [isA_refs h2]
      rfl
theorem vals_refs : ∀ {cs : List Addr} {us : List Value}, Vals (cs.map V.ref) us → us = cs.map Value.ref
  | [], _, h => by cases h; rfl
  | c :: cs, _, h => by
    cases h with
    | cons h1 h2 =>
      have e : _ = Value.ref c := h1
      rw [vals_refs h2, e]
      rfl
theorem n_isXT {cs : List Addr} (w : Wf F H M) (ht : Rk F M v (.tup (cs.map Fs.D.ref))) (C : ExcC K D) (h : PySem.W.kitAny K (.ref D) (cs.map Value.ref) = some b) (q : Q (.bl b) H) : rIsX K a (.ref D) none [.ref a, v] H Q := by
  obtain ⟨I, Mc, w, ac, hF⟩ := w.ex
  obtain ⟨p, vs, rfl, hp, ha⟩ := ht.tup w ac hF
  have e := isA_refs ha
  subst e
  exact ⟨D, .ref p, b, rfl, rfl, C, .inl rfl, .inr ⟨p, _, _, rfl, .inl (.inl hp), fun us h => vals_refs h, h⟩, q⟩
theorem s_isXT {I : Hp} {M : List (Addr × HO)} {cs : List Addr} (w : W I H M) (ht : Is I v (.tup (cs.map Fs.D.ref))) (C : ExcC K D) (h : PySem.W.kitAny K (.ref D) (cs.map Value.ref) = some b) (q : Q (.bl b) H) : rIsX K a (.ref D) none [.ref a, v] H Q := by
  obtain ⟨p, vs, rfl, hp, ha⟩ := ht.tup_ex
  have e := isA_refs ha
  subst e
  exact ⟨D, .ref p, b, rfl, rfl, C, .inl rfl, .inr ⟨p, _, _, rfl, .inl (.inl (w.imm _ _ hp)), fun us h => vals_refs h, h⟩, q⟩
theorem isA_ofRefs {I : Hp} : ∀ (cs : List Addr), IsA I (cs.map V.ref) (cs.map Fs.D.ref)
  | [] => .nil
  | c :: cs => .cons (.ref c) (isA_ofRefs cs)
theorem kitAny_no {t : Value} : ∀ {cs : List Value}, (∀ c ∈ cs, PySem.W.kitOne K t c = some false) → PySem.W.kitAny K t cs = some false
  | [], _ => rfl
  | c :: cs, h => by
    unfold PySem.W.kitAny
    rw [h c List.mem_cons_self]
    exact kitAny_no fun d hd => h d (List.mem_cons_of_mem _ hd)
end
/-! facts of the classes -/
theorem kit_sub {K : PySem.W.Frag} {C D : Addr} (ic : PySem.W.isClsIn K C = true) (et : PySem.W.typeIn K (.ref C) = some (.type "type")) (sD : PySem.W.subIn K (.ref D) (.ref D) = some true) {b : Bool} (h : PySem.W.subIn K (.ref D) (.ref C) = some b) : PySem.W.kitOne K (.ref D) (.ref C) = some b := by
  have e2 : ((PySem.W.clsIn K C).isSome && PySem.W.typeIn K (.ref C) == some (.type "type")) = true := by
    have h2' : (PySem.W.clsIn K C).isSome = true := ic
    rw [h2', et] <;> rfl
  show (if (Value.ref D == Value.ref C) = true then some true else PySem.W.kitCls K (.ref D) (.ref C)) = some b
  by_cases q : D = C
  · subst q
    rw [if_pos (beq_self_eq_true _), ← h, sD]
  · rw [if_neg (fun z => q (Value.ref.inj (beq_iff_eq.mp z)))]
    show (if ((PySem.W.clsIn K C).isSome && PySem.W.typeIn K (.ref C) == some (.type "type")) = true then PySem.W.subIn K (.ref D) (.ref C) else none) = some b
    rw [if_pos e2]
    exact h
theorem kit_subT {K : PySem.W.Frag} {D : Addr} {n : String} (hk : PySem.W.kitMeta n = true) {b : Bool} (h : PySem.W.subIn K (.ref D) (.type n) = some b) : PySem.W.kitOne K (.ref D) (.type n) = some b := by
  have e : ¬ (Value.ref D == Value.type n) = true := fun h => by cases (beq_iff_eq.mp h)
  show (if (Value.ref D == Value.type n) = true then some true else PySem.W.kitCls K (.ref D) (.type n)) = some b
  rw [if_neg e]
  show (if PySem.W.kitMeta n = true then PySem.W.subIn K (.ref D) (.type n) else none) = some b
  rw [if_pos hk]
  exact h
theorem exm_sub {K : PySem.W.Frag} {C D : Addr} (ic : PySem.W.isClsIn K C = true) (et : PySem.W.typeIn K (.ref C) = some (.type "type")) (eb : PySem.W.subIn K (.ref C) (.type "BaseException") = some true) {b : Bool} (h : PySem.W.subIn K (.ref D) (.ref C) = some b) : PySem.W.exmOne K (.ref D) (.ref C) = some b := by
  have e2 : ((PySem.W.clsIn K C).isSome && PySem.W.typeIn K (.ref C) == some (.type "type")) = true := by
    have h2' : (PySem.W.clsIn K C).isSome = true := ic
    rw [h2', et] <;> rfl
  have e1 : (PySem.W.subIn K (.ref C) (.type "BaseException") == some true) = true := by rw [eb] <;> rfl
  show (if (PySem.W.subIn K (.ref C) (.type "BaseException") == some true) = true then (if ((PySem.W.clsIn K C).isSome && PySem.W.typeIn K (.ref C) == some (.type "type")) = true then PySem.W.subIn K (.ref D) (.ref C) else none) else none) = some b
  rw [if_pos e1, if_pos e2]
  exact h
/-! ### what lies on the heap as it is; lists of truths -/
section
variable {K : PySem.W.Frag} {H : Hp} {F : List (V × D)} {M : List ME} {Q : VK} {x y : V} {p : Addr} {o : HO}
theorem Wf.newRaw (w : Wf F H M) (hd : H p = none) (hn : ∀ vs, o ≠ .tup vs := by intro _ e; cases e) : Wf F (upd H p o) (.raw p o :: M) := by
  obtain ⟨I, Mc, w, ac, hF⟩ := w.ex
  exact ⟨I, (p, o) :: Mc, w.newM hd, .cons (.raw hn) ac, hF⟩
theorem Wf.rawAt (w : Wf F H M) (h : .raw p o ∈ M) : H p = some o := by
  obtain ⟨I, Mc, w, ac, hF⟩ := w.ex
  obtain ⟨m, hm, c⟩ := ac.mem h
  cases c
  exact (w.mu _ hm).1
theorem isA_bools {I : Hp} : ∀ {bs : List Bool} {vs : List V}, IsA I vs (bs.map D.bl) → vs = bs.map V.bl
  | [], _, h => by cases h; rfl
  | c :: cs, _, h => by
    cases h with
    | cons h1 h2 =>
      cases h1
      rw [isA_bools h2]
      rfl
theorem dp_bools {K : PySem.W.Frag} : ∀ (bs : List Bool), DpAll K H (bs.map V.bl) (D.pds (bs.map D.bl))
  | [] => .nil
  | b :: bs => .cons (.bl b) (dp_bools bs)
theorem sh_bools (bs : List Bool) : SeqAt.shaped (D.pd (.lst (bs.map D.bl))) = true := by
  obtain ⟨h1, h2⟩ := pds_can (ds := bs.map D.bl) (k := 1) fun d hd => by
    obtain ⟨b, _, rfl⟩ := List.mem_map.mp hd
    exact ⟨by simp [D.pd, PyData.canLay0], by simp [D.pd, PyData.depth]⟩
  unfold SeqAt.shaped
  rw [show (D.pd (.lst (bs.map D.bl))).canLay0 = true by simp [D.pd, PyData.canLay0, h1], decide_eq_true (by simp only [D.pd, PyData.depth]; omega)]
  rfl
theorem eqv_bools (bs cs : List Bool) : PyData.eqv (D.pd (.lst (bs.map D.bl))) (D.pd (.lst (cs.map D.bl))) = true ↔ bs = cs := by
  simp only [D.pd, PyData.eqv]
  rw [pds_eqv (P := fun e => ∃ b, e = D.bl b)]
  · constructor
    · exact fun h => (List.map_inj_right (fun a b e => by injection e)).mp h
    · exact fun h => by rw [h]
  · intro d hd e he
    obtain ⟨b, _, rfl⟩ := List.mem_map.mp hd
    obtain ⟨c, rfl⟩ := he
    simp [D.pd, PyData.eqv]
  · intro e he
    obtain ⟨c, _, rfl⟩ := List.mem_map.mp he
    exact ⟨c, rfl⟩
theorem Wf.bools {bs : List Bool} (w : Wf F H M) (h : Rk F M x (.lst (bs.map D.bl))) : Dp K H x (D.pd (.lst (bs.map D.bl))) := by
  obtain ⟨I, Mc, w, ac, hF⟩ := w.ex
  obtain ⟨p, vs, rfl, hp, ha⟩ := h.lst w ac hF
  have e := isA_bools ha
  subst e
  exact .lst (.inl (.inl hp)) (dp_bools bs)
theorem n_neB {bs cs : List Bool} (w : Wf F H M) (hx : Rk F M x (.lst (bs.map D.bl))) (hy : Rk F M y (.lst (cs.map D.bl))) (q : Q (.bl (!decide (bs = cs))) H) : rNeU K x y H Q :=
  .inr ⟨_, _, w.bools hx, w.bools hy, sh_bools bs, sh_bools cs, by
    have h2 : PyData.eqv (D.pd (.lst (bs.map D.bl))) (D.pd (.lst (cs.map D.bl))) = decide (bs = cs) := by rw [Bool.eq_iff_iff, eqv_bools, decide_eq_true_iff]
    rw [h2]; exact q⟩
end
end Fs

namespace Fs
open PySem PySem.Spec PyProof.Rows L2
/-! ### a class whose __init__ may raise -/
structure MakX (P : Program) (w : World) (K : PySem.W.Frag) (mg : Str → Option Value) (base : Heap) (x : Str) (C : Addr) (k : Nat) (ps : List Str) (dvs : List V) (sp : Sp) : Prop where
  ex : ∃ (f : Addr) (fd : FuncData) (ds : List Value), Mk K C f ∧ FnOk P w K mg base (L2.CX P w) k f fd ps sp ∧ mg x = some (.ref C) ∧ Binds K fd ps ds ∧ Vals dvs ds
def MakeXQ (C : Addr) (sp : Sp) (E : XK) (Q : VK) (vs : List V) (H1 : Hp) : Prop := ∀ o d, H1 o = none → H1 d = none → d ≠ o → sp (.ref o :: vs) (upd (upd H1 d (.own o)) o (.ins C d [])) (fun v H2 => v = .non ∧ Q (.ref o) H2) E
def tMakeX (C : Addr) (sp : Sp) (dvs : List V) (W : WX) (t : TA) : TE := fun σ H Q => t σ H fun vs H1 => MakeXQ C sp (WE W σ) Q (vs ++ dvs) H1
theorem s_makeX {C : Addr} {sp : Sp} {dvs : List V} {W : WX} {t : TA} {σ : L2.St} {H : Hp} {Q : VK} (h : t σ H fun vs H1 => MakeXQ C sp (WE W σ) Q (vs ++ dvs) H1) : tMakeX C sp dvs W t σ H Q := h
section
variable {X : Cx} {x : Str} {C : Addr} {p pos : Pos} {e : Expr} {es : List Expr} {t : TA} {k : Nat} {ps : List Str} {dvs : List V} {sp : Sp} {W : WX}
theorem run_makeX {pins : List (Addr × Obj)} {σ : L2.St} {H : Hp} {s : Shared} {Q : VK} {us ds : List Value} {vs : List V} {f : Addr} {fd : FuncData} (m : Mk X.K C f) (ok : FnOk X.prog X.w X.K X.mg X.base (L2.CX X.prog X.w) k f fd ps sp) (room : Room (k + 1) X.A)
    (bd : Binds X.K fd ps ds) (dv : Vals dvs ds) (tk : Takes X W) (J : Inv X pins σ H s) (rv : Vals vs us) (q : MakeXQ C sp (WE W σ) Q (vs ++ dvs) H) : wpAny (model X.prog X.w) X.A (call (.ref C) us) (EP X pins σ Q) X.xe s := by
  have q0 := q (s.heap.objs.size + 1) s.heap.objs.size (J.hok.fresh (Nat.le_succ _)) (J.hok.fresh (Nat.le_refl _)) (Nat.ne_of_lt (Nat.lt_succ_self _))
  have J2 := Inv.made (C := C) J
  have rr : Vals (V.ref (s.heap.objs.size + 1) :: (vs ++ dvs)) (Value.ref (s.heap.objs.size + 1) :: (us ++ ds)) := .cons rfl (rv.append dv)
  have hlen : (Value.ref (s.heap.objs.size + 1) :: us ++ ds).length = ps.length := rr.length.symm.trans (ok.len _ _ _ _ q0)
  have run := ok.run (X.A.under (.builtin "type.__call__" ⟨.ref C :: us, []⟩)) X.stack _ _ ⟨Value.ref (s.heap.objs.size + 1) :: us, []⟩ _ _ _ _ (room.make C us []) (J2.env0.make C us []) (bd _ (Value.ref (s.heap.objs.size + 1) :: us) J2.kIn hlen) rr q0
  refine wpAny_call (make_map (f := f) J.kIn m.makes m.init (beq_iff_eq.mp m.fn) (codeAny_mono run fun r s' z => ?_))
  match r, z with
  | .error er, z => exact tk er s' (XE.of_call J2 (fun _ _ _ y => y) z)
  | .ok (.ret u), z =>
    obtain ⟨v, H', J3, r3, e3, q3⟩ := J2.after z
    subst e3
    exact ⟨r3, ⟨V.ref (s.heap.objs.size + 1), H', J3, rfl, q3⟩⟩
  | .ok .next, z => exact z.elim
  | .ok .brk, z => exact z.elim
  | .ok .cont, z => exact z.elim
theorem pe_mkX (c : MakX X.prog X.w X.K X.mg X.base x C k ps dvs sp) (hr : Room (k + 1) X.A) (hg : Gl X x) (tk : Takes X W) (ha : PA X (e :: es) t) (hdb : (x == ("__debug__" : Str)) = false := by decide)
    (he : starEach (e :: es) X.env = (false, eval e X.env) :: starEach es X.env := by rfl) (hpl : (backTo pos (starEach es X.env)).any (·.1) = false := by rfl) : PE X (.Call (.Name x p) (e :: es) [] pos) (tMakeX C sp dvs W t) := by
  obtain ⟨f, fd, ds, m, ok, g, bd, dv⟩ := c.ex
  exact ⟨fun pins s σ H Q J h => wpAny_Call_Name_kw (ld_glob J hg g (PySem.W.callWith_K (h₀ := X.base) J.ok.mod.kin m.kp (thn (ha.run pos pins s σ H _ J h) fun us s1 ⟨vs, H1, J1, rv, q⟩ => ⟨J1.kIn, run_makeX m ok hr bd dv tk J1 rv q⟩) he hpl) hdb)⟩
end
section
variable {K : PySem.W.Frag} {H : Hp} {F : List (V × D)} {M M' : List ME} {Q : VK} {v : V} {p C : Addr} {d : D} {vs : List V} {sp : Sp} {E : XK}
/-- the new instance, its dict aside -/
theorem n_makeX (w : Wf F H M) (q : ∀ o H', Wf F H' (.mi o C [] :: M) → sp (.ref o :: vs) H' (fun v H2 => v = .non ∧ Q (.ref o) H2) E) : MakeXQ C sp E Q vs H := fun o dx ho hd ne => by
  obtain ⟨I, Mc, w, ac, hF⟩ := w.ex
  have w1 : W I (upd H dx (.own o)) Mc := w.more (same_new hd)
  have h1 : upd H dx (.own o) o = none := by rw [upd_ne ne.symm]; exact ho
  exact q o _ ⟨I, (o, .ins C dx []) :: Mc, w1.newM h1, .cons (.mi .nil) ac, hF⟩
theorem n_isXTd {a D dd : Addr} {b : Bool} {fs : List (Str × V)} {cs : List Addr} (w : Wf F H M) (ht : Rk F M v (.tup (cs.map Fs.D.ref))) (C : ExcC K D) (hd : H dd = some (.xd fs)) (h : PySem.W.kitAny K (.ref D) (cs.map Value.ref) = some b) (q : Q (.bl b) H) : rIsX K a (.ref D) (some dd) [.ref a, v] H Q := by
  obtain ⟨I, Mc, w, ac, hF⟩ := w.ex
  obtain ⟨p, vs, rfl, hp, ha⟩ := ht.tup w ac hF
  have e := isA_refs ha
  subst e
  exact ⟨D, .ref p, b, rfl, rfl, C, .inr ⟨dd, fs, rfl, hd⟩, .inr ⟨p, _, _, rfl, .inl (.inl hp), fun us h => vals_refs h, h⟩, q⟩
theorem knA_refs {F : List (V × Fs.D)} : ∀ (cs : List Addr), KnA F (cs.map V.ref) (cs.map Fs.D.ref)
  | [] => .nil
  | c :: cs => .cons (.ref c) (knA_refs cs)
theorem Wf.frzK {kvs : List (Key × D)} (w : Wf F H M) (r : Rem M (.dk p kvs) M') : Wf ((.ref p, .dict) :: F) H M' := by
  obtain ⟨I, Mc, w, a, hF⟩ := w.ex
  obtain ⟨M1, m, M2, rfl, h1, h2⟩ := a.rem r
  cases h1 with
  | dk b =>
    refine ⟨_, _, w.frz, h2.mono w.frzS, fun f hf => ?_⟩
    rcases List.mem_cons.mp hf with rfl | hf
    · exact .dct upd_same
    · exact (hF f hf).mono w.frzS
end
theorem putD_new {f : Str} {d : D} : ∀ {fs : List (Str × D)}, f ∉ fs.map (·.1) → putD f d fs = fs ++ [(f, d)]
  | [], _ => rfl
  | (g, x) :: r, h => by
    have e1 : ¬ g = f := fun e => h (by rw [e]; exact List.mem_cons_self)
    have e2 : f ∉ r.map (·.1) := fun e => h (List.mem_cons_of_mem _ e)
    unfold putD
    rw [if_neg e1, putD_new e2]
    rfl
/-! ### == of two lists of the same values, of two empty dicts -/
def plainV : V → Bool
  | .non => true | .bl _ => true | .int _ => true | .str _ => true | .ref _ => true
  | _ => false
theorem eqAt_id {A : Around} {s : Shared} {v : V} {u u' : Value} (r : RelV v u) (r' : RelV v u') (f : plainV v = true) : SeqAt.EqAt A s u u' true := by
  cases v with
  | ref a =>
    cases (show u = Value.ref a from r)
    cases (show u' = Value.ref a from r')
    exact SeqAt.EqAt.same _
  | non => exact eqAt_same r r' rfl
  | bl b => exact eqAt_same r r' rfl
  | int i => exact eqAt_same r r' rfl
  | str x => exact eqAt_same r r' rfl
  | _ => cases f
def rEqId (K : PySem.W.Frag) : R2 := fun x y H Q => ∃ a b xs, x = .ref a ∧ y = .ref b ∧ SqL K H a xs ∧ SqL K H b xs ∧ (∀ v ∈ xs, plainV v = true) ∧ Q (.bl true) H
def rEqU2 (K : PySem.W.Frag) : R2 := fun x y H Q => rEqU K x y H Q ∨ (rEqId K x y H Q ∨ rEqDA x y H Q)
section
variable {X : Cx}
theorem op_eqId (hu : X.A.units + 64 < cLine) : OpR X (compareOp .Eq) (rEqId X.K) := by
  intro pins s σ H x y v u Q I rx ry h
  obtain ⟨a, b, xs, rfl, rfl, ha, hb, hf, q⟩ := h
  obtain rfl : v = Value.ref a := rx
  obtain rfl : u = Value.ref b := ry
  obtain ⟨it, ra, ⟨o, n, ho, hc, _, hd⟩, _⟩ := I.list ha
  obtain ⟨jt, rb, ⟨o2, n2, ho2, hc2, _, hd2⟩, _⟩ := I.list hb
  have l1 := ra.length
  have l2 := rb.length
  have hsz : it.toArray.size = jt.toArray.size := by simp; omega
  refine SeqAt.eq_listAt (e := fun _ => true) ⟨o, ho, hc, n, hd⟩ ⟨o2, ho2, hc2, n2, hd2⟩ hsz (by omega) (fun j h1 h2 => ?_) ?_
  · have hj : j < xs.length := by
      simp at h1
      omega
    have hx : xs[j]? = some xs[j] := List.getElem?_eq_getElem hj
    obtain ⟨u1, e1, r1⟩ := ra.get hx
    obtain ⟨u2, e2, r2⟩ := rb.get hx
    have q1 : it.toArray[j] = u1 := by
      have := List.getElem?_eq_some_iff.mp e1
      simpa using this.2
    have q2 : jt.toArray[j] = u2 := by
      have := List.getElem?_eq_some_iff.mp e2
      simpa using this.2
    rw [q1, q2]
    exact eqAt_id r1 r2 (hf _ (List.getElem_mem hj))
  · have e : (List.range it.toArray.size).all (fun _ => true) = true := by simp
    rw [e]
    exact ⟨.bl true, H, I, rfl, q⟩
theorem uo_eq2 (hu : X.A.units + 64 < cLine) : OpR X (compareOp .Eq) (rEqU2 X.K) := opOr (uo_eq hu) (opOr (op_eqId hu) (op_eq_dictA (by omega)))
end
theorem k_eq2 {X : Cx} {K : PySem.W.Frag} (h : X.K = K) (hu : X.A.units + 64 < cLine) : OpR X (compareOp .Eq) (rEqU2 K) := h ▸ uo_eq2 hu
/-- a thing of which there is but one value -/
def rigid : D → Option V
  | .non => some .non
  | .bl b => some (.bl b)
  | .int i => some (.int i)
  | .str x => some (.str x)
  | .ref a => some (.ref a)
  | _ => none
theorem Is.rigid {I : Hp} {v u : V} {d : D} (h : Is I v d) (e : rigid d = some u) : v = u := by
  cases h <;> first | (cases e; rfl) | cases e
theorem IsA.rigid {I : Hp} : ∀ {ds : List D} {vs us : List V}, IsA I vs ds → ds.map Fs.rigid = us.map some → vs = us
  | [], _, [], h, _ => by cases h; rfl
  | [], _, _ :: _, _, e => by cases e
  | d :: ds, _, [], _, e => by cases e
  | d :: ds, _, u :: us, h, e => by
    cases h with
    | cons h1 h2 =>
      injection e with e1 e2
      rw [h1.rigid e1, IsA.rigid h2 e2]
theorem rigid_plain {d : D} {v : V} (e : rigid d = some v) : plainV v = true := by
  cases d <;> first | (cases e; rfl) | cases e
section
variable {K : PySem.W.Frag} {H : Hp} {F : List (V × D)} {M : List ME} {Q : VK} {x y : V} {ds : List D}
theorem n_eqId (w : Wf F H M) (hx : Rk F M x (.lst ds)) (hy : Rk F M y (.lst ds)) (hr : ∀ d ∈ ds, ∃ v, rigid d = some v) (q : Q (.bl true) H) : rEqU2 K x y H Q := by
  obtain ⟨I, Mc, w, a, hF⟩ := w.ex
  obtain ⟨p, vs, rfl, hp, h1⟩ := hx.lst w a hF
  obtain ⟨p', vs', rfl, hp', h2⟩ := hy.lst w a hF
  have ex : ∃ us : List V, ds.map rigid = us.map some := by
    clear hx hy h1 h2
    induction ds with
    | nil => exact ⟨[], rfl⟩
    | cons d ds ih =>
      obtain ⟨us, e⟩ := ih fun d hd => hr d (List.mem_cons_of_mem _ hd)
      obtain ⟨v, ev⟩ := hr d List.mem_cons_self
      exact ⟨v :: us, by rw [List.map_cons, List.map_cons, e, ev]⟩
  obtain ⟨us, e⟩ := ex
  have e1 := h1.rigid e
  have e2 := h2.rigid e
  subst e1
  subst e2
  refine .inr (.inl ⟨p, p', _, rfl, rfl, .inl (.inl hp), .inl (.inl hp'), fun v hv => ?_, q⟩)
  have : some v ∈ ds.map rigid := by rw [e]; exact List.mem_map_of_mem hv
  obtain ⟨d, _, hd⟩ := List.mem_map.mp this
  exact rigid_plain hd
theorem n_eqDict {a : Addr} (w : Wf F H M) (h : .raw a (.dK []) ∈ M) (q : Q (.bl true) H) : rEqU2 K (.ref a) (.ref a) H Q :=
  .inr (.inr ⟨a, a, [], [], rfl, rfl, w.rawAt h, w.rawAt h, rfl, fun _ h => (nomatch h), q⟩)
theorem n_eqTD {d : D} (w : Wf F H M) (hx : Rk F M x d) (hy : Rk F M y d) (n : NB 60 d) (q : Q (.bl true) H) : rEqU2 K x y H Q := .inl (n_eqT w hx hy n q)
end
/-- a thing of a known kind: by itself, or by a fact of the dict that it is -/
def TyF (F : List (V × D)) (d : D) : Prop := Ty d ∨ ∃ a, d = .ref a ∧ (V.ref a, D.dict) ∈ F
theorem TyF.more {F : List (V × D)} {d : D} {f : V × D} (h : TyF F d) : TyF (f :: F) d := h.elim .inl fun ⟨a, e, m⟩ => .inr ⟨a, e, List.mem_cons_of_mem _ m⟩
theorem Ty.rk {F : List (V × D)} {M : List ME} {v : V} {d : D} (t : Ty d) (h : Kn F v d) : Rk F M v d := Rk.of h fun q => by
  obtain ⟨a, e⟩ := t
  rcases q with ⟨n, rfl⟩ | ⟨n, rfl⟩ <;> cases e
theorem TyF.go {F : List (V × D)} {H : Hp} {M : List ME} {v : V} {d : D} (w : Wf F H M) (h : Kn F v d) (t : TyF F d) : ∃ e, Ty e ∧ Rk F M v e ∧ e.whole = d.whole := by
  rcases t with t | ⟨a, rfl, m⟩
  · exact ⟨d, t, t.rk h, rfl⟩
  · obtain ⟨I, Mc, w, ac, hF⟩ := w.ex
    have e : v = .ref a := (h.is hF).ref_eq
    subst e
    exact ⟨.dict, ⟨_, rfl⟩, .mem m, rfl⟩
end Fs

namespace Fs
open PySem PySem.Spec PyProof.Rows L2
/-- a tuple that the written part holds -/
theorem sqT_of {K : PySem.W.Frag} {H : Hp} {a : Addr} {td : Option Addr} {its : List Value} {n : Nat} {sl : Array (Option Value)} {xs : List V} (l : K.lookup a = some ⟨.type "tuple", td, .seq its.toArray n, sl⟩) (r : Vals xs its) (hz : its.length ≤ 1000) : SqT K H a xs :=
  .inr ⟨_, _, _, l, rfl, rfl, by rw [List.size_toArray, sizeLine_eq]; omega, by simpa using r⟩
section
variable {K : PySem.W.Frag} {H : Hp} {Q : VK} {x : V} {a : Addr} {xs : List V} {b : Bool}
theorem s_inT (h : SqT K H a xs) (f : flatV x = true) (g : xs.all flatV = true) (e : inV x xs = b) (q : Q (.bl b) H) : rIn K false x (.ref a) H Q := ⟨a, xs, rfl, .inr h, f, g, by rw [e]; exact q⟩
end
section
variable {K : PySem.W.Frag} {H : Hp} {F : List (V × D)} {M : List ME} {Q : VK} {v : V} {C a : Addr} {f : Str} {fs : List (Str × D)} {L : List Str} {ds : List D} {i : Int}
theorem n_fldr (w : Wf F H M) (h : Rk F M v (.obj C fs)) (hc : Cls K C) (hn : ∀ f ∈ L, NoAttr K C f) (hf : f ∈ L) (hd : fs.lookup f = some (.ref a)) (q : Q (.ref a) H) : FldQ K f Q v H := n_fld w h hc hn hf hd fun u w => by rw [w.ref0.1]; exact q
theorem n_ixTr (w : Wf F H M) (h : Rk F M v (.tup ds)) (hd : atI ds i = some (.ref a)) (q : Q (.ref a) H) : rIx K v (.int i) H Q := n_ixT w h hd fun u w => by rw [w.ref0.1]; exact q
theorem n_ixLr (w : Wf F H M) (h : Rk F M v (.lst ds)) (hd : atI ds i = some (.ref a)) (q : Q (.ref a) H) : rIx K v (.int i) H Q := n_ixL w h hd fun u w => by rw [w.ref0.1]; exact q
end
theorem k_slT {X : Cx} {K : PySem.W.Frag} (h : X.K = K) : SlR X (rSlT K) := h ▸ sl_tup
theorem n_slT {K : PySem.W.Frag} {H : Hp} {F : List (V × D)} {M : List ME} {Q : VK} {x : V} {ds : List D} {lo hi : Option Int} (w : Wf F H M) (h : Rk F M x (.tup ds)) (hn : ¬ (HT.sIx ds.length 0 lo = 0 ∧ HT.sIx ds.length ds.length hi = ds.length)) (q : ∀ p H', Wf ((.ref p, .tup (cutD ds lo hi)) :: F) H' M → Q (.ref p) H') : rSlT K x lo hi H Q := by
  obtain ⟨I, Mc, w0, ac, hF⟩ := w.ex
  obtain ⟨p, vs, rfl, hp, ha⟩ := h.tup w0 ac hF
  refine ⟨p, vs, rfl, .inl (.inl hp), by rw [ha.length]; exact hn, fun p' hp' => q p' _ (w.newT hp' fun I1 Mc1 w1 a1 hF1 => ?_)⟩
  obtain ⟨p2, vs2, e, hp2, ha2⟩ := h.tup w1 a1 hF1
  cases e
  rw [hp] at hp2
  cases hp2
  exact ha2.cut lo hi
section
variable {K : PySem.W.Frag} {H : Hp} {F : List (V × D)} {M : List ME} {Q : VK} {r : V} {p : Addr} {l : Int} {ds : List D}
/-- a tuple of a number and a list that may be changed, as it is now -/
theorem Wf.deep2 (w : Wf F H M) (h : Rk F M r (.tup [.int l, .ref p])) (hm : ME.ml p ds ∈ M) : Is H r (.tup [.int l, .lst ds]) := by
  obtain ⟨I, Mc, w, ac, hF⟩ := w.ex
  obtain ⟨t, vs, rfl, ht, ha⟩ := h.tup w ac hF
  have hl : Is H (.ref p) (.lst ds) := (Rk.ml (F := F) hm).rd w ac hF
  cases ha with
  | cons h1 ha =>
    cases ha with
    | cons h2 ha =>
      cases ha
      cases h1
      cases h2
      exact .tup ht (.cons (.int l) (.cons hl .nil))
/-- .. and for good -/
theorem Wf.upT (w : Wf F H M) (h : Kn F r (.tup [.int l, .ref p])) (h2 : Kn F (.ref p) (.lst ds)) : Wf ((r, .tup [.int l, .lst ds]) :: F) H M := by
  obtain ⟨I, Mc, w, ac, hF⟩ := w.ex
  have e := h.is hF
  have e2 := h2.is hF
  refine ⟨I, Mc, w, ac, fun f hf => ?_⟩
  rcases List.mem_cons.mp hf with rfl | hf
  · cases e with
    | tup ht ha =>
      cases ha with
      | cons h1 ha =>
        cases ha with
        | cons h2 ha =>
          cases ha
          cases h1
          cases h2
          exact .tup ht (.cons (.int l) (.cons e2 .nil))
  · exact hF f hf
end
end Fs

namespace Fs
open PySem PySem.Spec PyProof.Rows L2
theorem k_all {X : Cx} {K : PySem.W.Frag} (h : X.K = K) (hc : X.calm = true) : CallR X (.builtin "all") (rAll K) := h ▸ cr_all hc
theorem k_any {X : Cx} {K : PySem.W.Frag} (h : X.K = K) (hc : X.calm = true) : CallR X (.builtin "any") (rAny K) := h ▸ cr_any hc
section
variable {K : PySem.W.Frag} {H : Hp} {F : List (V × D)} {M M' : List ME} {Q : VK} {v : V} {p : Addr} {ds : List D} {bs : List Bool} {b : Bool}
theorem IsA.bls {I : Hp} : ∀ {bs : List Bool} {vs : List V}, IsA I vs (bs.map D.bl) → vs = bs.map V.bl
  | [], _, .nil => rfl
  | _ :: _, _, .cons h a => by
    cases h
    rw [IsA.bls a]
    rfl
theorem n_all (w : Wf F H M) (h : Rk F M v (.lst (bs.map D.bl))) (hb : bs.all id = b) (q : Q (.bl b) H) : rAll K [v] H Q := by
  obtain ⟨I, Mc, w, a, hF⟩ := w.ex
  obtain ⟨p, vs, rfl, hp, c⟩ := h.lst w a hF
  have e := c.bls
  subst e
  exact ⟨p, bs, rfl, .inl (.inl hp), by rw [hb]; exact q⟩
theorem n_any (w : Wf F H M) (h : Rk F M v (.lst (bs.map D.bl))) (hb : bs.any id = b) (q : Q (.bl b) H) : rAny K [v] H Q := by
  obtain ⟨I, Mc, w, a, hF⟩ := w.ex
  obtain ⟨p, vs, rfl, hp, c⟩ := h.lst w a hF
  have e := c.bls
  subst e
  exact ⟨p, bs, rfl, .inl (.inl hp), by rw [hb]; exact q⟩
theorem IsA.dropLast {I : Hp} : ∀ {vs : List V} {ds : List D}, IsA I vs ds → IsA I vs.dropLast ds.dropLast
  | _, _, .nil => .nil
  | _, _, .cons _ .nil => .nil
  | _, _, .cons h (.cons h' a) => .cons h (IsA.dropLast (.cons h' a))
theorem n_pop (w : Wf F H M) (f : Foc M (.ml p ds) M' (.ml p ds.dropLast)) (hz : 0 < ds.length) (q : ∀ y H', Wf F H' M' → Q y H') : rPop (.ref p) [] H Q := by
  obtain ⟨I, Mc, w, a, hF⟩ := w.ex
  obtain ⟨M1, m, M2, rfl, h3, h4⟩ := a.foc f
  cases h3 with
  | @ml _ vs _ b =>
    have h2 : vs.length - 1 < vs.length := by have := b.length; omega
    exact ⟨p, vs, _, rfl, rfl, w.at, List.getElem?_eq_getElem h2, q _ _ ⟨I, _, w.put, h4 I _ (Same.refl _) (.ml b.dropLast), hF⟩⟩
end
end Fs

namespace Fs
open PySem PySem.Spec PyProof.Rows L2
/-! ### a method that may raise -/
structure MetX (P : Program) (w : World) (K : PySem.W.Frag) (mg : Str → Option Value) (base : Heap) (m : Str) (C : Addr) (k : Nat) (ps : List Str) (sp : Sp) : Prop where
  ex : ∃ (f : Addr) (fd : FuncData), Cls K C ∧ Meth K C m f ∧ FnOk P w K mg base (L2.CX P w) k f fd ps sp ∧ Binds K fd ps []
def tMethX (C : Addr) (m : Str) (sp : Sp) (W : WX) (ta : TE) (t : TA) : TE := fun σ H Q => ta σ H fun x H1 => MethQ C m x H1 (t σ H1 fun vs H2 => sp (x :: vs) H2 Q (WE W σ))
theorem s_methX {C : Addr} {m : Str} {sp : Sp} {W : WX} {ta : TE} {t : TA} {σ : L2.St} {H : Hp} {Q : VK} (h : ta σ H fun x H1 => MethQ C m x H1 (t σ H1 fun vs H2 => sp (x :: vs) H2 Q (WE W σ))) : tMethX C m sp W ta t σ H Q := h
section
variable {X : Cx} {m : Str} {C : Addr} {pos apos : Pos} {e o : Expr} {es : List Expr} {ta : TE} {t : TA} {k : Nat} {ps : List Str} {sp : Sp} {W : WX}
theorem pe_metX {pl : Sem Bool} (he : PE X o ta) (c : MetX X.prog X.w X.K X.mg X.base m C k ps sp) (hr : Room k X.A) (tk : Takes X W) (ha : PA X (e :: es) t)
    (hst : starEach (e :: es) X.env = (false, eval e X.env) :: starEach es X.env := by rfl) (hpl : (backTo pos (starEach es X.env)).any (·.1) = false := by rfl)
    (ht : eval (.Call (.Attribute o m apos) (e :: es) [] pos) X.env = (do
      let ov ← eval o X.env
      standAt apos.atName
      let (f, first) ← holding [ov] (getMethod ov m pl)
      callWith pos f first (backTo pos (starEach (e :: es) X.env)) (backToKw pos (keywordEach [] X.env))) := by rfl) :
    PE X (.Call (.Attribute o m apos) (e :: es) [] pos) (tMethX C m sp W ta t) := by
  obtain ⟨f, fd, cl, hm, F, hb⟩ := c.ex
  refine ⟨fun pins s σ H Q I h => ?_⟩
  refine PySem.W.methodCall_KW (pl := pl) (thn (he.run pins s σ H _ I h) fun u s1 ⟨x, H1, I1, rx, a, dx, fs, ex, ea, l, q⟩ => ?_) ht
  subst ex
  obtain rfl : u = Value.ref a := rx
  refine getmeth_ok I1 ea cl hm l ?_
  refine PySem.W.callWith_K (first := [.ref a]) (h₀ := X.base) I.ok.mod.kin hm.kp (thn (ha.run pos pins s1 σ H1 _ I1 q) fun us s2 ⟨vs, H2, I2, r, q2⟩ => ⟨I2.kIn, ?_⟩) hst hpl
  exact run_fnS (us := .ref a :: us) (vs := .ref a :: vs) F hr hb (passAt tk σ) I2 (.cons rfl r) q2
end
end Fs

namespace Fs
open PySem PySem.Spec PyProof.Rows L2
/-! ### a dict whose keys are tuples of ints, texts and None -/
def lfV : Leaf → V
  | .none => .non
  | .num i => .int i
  | .text x => .str x
def lfD : Leaf → D
  | .none => .non
  | .num i => .int i
  | .text x => .str x
theorem lfV_is {k : Leaf} {u : Value} (r : RelV (lfV k) u) : Leaf.isOf k u = true := by
  cases k with
  | none =>
    have e : u = Value.none := r
    subst e
    rfl
  | num i =>
    obtain ⟨t, e⟩ := (show ∃ t, u = Value.int i t from r)
    subst e
    exact decide_eq_true rfl
  | text x =>
    obtain ⟨t, e⟩ := (show ∃ t, u = Value.str x t from r)
    subst e
    simp [Leaf.isOf, Value.isStrOf]
theorem itemsL {P : Program} {w : World} : ∀ {ks : List Leaf} {us : List Value}, Vals (ks.map lfV) us → ItemsAre (leafKind P w) ks us
  | [], _, r => by rw [List.map_nil] at r; cases r; exact .nil
  | k :: ks, _, r => by
    rw [List.map_cons] at r
    cases r with
    | cons h t => exact .cons (lfV_is h) (itemsL t)
abbrev NE := List Leaf × Addr × V
abbrev NR (p : NE) (q : List Leaf × Addr × Value) : Prop := p.1 = q.1 ∧ p.2.1 = q.2.1 ∧ RelV p.2.2 q.2.2
def NDok (P : Program) (w : World) (a : Addr) (xs : List NE) (h : Heap) : Prop :=
  xs.length ≤ sizeLine ∧ (a == sysModules) = false ∧ ∃ ys : List (List Leaf × Addr × Value), Paired NR xs ys ∧
    ∃ o es ep, h.get? a = some o ∧ o.ExactDict ∧ o.data = .dict es ep ∧ es.toList = ys.map (entryOfKey (tupleKind (leafKind P w))) ∧ (ys.map (·.1)).Nodup
def ndO (P : Program) (w : World) (a : Addr) (xs : List NE) : HO := .ext (NDok P w a xs)
def KeysAt (H : Hp) (xs : List NE) : Prop := ∀ x ∈ xs, H x.2.1 = some (.tup (x.1.map lfV))
def getN (xs : List NE) (k : List Leaf) : Option V := (xs.find? fun x => decide (x.1 = k)).map (·.2.2)
def putN (xs : List NE) (k : List Leaf) (b : Addr) (v : V) : List NE := if (getN xs k).isSome then xs.map (fun x => if x.1 = k then (x.1, x.2.1, v) else x) else xs ++ [(k, b, v)]
theorem nr_get {xs : List NE} {ys : List (List Leaf × Addr × Value)} (r : Paired NR xs ys) (k : List Leaf) : RelO (getN xs k) ((atKey ys k).map (·.2)) := by
  induction r with
  | nil => exact True.intro
  | @cons p q ps qs h t ih =>
    obtain ⟨h1, _, h2⟩ := h
    by_cases e : p.1 = k
    · have e' : q.1 = k := h1.symm.trans e
      have b : atKey (q :: qs) k = some q.2 := by simp [atKey, List.find?_cons, e']
      have c : getN (p :: ps) k = some p.2.2 := by simp [getN, List.find?_cons, e]
      rw [c, b]; exact h2
    · have e' : ¬ q.1 = k := fun z => e (h1.trans z)
      have b : atKey (q :: qs) k = atKey qs k := by simp [atKey, List.find?_cons, e']
      have c : getN (p :: ps) k = getN ps k := by simp [getN, List.find?_cons, e]
      rw [c, b]; exact ih
theorem nr_repl {xs : List NE} {ys : List (List Leaf × Addr × Value)} (r : Paired NR xs ys) (k : List Leaf) {y : V} {u : Value} (ry : RelV y u) :
    Paired NR (xs.map fun x => if x.1 = k then (x.1, x.2.1, y) else x) (ys.map (putAt k u)) := by
  induction r with
  | nil => exact .nil
  | @cons p q ps qs h t ih =>
    rw [List.map_cons, List.map_cons]
    refine .cons ?_ ih
    obtain ⟨h1, h2, h3⟩ := h
    unfold putAt
    by_cases e : p.1 = k
    · rw [if_pos e, if_pos (h1.symm.trans e)]; exact ⟨h1, h2, ry⟩
    · rw [if_neg e, if_neg (fun z => e (h1.trans z))]; exact ⟨h1, h2, h3⟩
theorem nr_put {xs : List NE} {ys : List (List Leaf × Addr × Value)} (r : Paired NR xs ys) (k : List Leaf) (b : Addr) {y : V} {u : Value} (ry : RelV y u) : Paired NR (putN xs k b y) (storedH ys k b u) := by
  have e : (getN xs k).isSome = (atKey ys k).isSome := by rw [(nr_get r k).isSome_eq, Option.isSome_map]
  unfold putN storedH
  rw [e]
  by_cases q : (atKey ys k).isSome = true
  · rw [if_pos q, if_pos q]; exact nr_repl r k ry
  · rw [if_neg q, if_neg q]; exact Paired.snoc r ⟨rfl, rfl, ry⟩
theorem putN_len (xs : List NE) (k : List Leaf) (b : Addr) (v : V) : (putN xs k b v).length ≤ xs.length + 1 := by
  unfold putN
  split
  · rw [List.length_map]; omega
  · rw [List.length_append, List.length_singleton]; omega
section
variable {P : Program} {w : World} {H : Hp} {h : Heap} {a b : Addr} {xs : List NE}
theorem keyL_of {ks : List Leaf} (ok : HOk P w H h) (e : H a = some (.tup (ks.map lfV))) : (tupleKind (leafKind P w)).is h ks a := by
  obtain ⟨_, its, r, o, h1, h2, n, h3⟩ := (show ObjOk P w H h a (.tup (ks.map lfV)) from ok a _ e)
  exact ⟨o, its.toArray, n, h1, h2, h3, by simpa using itemsL r⟩
theorem nd_rd (ok : HOk P w H h) (e : H a = some (ndO P w a xs)) (hk : KeysAt H xs) : xs.length ≤ sizeLine ∧ (a == sysModules) = false ∧ ∃ ys, Paired NR xs ys ∧ h.DictOfH (tupleKind (leafKind P w)) a ys := by
  obtain ⟨⟨z, y, ys, r, o, es, ep, h1, h2, h3, h4, h5⟩, _⟩ := (show ObjOk P w H h a (.ext (NDok P w a xs)) from ok a _ e)
  refine ⟨z, y, ys, r, o, es, ep, h1, h2, h3, h4, fun x hx => ?_, h5⟩
  have all : ∀ {l : List NE} {m : List (List Leaf × Addr × Value)}, Paired NR l m → (∀ x ∈ l, H x.2.1 = some (.tup (x.1.map lfV))) → ∀ x ∈ m, (tupleKind (leafKind P w)).is h x.1 x.2.1 := by
    intro l m q
    induction q with
    | nil => intro _ x hx; exact nomatch hx
    | @cons p q ps qs hq t ih =>
      intro hh x hx
      rcases List.mem_cons.mp hx with e | hx
      · subst e
        have := hh p List.mem_cons_self
        rw [hq.1, hq.2.1] at this
        exact keyL_of ok this
      · exact ih (fun x hx => hh x (List.mem_cons_of_mem _ hx)) x hx
  exact all r hk x hx
theorem nd_new {H' : Hp} {h' : Heap} {ys : List (List Leaf × Addr × Value)} (z : xs.length ≤ sizeLine) (y : (a == sysModules) = false) (r : Paired NR xs ys) (dd : h'.DictOfH (tupleKind (leafKind P w)) a ys) : ObjOk P w H' h' a (ndO P w a xs) := by
  obtain ⟨o, es, ep, h1, h2, h3, h4, _, h5⟩ := dd
  refine ⟨⟨z, y, ys, r, o, es, ep, h1, h2, h3, h4, h5⟩, ⟨o, h1⟩, fun g1 g2 hg hs => ?_⟩
  obtain ⟨z, y, ys, r, o, es, ep, h1, h2⟩ := hg
  exact ⟨z, y, ys, r, o, es, ep, hs o h1, h2⟩
end
/-- what the dict at a holds at y -/
def NGet (P : Program) (w : World) (H : Hp) (a : Addr) (y : V) (r : Option V) : Prop := ∃ xs k b, H a = some (ndO P w a xs) ∧ KeysAt H xs ∧ y = .ref b ∧ H b = some (.tup (k.map lfV)) ∧ r = getN xs k
def NPut (P : Program) (w : World) (H : Hp) (a : Addr) (y v : V) (H' : Hp) : Prop := ∃ xs k b, H a = some (ndO P w a xs) ∧ KeysAt H xs ∧ y = .ref b ∧ H b = some (.tup (k.map lfV)) ∧ xs.length < sizeLine ∧ H' = upd H a (ndO P w a (putN xs k b v))
def NGetQ (P : Program) (w : World) (Q : VK) (x y : V) (H : Hp) : Prop := ∃ a v, x = .ref a ∧ NGet P w H a y (some v) ∧ Q v H
def NInQ (P : Program) (w : World) (R : Bool → Prop) (x y : V) (H : Hp) : Prop := ∃ a o, x = .ref a ∧ NGet P w H a y o ∧ R o.isSome
def NPutQ (P : Program) (w : World) (R : Hp → Prop) (x y v : V) (H : Hp) : Prop := ∃ a H4, x = .ref a ∧ NPut P w H a y v H4 ∧ R H4
def tNGet (P : Program) (w : World) (td ty : TE) : TE := fun σ H Q => td σ H fun x H1 => ty σ H1 fun y H2 => NGetQ P w Q x y H2
def tNNotIn (P : Program) (w : World) (ty td : TE) : TE := fun σ H Q => ty σ H fun y H1 => td σ H1 fun x H2 => NInQ P w (fun b => Q (.bl (!b)) H2) x y H2
def sNPut (P : Program) (w : World) (td ty tv : TE) : TS := fun D σ H => tv σ H fun v H1 => td σ H1 fun x H2 => ty σ H2 fun y H3 => NPutQ P w (fun H4 => D.nx σ H4) x y v H3
def tNNew (P : Program) (w : World) : TE := fun _ H Q => ∀ p, H p = none → Q (.ref p) (upd H p (ndO P w p []))
section
variable {X : Cx} {o i value : Expr} {pos pos' : Pos} {td ty tv : TE} {P : Program} {w : World}
theorem pe_nget (hP : X.prog = P) (hw : X.w = w) (hu : X.A.units + 1 < cLine) (ho : PE X o td) (hi : PE X i ty) (hs : NoSl i) : PE X (.Subscript o i pos) (tNGet P w td ty) := by
  subst hP hw
  refine ⟨fun pins s σ H Q I h => ?_⟩
  refine subD_of PySem.F.slot_dict_getitem.lookup hs (thn (ho.run pins s σ H _ I h) fun u s1 ⟨x, H1, I1, rx, q1⟩ => thn (hi.run pins s1 σ H1 _ I1 q1) fun iv s2 ⟨y, H2, I2, ry, a, v, ex, g, q2⟩ => ?_)
  subst ex
  obtain rfl : u = Value.ref a := rx
  obtain ⟨xs, k, b, e, hk, ey, eb, l⟩ := g
  subst ey
  obtain rfl : iv = Value.ref b := ry
  obtain ⟨z, hd, ys, rel, dd⟩ := nd_rd I2.hok e hk
  refine ⟨dd.typeIs, ?_⟩
  obtain ⟨w', hw, rw'⟩ := RelO.some_of (v := v) (o := (atKey ys k).map (·.2)) (by rw [l]; exact nr_get rel k)
  obtain ⟨p, hp, hp2⟩ := Option.map_eq_some_iff.mp hw
  refine wpAny_getItem_heap (tupleKind_room_in1 hu) (keyL_of I2.hok eb) dd hp ?_
  rw [hp2]
  exact ⟨v, H2, I2.tok _, rw', q2⟩
theorem pc_nnotin (hP : X.prog = P) (hw : X.w = w) (hu : X.A.units + 1 < cLine) (hi : PE X i ty) (ho : PE X o td) : PC X .NotIn i o (tNNotIn P w ty td) := by
  subst hP hw
  refine ⟨fun pins s σ H Q I h => ?_⟩
  refine thn (hi.run pins s σ H _ I h) fun iv s1 ⟨y, H1, I1, ry, q1⟩ => thn (ho.run pins s1 σ H1 _ I1 q1) fun u s2 ⟨x, H2, I2, rx, a, ov, ex, g, q2⟩ => ?_
  subst ex
  obtain rfl : u = Value.ref a := rx
  obtain ⟨xs, k, b, e, hk, ey, eb, l⟩ := g
  subst ey
  obtain rfl : iv = Value.ref b := ry
  obtain ⟨z, hd, ys, rel, dd⟩ := nd_rd I2.hok e hk
  refine wpAny_notIn_heap (tupleKind_room_in1 hu) (keyL_of I2.hok eb) hd dd ?_
  have q := (nr_get rel k).isSome_eq
  rw [Option.isSome_map] at q
  rw [← q, ← l]
  exact ⟨.bl (!ov.isSome), H2, I2.tok _, rfl, q2⟩
theorem ps_nput (hP : X.prog = P) (hw : X.w = w) (hu : X.A.units + 1 < cLine) (ho : PE X o td) (hi : PE X i ty) (hv : PE X value tv) (hs : swapsWith value (some (.Subscript o i pos')) pos.line X.env = pure false) :
    PS X (.Assign [.Subscript o i pos'] value pos) (sNPut P w td ty tv) := by
  subst hP hw
  refine ⟨fun pins s σ H D I h => ?_⟩
  refine wpAny_Assign_Subscript (thn (hv.run pins s σ H _ I h) fun r s1 ⟨v, H1, I1, rv, q1⟩ => thn (ho.run pins s1 σ H1 _ I1 q1) fun u s2 ⟨x, H2, I2, rx, q2⟩ => thn (hi.run pins s2 σ H2 _ I2 q2) fun iv s3 ⟨y, H3, I3, ry, a, H4, ex, g, q3⟩ => ?_) hs
  subst ex
  obtain rfl : u = Value.ref a := rx
  obtain ⟨xs, k, b, e, hk, ey, eb, hl, rfl⟩ := g
  subst ey
  obtain rfl : iv = Value.ref b := ry
  obtain ⟨z, hd, ys, rel, dd⟩ := nd_rd I3.hok e hk
  have hz : ys.length ≤ sizeLine := by rw [← Paired.length rel]; exact z
  have hl2 : (putN xs k b v).length ≤ sizeLine := by have := putN_len xs k b v; omega
  refine wpAny_setItem_heap (hsz := hz) (tupleKind_room_in1 hu) (keyL_of I3.hok eb) dd fun h' dd' hs => ⟨σ, _, ?_, q3⟩
  have he : ∃ q, h'.get? a = some q := let ⟨q, _, _, hq, _⟩ := dd'; ⟨q, hq⟩
  exact d_write I3 (by rw [e]; exact True.intro) hs he (nd_new hl2 hd (nr_put rel k b rv) dd')
theorem pe_nnew (hP : X.prog = P) (hw : X.w = w) : PE X (.Dict [] [] pos) (tNNew P w) := by
  subst hP hw
  exact ⟨fun pins s σ H Q I h =>
    wpAny_Dict_empty ⟨.ref s.heap.objs.size, _, I.laid (a := s.heap.objs.size) (o := ndO X.prog X.w s.heap.objs.size []) (t' := s.toks) (fun _ _ q => Heap.get?_push_of_some _ q) (Nat.le_refl _)
      (nd_new (Nat.zero_le _) (beq_eq_false_iff_ne.mpr (Ne.symm (Nat.ne_of_lt I.big))) .nil ⟨_, #[], 0, Heap.get?_push_size _ rfl, ⟨rfl, rfl, rfl⟩, rfl, rfl, fun _ h => (nomatch h), List.nodup_nil⟩), rfl, h _ (I.hok.fresh (Nat.le_refl _))⟩⟩
end
theorem kit_self {K : PySem.W.Frag} {C : Addr} : PySem.W.kitOne K (.ref C) (.ref C) = some true := if_pos (beq_self_eq_true _)
section
variable {P : Program} {w : World} {K : PySem.W.Frag} {σ : L2.St} {H : Hp} {F : List (V × D)} {M M' : List ME} {Q : VK} {G : Ends} {v y : V} {p : Addr} {xs : List NE} {k : List Leaf}
theorem s_nget {td ty : TE} (h : td σ H fun x H1 => ty σ H1 fun y H2 => NGetQ P w Q x y H2) : tNGet P w td ty σ H Q := h
theorem s_nnotin {td ty : TE} (h : ty σ H fun y H1 => td σ H1 fun x H2 => NInQ P w (fun b => Q (.bl (!b)) H2) x y H2) : tNNotIn P w ty td σ H Q := h
theorem s_nput {td ty tv : TE} (h : tv σ H fun v H1 => td σ H1 fun x H2 => ty σ H2 fun y H3 => NPutQ P w (fun H4 => G.nx σ H4) x y v H3) : sNPut P w td ty tv G σ H := h
theorem s_nnew (ww : Wf F H M) (q : ∀ p H', Wf F H' (.raw p (ndO P w p []) :: M) → Q (.ref p) H') : tNNew P w σ H Q := fun p hp => q p _ (ww.newRaw hp)
/-- all keys of the dict are known -/
def KnK (F : List (V × D)) (xs : List NE) : Prop := ∀ x ∈ xs, Kn F (.ref x.2.1) (.tup (x.1.map lfD))
theorem isA_leafs {I : Hp} : ∀ {k : List Leaf} {vs : List V}, IsA I vs (k.map lfD) → vs = k.map lfV
  | [], _, h => by cases h; rfl
  | c :: cs, _, h => by
    cases h with
    | cons h1 h2 =>
      rw [isA_leafs h2]
      cases c <;> cases h1 <;> rfl
theorem Wf.keyL (ww : Wf F H M) (h : Rk F M y (.tup (k.map lfD))) : ∃ b, y = .ref b ∧ H b = some (.tup (k.map lfV)) := by
  obtain ⟨I, Mc, ww, a, hF⟩ := ww.ex
  obtain ⟨p, vs, rfl, hp, b⟩ := h.tup ww a hF
  exact ⟨p, rfl, by rw [hp, isA_leafs b]⟩
theorem Kn.rkT {ds : List D} (h : Kn F v (.tup ds)) : Rk F M v (.tup ds) := Rk.of h fun q => by rcases q with ⟨n, e⟩ | ⟨n, e⟩ <;> cases e
theorem KnK.at (ww : Wf F H M) (h : KnK F xs) : KeysAt H xs := fun x hx => by
  obtain ⟨b, e, hb⟩ := ww.keyL (M := M) (h x hx).rkT
  cases e
  exact hb
theorem n_nget {v : V} (ww : Wf F H M) (h : .raw p (ndO P w p xs) ∈ M) (hk : KnK F xs) (hy : Rk F M y (.tup (k.map lfD))) (hg : getN xs k = some v) (q : Q v H) : NGetQ P w Q (.ref p) y H := by
  obtain ⟨b, rfl, hb⟩ := ww.keyL hy
  exact ⟨p, v, rfl, ⟨xs, k, b, ww.rawAt h, hk.at ww, rfl, hb, hg.symm⟩, q⟩
theorem n_nin {R : Bool → Prop} (ww : Wf F H M) (h : .raw p (ndO P w p xs) ∈ M) (hk : KnK F xs) (hy : Rk F M y (.tup (k.map lfD))) (q : R (getN xs k).isSome) : NInQ P w R (.ref p) y H := by
  obtain ⟨b, rfl, hb⟩ := ww.keyL hy
  exact ⟨p, _, rfl, ⟨xs, k, b, ww.rawAt h, hk.at ww, rfl, hb, rfl⟩, q⟩
theorem n_nput {R : Hp → Prop} {M2 : HO → List ME} (ww : Wf F H M) (f : ∀ o', Foc M (.raw p (ndO P w p xs)) (M2 o') (.raw p o')) (hk : KnK F xs) (hy : Rk F M y (.tup (k.map lfD))) (hl : xs.length ≤ 100000) (q : ∀ b H', y = .ref b → Wf F H' (M2 (ndO P w p (putN xs k b v))) → R H') : NPutQ P w R (.ref p) y v H := by
  obtain ⟨b, rfl, hb⟩ := ww.keyL hy
  have h : .raw p (ndO P w p xs) ∈ M := (f (.lst [])).mem
  refine ⟨p, _, rfl, ⟨xs, k, b, ww.rawAt h, hk.at ww, rfl, hb, Nat.lt_of_le_of_lt hl (by decide), rfl⟩, q b _ rfl ?_⟩
  exact ww.put (f _) fun I m hF c => by cases c; exact ⟨rfl, .raw fun _ e => nomatch e⟩
end
/-! ### a list that may be changed, handed to a def of the elder form -/
theorem Rem.of {M : List ME} {e : ME} (h : e ∈ M) : ∃ M', Rem M e M' := by
  induction M with
  | nil => cases h
  | cons x M ih =>
    rcases List.mem_cons.mp h with rfl | h
    · exact ⟨M, .here⟩
    · obtain ⟨M', r⟩ := ih h
      exact ⟨x :: M', .there r⟩
theorem Wf.oldL {F : List (V × D)} {H : Hp} {M M' : List ME} {p : Addr} {ds : List D} (w : Wf F H M) (r : Rem M (.ml p ds) M') : ∃ I Mc, W I H Mc ∧ Is I (.ref p) (.lst ds) ∧ (∀ v d, Kn F v d → Is I v d) ∧ (∀ J H', Same I J → W J H' Mc → Wf F H' M) ∧ ∀ J H' u a b, Same I J → W J H' Mc → Is J u (.tup [.int a, .int b]) → Wf ((u, .tup [.int a, .int b]) :: F) H' M := by
  obtain ⟨I, Mc, w, ac, hF⟩ := w.ex
  obtain ⟨M1, m, M2, rfl, h1, h2⟩ := ac.rem r
  cases h1 with
  | @ml _ vs _ b =>
    have hI : I p = none := (w.mu _ (List.mem_append_right _ List.mem_cons_self)).2
    have go : ∀ J H', Same (upd I p (.lst vs)) J → W J H' (M1 ++ M2) → Same I (fun x => if x = p then none else J x) ∧ W (fun x => if x = p then none else J x) H' (M1 ++ (p, .lst vs) :: M2) := fun J H' s w' => by
      have hJ : J p = some (.lst vs) := s _ _ upd_same
      refine ⟨fun c x e => ?_, fun c x e => ?_, fun x hx => ?_, w.nd⟩
      · have ne : c ≠ p := fun q => by rw [q, hI] at e; cases e
        show (if c = p then none else J c) = some x
        rw [if_neg ne]
        exact s _ _ (by rw [upd_ne ne]; exact e)
      · have e' : (if c = p then none else J c) = some x := e
        by_cases ne : c = p
        · rw [if_pos ne] at e'; cases e'
        · rw [if_neg ne] at e'
          exact w'.imm _ _ e'
      · rcases List.mem_append.mp hx with hx | hx
        · obtain ⟨q1, q2⟩ := w'.mu x (List.mem_append_left _ hx)
          exact ⟨q1, by show (if x.1 = p then none else J x.1) = none; rw [q2]; split <;> rfl⟩
        · rcases List.mem_cons.mp hx with rfl | hx
          · exact ⟨w'.imm _ _ hJ, if_pos rfl⟩
          · obtain ⟨q1, q2⟩ := w'.mu x (List.mem_append_right _ hx)
            exact ⟨q1, by show (if x.1 = p then none else J x.1) = none; rw [q2]; split <;> rfl⟩
    refine ⟨upd I p (.lst vs), M1 ++ M2, w.frz, .lst upd_same (b.mono w.frzS), fun v d h => (h.is hF).mono w.frzS, fun J H' s w' => ?_, fun J H' u x y s w' hu => ?_⟩
    · obtain ⟨g1, g2⟩ := go J H' s w'
      exact ⟨_, _, g2, ac.mono g1, fun f hf => (hF f hf).mono g1⟩
    · obtain ⟨g1, g2⟩ := go J H' s w'
      refine ⟨_, _, g2, ac.mono g1, fun f hf => ?_⟩
      rcases List.mem_cons.mp hf with rfl | hf
      · have hJ : J p = some (.lst vs) := s _ _ upd_same
        obtain ⟨q, us, e, hq, hh⟩ := hu.tup_ex
        subst e
        have ne : q ≠ p := fun z => by rw [z, hJ] at hq; cases hq
        refine .tup (show (if q = p then none else J q) = some (.tup us) by rw [if_neg ne]; exact hq) ?_
        cases hh with
        | cons k1 hh =>
          cases hh with
          | cons k2 hh =>
            cases hh
            cases k1
            cases k2
            exact .cons (.int _) (.cons (.int _) .nil)
      · exact (hF f hf).mono g1
/-- .. or for good -/
theorem Wf.oldR {F : List (V × D)} {H : Hp} {M : List ME} {v : V} {ds : List D} (w : Wf F H M) (h : Rk F M v (.lst ds)) : ∃ I Mc, W I H Mc ∧ Is I v (.lst ds) ∧ (∀ v d, Kn F v d → Is I v d) ∧ (∀ J H', Same I J → W J H' Mc → Wf F H' M) ∧ ∀ J H' u a b, Same I J → W J H' Mc → Is J u (.tup [.int a, .int b]) → Wf ((u, .tup [.int a, .int b]) :: F) H' M := by
  cases h with
  | mem h =>
    obtain ⟨I, Mc, w, is, k1, k2⟩ := w.old
    exact ⟨I, Mc, w, is _ _ (.mem h), is, k1, fun J H' u a b s w' hu => k2 J H' u _ s w' hu⟩
  | ml h =>
    obtain ⟨M', r⟩ := Rem.of h
    exact w.oldL r
end Fs

namespace Fs
open PySem PySem.Spec PyProof.Rows L2
theorem s_rng2 {σ : L2.St} {H : Hp} {ta : TA} {R : It → Hp → Prop} (h : ta σ H fun vs H1 => ∃ i j : Int, vs = [.int i, .int j] ∧ (-(2 ^ 62) ≤ i ∧ i < 2 ^ 62 ∧ -(2 ^ 62) ≤ j ∧ j < 2 ^ 62) ∧ R (Itr i (j - i).toNat) H1) : iRng2 ta σ H R := h
theorem s_rng2' {P : Int → Int → Prop} {i j : Int} (h1 : -(2 ^ 62) ≤ i) (h2 : i < 2 ^ 62) (h3 : -(2 ^ 62) ≤ j) (h4 : j < 2 ^ 62) (h : P i j) : ∃ i' j' : Int, [V.int i, V.int j] = [.int i', .int j'] ∧ (-(2 ^ 62) ≤ i' ∧ i' < 2 ^ 62 ∧ -(2 ^ 62) ≤ j' ∧ j' < 2 ^ 62) ∧ P i' j' := ⟨i, j, rfl, ⟨h1, h2, h3, h4⟩, h⟩
section
variable {K : PySem.W.Frag} {σ : L2.St} {H : Hp} {F : List (V × D)} {M M' : List ME} {Q : VK} {G : Ends} {v u x y : V} {ds es : List D} {g : TG} {tb : TS} {te : TE} {tt : TT} {a b : Addr} {J : It} {n : Nat} {f : Nat → D} {OK : List (V × D) → List ME → Prop}
/-- any comprehension, what is known and what may be changed goes along -/
theorem n_lcK {xs : List Nat} (S : Src J n f OK) (w : Wf F H M) (R : Nat → List D → List (V × D) → List ME → Prop) (okm : ∀ i D acc F M, R i acc F M → OK F (.ml D acc :: M)) (h0 : R 0 [] F M) (hn : n ≤ 100000)
    (step : ∀ i x D acc H0 F M (Ap : VK) (Sk : Hp → Prop), i < n → R i acc F M → Wf ((x, f i) :: F) H0 (.ml D acc :: M) → (∀ y d H4 F' M', Wf ((y, d) :: F') H4 (.ml D acc :: M') → R (i + 1) (acc ++ [d]) F' M' → Ap y H4) → (∀ H3 F' M', Wf F' H3 (.ml D acc :: M') → R (i + 1) acc F' M' → Sk H3) →
      g x (wipe σ xs) H0 fun σ2 H2 => wipe σ2 xs = wipe σ xs ∧ tt σ2 H2 fun b H3 => if b = true then te σ2 H3 Ap else Sk H3)
    (q : ∀ p es H' F' M', R n es F' M' → Wf F' H' (.ml p es :: M') → Q (.ref p) H') : LcGo J g tt te xs σ Q H := by
  intro D nD
  have w0 : Wf F (upd H D (.lst [])) (.ml D [] :: M) := by
    obtain ⟨I, Mc, w, a, hF⟩ := w.ex
    exact ⟨I, _, w.newM nD, .cons (.ml .nil) a, hF⟩
  refine ⟨fun i m H => m = n - i ∧ i ≤ n ∧ ∃ acc F M, R i acc F M ∧ acc.length ≤ i ∧ Wf F H (.ml D acc :: M), ⟨n, rfl, Nat.zero_le _, [], F, M, h0, Nat.le_refl _, w0⟩, ?_⟩
  rintro i m H ⟨rfl, hi, acc, F, M, hR, hl, w⟩
  by_cases hlt : i < n
  · refine .inr ⟨S.go i H _ _ hlt (okm _ _ _ _ _ hR) w, fun H' => ∃ acc F M, R (i + 1) acc F M ∧ acc.length ≤ i + 1 ∧ Wf F H' (.ml D acc :: M), fun H' ⟨acc', F', M', h1, h2, h3⟩ => ⟨n - (i + 1), by omega, rfl, hlt, acc', F', M', h1, h2, h3⟩, fun x H' y => ?_⟩
    refine step i x D acc H' F M _ _ hlt hR (S.yld i H _ _ x H' hlt (okm _ _ _ _ _ hR) w y) (fun y d H4 F' M' w4 r => ?_) fun H3 F' M' w3 r => ⟨acc, F', M', r, by omega, w3⟩
    obtain ⟨vs, h1, h2⟩ := w4.lstAt List.mem_cons_self
    have w5 : Wf F' (upd H4 D (.lst (vs ++ [y]))) (.ml D (acc ++ [d]) :: M') := by
      obtain ⟨I, Mc, w, a, hF⟩ := w4.ex
      cases a with
      | cons h a =>
        cases h with
        | ml b =>
          have := w.at0
          rw [this] at h1
          cases h1
          exact ⟨I, _, w.put0, .cons (.ml (b.app (.one (hF _ List.mem_cons_self)))) a, fun f hf => hF f (List.mem_cons_of_mem _ hf)⟩
    exact ⟨vs, h1, by rw [h2]; exact Nat.lt_of_le_of_lt hl (Nat.lt_of_lt_of_le hlt (Nat.le_trans hn (by decide))), acc ++ [d], F', M', r, by rw [List.length_append]; exact Nat.add_le_add_right hl 1, w5⟩
  · have e : i = n := by omega
    subst e
    exact .inl ⟨S.stop H _ _ (okm _ _ _ _ _ hR) w, q D acc H F M hR w⟩
theorem n_lcKL {xs : List Nat} (w : Wf F H M) (R : Nat → List D → List (V × D) → List ME → Prop) (hv : ∀ i acc F M, R i acc F M → Rk F M v (.lst ds)) (h0 : R 0 [] F M) (hn : ds.length ≤ 100000)
    (step : ∀ i d x D acc H0 F M (Ap : VK) (Sk : Hp → Prop), ds[i]? = some d → R i acc F M → Wf ((x, d) :: F) H0 (.ml D acc :: M) → (∀ y d H4 F' M', Wf ((y, d) :: F') H4 (.ml D acc :: M') → R (i + 1) (acc ++ [d]) F' M' → Ap y H4) → (∀ H3 F' M', Wf F' H3 (.ml D acc :: M') → R (i + 1) acc F' M' → Sk H3) →
      g x (wipe σ xs) H0 fun σ2 H2 => wipe σ2 xs = wipe σ xs ∧ tt σ2 H2 fun b H3 => if b = true then te σ2 H3 Ap else Sk H3)
    (q : ∀ p es H' F' M', R ds.length es F' M' → Wf F' H' (.ml p es :: M') → Q (.ref p) H') : ∃ a, v = .ref a ∧ (∃ xs, SqL K H a xs) ∧ LcGo (Itl K a) g tt te xs σ Q H := by
  obtain ⟨I, Mc, p, vs, rfl, w1, ac, hF, hp, b⟩ := w.lstE (hv _ _ _ _ h0)
  refine ⟨p, rfl, ⟨vs, .inl (.inl hp)⟩, n_lcK src_list w R (fun i D acc F M h => (hv _ _ _ _ h).more) h0 hn (fun i x D acc H0 F M Ap Sk hi hR w k1 k2 => ?_) q⟩
  have e1 : ds[i]? = some ds[i] := List.getElem?_eq_getElem hi
  rw [getD_of e1] at w
  exact step i _ x D acc H0 F M Ap Sk e1 hR w k1 k2
end
/-! ### whether a number is among some -/
theorem k_in {X : Cx} {K : PySem.W.Frag} (h : X.K = K) : OpR X (compareOp .In) (rIn K false) := h ▸ op_in_seq
theorem k_notin {X : Cx} {K : PySem.W.Frag} (h : X.K = K) : OpR X (compareOp .NotIn) (rIn K true) := h ▸ op_notIn_seq
theorem inV_ints (n : Int) : ∀ ns : List Int, inV (.int n) (ns.map V.int) = decide (n ∈ ns)
  | [] => rfl
  | m :: ns => by
    have := inV_ints n ns
    unfold inV at this ⊢
    rw [List.map_cons, List.any_cons, this]
    have e : eqV (.int m) (.int n) = decide (n = m) := by
      show (m == n) = _
      by_cases h : n = m
      · subst h; simp
      · have h2 : m ≠ n := fun z => h z.symm
        simp [h, h2]
    rw [e]
    simp only [List.mem_cons, Bool.decide_or]
theorem flat_ints : ∀ ns : List Int, (ns.map V.int).all flatV = true
  | [] => rfl
  | _ :: ns => by rw [List.map_cons, List.all_cons, flat_ints ns]; rfl
section
variable {K : PySem.W.Frag} {H : Hp} {F : List (V × D)} {M : List ME} {Q : VK} {v : V}
theorem n_in {ns : List Int} {n : Int} (w : Wf F H M) (h : Rk F M v (.lst (ns.map D.int))) (q : Q (.bl (decide (n ∈ ns))) H) : rIn K false (.int n) v H Q := by
  obtain ⟨p, rfl, hp⟩ := w.ints h
  exact ⟨p, _, rfl, .inl (.inl (.inl hp)), rfl, flat_ints ns, by rw [inV_ints]; exact q⟩
theorem n_notin {ns : List Int} {n : Int} (w : Wf F H M) (h : Rk F M v (.lst (ns.map D.int))) (q : Q (.bl (!decide (n ∈ ns))) H) : rIn K true (.int n) v H Q := by
  obtain ⟨p, rfl, hp⟩ := w.ints h
  exact ⟨p, _, rfl, .inl (.inl (.inl hp)), rfl, flat_ints ns, by rw [inV_ints]; exact q⟩
end
def natD (n : Nat) : D := .int n
def nz (l : List Nat) : List Int := l.map fun e : Nat => (e : Int)
theorem natD_map (l : List Nat) : l.map natD = (nz l).map D.int := by unfold nz; rw [List.map_map]; rfl
theorem mem_nz {l : List Nat} {e : Nat} : (e : Int) ∈ nz l ↔ e ∈ l := by
  unfold nz
  rw [List.mem_map]
  constructor
  · rintro ⟨a, h, e⟩
    have : a = _ := Int.ofNat.inj e
    exact this ▸ h
  · exact fun h => ⟨e, h, rfl⟩
/-! ### list(d): the keys of a dict -/
def LdQ (Q : VK) (xs : List V) (H : Hp) : Prop := ∃ (a : Addr) (kvs : List (Key × V)), xs = [.ref a] ∧ Rd H a (.dK kvs) ∧ ∀ p, H p = none → Q (.ref p) (upd H p (.lst (kvs.map fun kv => kV kv.1)))
theorem k_listD {X : Cx} (hc : X.calm = true) : CallR X (.type "list") (fun xs H Q => LdQ Q xs H) := call_listD hc
theorem IsP.keys {I : Hp} : ∀ {vs : List (Key × V)} {ds : List (Key × D)}, IsP I vs ds → IsA I (vs.map fun kv => kV kv.1) (ds.map fun kv => keyD kv.1)
  | _, _, .nil => .nil
  | _, _, .cons (f := k) h a => .cons (by cases k with | inl i => exact .int i | inr i => exact .str i) (IsP.keys a)
theorem n_listD {H : Hp} {F : List (V × D)} {M : List ME} {Q : VK} {p : Addr} {kvs : List (Key × D)} (w : Wf F H M) (h : .dk p kvs ∈ M) (q : ∀ l H', Wf F H' (.ml l (kvs.map fun kv => keyD kv.1) :: M) → Q (.ref l) H') : LdQ Q [.ref p] H := by
  obtain ⟨I, Mc, vs, w, a, hF, hp, ha⟩ := w.dkAt h
  exact ⟨p, vs, rfl, .inl hp, fun l hl => q l _ ⟨I, _, w.newM hl, .cons (.ml ha.keys) a, hF⟩⟩
end Fs

namespace Fs
open PySem PySem.Spec PyProof.Rows L2
/-! ### sorted(d, reverse=True): the keys of d are pairs of ints -/
def pairAt (H : Hp) : V → Int × Int
  | .ref a => match H a with
    | some (.tup [.int i, .int j]) => (i, j)
    | _ => (0, 0)
  | _ => (0, 0)
def ndK (n : Int × Int) : List Key := [.inl n.1, .inl n.2]
def lexGe (a b : Int × Int) : Prop := b.1 < a.1 ∨ (a.1 = b.1 ∧ b.2 ≤ a.2)
def rSortRevT : List V → List V → Hp → VK → Prop := fun vs zs H Q => ∃ (d : Addr) (kvs : List (List Key × V)) (ns : List (Int × Int)), vs = [.ref d] ∧ zs = [.bl true] ∧ Rd H d (.dT kvs) ∧ kvs.map (·.1) = ns.map ndK ∧
  ∀ (ms : List (Int × Int)) (bs : List Addr) (p : Addr), ms.Perm ns → ms.Pairwise lexGe → bs.length = ms.length → (∀ (i : Nat) (b : Addr) (m : Int × Int), bs[i]? = some b → ms[i]? = some m → H b = some (.tup [.int m.1, .int m.2])) → H p = none → Q (.ref p) (upd H p (.lst (bs.map V.ref)))
theorem keyAcc {P : Program} {w : World} {es : Array DictEntry} {ks : List (List Key × Addr × Value)} {acc : Array Value} (he : es.toList = ks.map (entryOfKey (tupleKind (mixKind P w)))) (it : ItemsOf (fun i v => ∃ en : DictEntry, es[i]? = some en ∧ v = en.key) acc es.size) : acc.toList = (ks.map fun x => x.2.1).map Value.ref := by
  have l1 : acc.toList.length = ks.length := by
    rw [Array.length_toList, it.1, ← Array.length_toList, he, List.length_map]
  refine List.ext_getElem (by rw [l1, List.length_map, List.length_map]) fun j h1 h2 => ?_
  have hj : j < ks.length := by omega
  obtain ⟨en, q1, q2⟩ := it.2 j _ (by rw [← Array.getElem?_toList]; exact List.getElem?_eq_getElem h1)
  have q3 : es.toList[j]? = some en := by rw [Array.getElem?_toList]; exact q1
  rw [he, List.getElem?_map, List.getElem?_eq_getElem hj] at q3
  rw [q2, ← Option.some.inj q3, List.getElem_map, List.getElem_map]
  rfl
theorem kt_keys {H : Hp} {kvs : List (List Key × V)} {ks : List (List Key × Addr × Value)} (r : KT H kvs ks) : ∀ {ns : List (Int × Int)}, kvs.map (·.1) = ns.map ndK → (ks.map fun x => pairAt H (.ref x.2.1)) = ns ∧ ∀ x ∈ ks, ∃ n : Int × Int, H x.2.1 = some (.tup [.int n.1, .int n.2]) := by
  induction r with
  | nil =>
    intro ns e
    cases ns with
    | nil => exact ⟨rfl, fun _ h => (nomatch h)⟩
    | cons n ns => cases e
  | @cons p q ps qs h t ih =>
    intro ns e
    cases ns with
    | nil => cases e
    | cons n ns =>
      injection e with e1 e2
      obtain ⟨i1, i2⟩ := ih e2
      have h2 := h.2.1
      rw [show p.1 = ndK n from e1] at h2
      have h3 : H q.2.1 = some (.tup [.int n.1, .int n.2]) := h2
      refine ⟨?_, fun x hx => ?_⟩
      · rw [List.map_cons, i1]
        congr 1
        show (match H q.2.1 with | some (.tup [.int i, .int j]) => (i, j) | _ => (0, 0)) = n
        rw [h3]
      · rcases List.mem_cons.mp hx with rfl | hx
        · exact ⟨n, h3⟩
        · exact i2 x hx
section
variable {X : Cx}
theorem cr_sortedRevT (hc : X.calm = true) : CallRK X (.builtin "sorted") [Str.ofString "reverse"] rSortRevT := by
  intro pins s σ H vs zs us ws Q I r rz h
  obtain ⟨d, kvs, ns, rfl, rfl, hd, hk, q⟩ := h
  obtain rfl := Vals.ref1 r
  obtain ⟨w1, rfl, e1⟩ := vals1 rz
  obtain rfl : w1 = Value.bool true := e1
  obtain ⟨z, hs, ks, pr, o, es, ep, ho, hx, hdt, he, hn⟩ := (show ObjOk X.prog X.w H s.heap d (.dT kvs) from hd.ok I.hok)
  have lk : kvs.length = ks.length := Paired.length pr
  have le : es.size = ks.length := by rw [← Array.length_toList, he, List.length_map]
  refine call_function_entry_kw kind_sorted plain_sorted entry_sorted (args_sorted_rev _ _) ?_
  unfold Builtin.«sorted»
  refine wpAny_bind (m := checkCount "sorted" 1 1 _) (wpAny_pure ?_)
  refine wpAny_bind (PySem.W.kdu_collect (A := X.A.in1) (kdl_raw hs hx hdt) (I.ok.hd hc) ho (by omega) fun h' tk acc kp hacc => ?_)
  have ea := keyAcc he hacc
  have hsz : acc.toList.length = ks.length := by rw [ea]; simp
  obtain ⟨hns, hkey⟩ := kt_keys pr hk
  have hit : ∀ v ∈ acc.toList, ∃ b, v = Value.ref b ∧ ∃ n : Int × Int, H b = some (.tup [.int n.1, .int n.2]) := fun v hv => by
    rw [ea, List.map_map] at hv
    obtain ⟨x, hx, rfl⟩ := List.mem_map.mp hv
    exact ⟨_, rfl, hkey x hx⟩
  have hpa : ∀ b (n : Int × Int), H b = some (.tup [.int n.1, .int n.2]) → pairAt H (.ref b) = n := fun b n e => by
    show (match H b with | some (.tup [.int i, .int j]) => (i, j) | _ => (0, 0)) = n
    rw [e]
  refine wpAny_bind (wpAny_newList ?_ (by omega))
  have hoL : (h'.push (seqObj "list" acc.toList.toArray 0)).get? h'.objs.size = some (seqObj "list" acc.toList.toArray 0) := Heap.get?_push_size _ rfl
  refine wpAny_bind (wpAny_holding (wpAny_call_entry_kw slot_list_sort ⟨_, hoL, rfl⟩ entry_list_sort ?_ (args_list_sort_rev _ _)))
  refine SrtR.list_sort_ordR (SrtO.swo_lex fun u => pairAt H (backV u)) hoL (by omega) (fun h2 => ?_) fun out h1 h2 => ⟨_, rfl, ?_⟩
  · refine SrtO.pairs_sortableO (by omega) (fun v hv => ?_) fun o e => ?_
    · obtain ⟨b, rfl, n, hb⟩ := hit v hv
      obtain ⟨_, its2, r2, o2, ho2, hc2, n2, hd2⟩ := I.hok _ _ hb
      obtain ⟨u1, u2, rfl, ri, rj⟩ := vals2 r2
      obtain ⟨t1, rfl⟩ := ri
      obtain ⟨t2, rfl⟩ := rj
      rw [show pairAt H (backV (.ref b)) = n from hpa b n hb]
      exact ⟨b, o2, t1, t2, n2, rfl, Heap.get?_push_of_some _ (kp _ _ ho2), hc2, hd2⟩
    · have e' := Option.some.inj (e.symm.trans hoL)
      rw [e']
      intro c
      exact absurd (Value.type.inj c) (by decide)
  · refine wpAny_pure ⟨_, rfl, ?_⟩
    have h3 : ∀ u ∈ out, u ∈ acc.toList := fun u hu => List.mem_reverse.mp (h2.perm.mem_iff.mp hu)
    have hn1 : H h'.objs.size = none := (I.hok.kept kp).fresh (Nat.le_refl _)
    have hn2 : s.heap.get? h'.objs.size = none := by
      cases e : s.heap.get? h'.objs.size with
      | none => rfl
      | some u => exact absurd (Heap.lt_size (kp _ _ e)) (Nat.lt_irrefl _)
    obtain ⟨c, hfin⟩ := PyProof.Rows.sortedHeap_at (out := out.toArray.reverse) hoL
    have hlen : out.length = ks.length := by rw [h2.len]; simp [ea]
    have e0 : (if True then out.toArray.reverse else out.toArray) = out.reverse.toArray := by simp
    refine ⟨.ref _, upd H h'.objs.size (.lst ((out.reverse.map fun u => match u with | .ref a => a | _ => 0).map V.ref)), I.laidN (t' := tk) (fun b u e => ?_) hn2 hn1 ⟨?_, out.reverse, c, ?_, ?_⟩, rfl, q (out.reverse.map fun u => pairAt H (backV u)) (out.reverse.map fun u => match u with | .ref a => a | _ => 0) h'.objs.size ?_ ?_ (by simp) (fun i b m hb hm => ?_) hn1⟩
    · have hb := Heap.lt_size (kp _ _ e)
      rw [PyProof.Rows.sortedHeap_old (Nat.ne_of_lt hb) (by rw [size_push']; exact Nat.lt_succ_of_lt hb)]
      exact Heap.get?_push_of_some _ (kp _ _ e)
    · rw [List.length_map, List.length_map, List.length_reverse, hlen]; omega
    · rw [List.map_map]
      have : ∀ l : List Value, (∀ u ∈ l, ∃ b, u = Value.ref b) → Vals (l.map (V.ref ∘ fun u => match u with | .ref a => a | _ => 0)) l := fun l => by
        induction l with
        | nil => exact fun _ => .nil
        | cons u l ih =>
          intro hl
          obtain ⟨b, rfl⟩ := hl u List.mem_cons_self
          exact .cons rfl (ih fun v hv => hl v (List.mem_cons_of_mem _ hv))
      exact this _ fun u hu => by
        obtain ⟨b, e, _⟩ := hit u (h3 u (List.mem_reverse.mp hu))
        exact ⟨b, e⟩
    · simpa using hfin
    · have h4 : (out.reverse.map fun u => pairAt H (backV u)).Perm (acc.toList.map fun u => pairAt H (backV u)) := ((List.reverse_perm _).trans (h2.perm.trans (List.reverse_perm _))).map _
      have h5 : (acc.toList.map fun u => pairAt H (backV u)) = ns := by
        rw [ea, List.map_map, List.map_map, ← hns]
        rfl
      rw [h5] at h4
      exact h4
    · rw [List.pairwise_map, List.pairwise_reverse]
      refine h1.imp fun {u v} hh => ?_
      have := SrtO.lexB_no.mp hh
      unfold lexGe
      omega
    · rw [List.getElem?_map] at hb hm
      cases e : out.reverse[i]? with
      | none => rw [e] at hb; cases hb
      | some u =>
        rw [e] at hb hm
        obtain ⟨b', rfl, n, hb'⟩ := hit u (h3 u (List.mem_reverse.mp (List.mem_of_getElem? e)))
        cases hb
        have em : m = n := (Option.some.inj hm).symm.trans (hpa b' n hb')
        rw [em]
        exact hb'
end
/-! ### pairs known for good -/
inductive KnP (F : List (V × D)) {κ : Type} : List (κ × V) → List (κ × D) → Prop
  | nil : KnP F [] []
  | cons {f : κ} {v : V} {d : D} {vs : List (κ × V)} {ds : List (κ × D)} : Kn F v d → KnP F vs ds → KnP F ((f, v) :: vs) ((f, d) :: ds)
theorem Kn.sub {F F' : List (V × D)} {v : V} {d : D} (h : Kn F v d) (s : KS F F') : Kn F' v d := by
  cases h with
  | mem h => exact s _ h
  | int n => exact .int n
  | bl n => exact .bl n
  | str n => exact .str n
  | non => exact .non
  | ty n => exact .ty n
  | ref a => exact .ref a
theorem KnP.sub {F F' : List (V × D)} {κ : Type} (s : KS F F') : ∀ {vs : List (κ × V)} {ds : List (κ × D)}, KnP F vs ds → KnP F' vs ds
  | _, _, .nil => .nil
  | _, _, .cons h a => .cons (h.sub s) (KnP.sub s a)
theorem KnP.more {F : List (V × D)} {κ : Type} {f : V × D} {vs : List (κ × V)} {ds : List (κ × D)} (h : KnP F vs ds) : KnP (f :: F) vs ds := h.sub KS.refl.drop
theorem KnP.isP {I : Hp} {F : List (V × D)} {κ : Type} (hF : ∀ f ∈ F, Is I f.1 f.2) : ∀ {vs : List (κ × V)} {ds : List (κ × D)}, KnP F vs ds → IsP I vs ds
  | _, _, .nil => .nil
  | _, _, .cons h a => .cons (h.is hF) (KnP.isP hF a)
theorem KnP.length {F : List (V × D)} {κ : Type} : ∀ {vs : List (κ × V)} {ds : List (κ × D)}, KnP F vs ds → vs.length = ds.length
  | _, _, .nil => rfl
  | _, _, .cons _ a => by rw [List.length_cons, List.length_cons, KnP.length a]
theorem KnP.at {F : List (V × D)} {κ : Type} : ∀ {vs : List (κ × V)} {ds : List (κ × D)}, KnP F vs ds → ∀ {i : Nat} {k : κ} {u : V}, vs[i]? = some (k, u) → ∃ e, ds[i]? = some (k, e)
  | _, _, .nil, i, k, u, e => by simp at e
  | _, _, .cons _ a, 0, k, u, e => by cases e; exact ⟨_, rfl⟩
  | _, _, .cons _ a, i + 1, k, u, e => KnP.at a (i := i) e
theorem IsP.facts {I : Hp} {κ : Type} : ∀ {vs : List (κ × V)} {ds : List (κ × D)}, IsP I vs ds → ∃ F : List (V × D), (∀ f ∈ F, Is I f.1 f.2) ∧ KnP F vs ds
  | _, _, .nil => ⟨[], fun _ h => (nomatch h), .nil⟩
  | _, _, .cons (v := v) (d := d) h a => by
    obtain ⟨F, h1, h2⟩ := IsP.facts a
    refine ⟨(v, d) :: F, fun f hf => ?_, .cons (.mem List.mem_cons_self) h2.more⟩
    rcases List.mem_cons.mp hf with rfl | hf
    · exact h
    · exact h1 f hf
/-! ### a tuple that stands in the heap is known for good -/
theorem Cn.notT {I : Hp} {e : ME} {m : Addr × HO} (h : Cn I e m) : ∀ vs, m.2 ≠ .tup vs := by
  cases h with
  | raw hn => exact hn
  | ml _ => exact fun _ e => nomatch e
  | mi _ => exact fun _ e => nomatch e
  | bag hb =>
    obtain ⟨_, x, y, z, hb⟩ := hb
    have := hb.ob
    intro vs e
    rw [show _ = _ from this] at e
    cases e
  | dk _ => exact fun _ e => nomatch e
  | dt _ => exact fun _ e => nomatch e
  | cel _ => exact fun _ e => nomatch e
  | tb _ _ => exact fun _ e => nomatch e
theorem CnA.notT {I : Hp} {M : List ME} {Mc : List (Addr × HO)} (a : CnA I M Mc) : ∀ m ∈ Mc, ∀ vs, m.2 ≠ .tup vs := by
  induction a with
  | nil => exact fun _ h => nomatch h
  | cons h a ih =>
    intro m hm
    rcases List.mem_cons.mp hm with rfl | hm
    · exact h.notT
    · exact ih m hm
theorem Wf.tupN {F : List (V × D)} {H : Hp} {M : List ME} {q : Addr} {vs : List V} {ds : List D} (w : Wf F H M) (h : H q = some (.tup vs)) (hv : ∀ I, IsA I vs ds) : Wf ((.ref q, .tup ds) :: F) H M := by
  obtain ⟨I, Mc, w, a, hF⟩ := w.ex
  by_cases e : I q = none
  · have s : Same I (upd I q (.tup vs)) := fun b o hb => by
      have : b ≠ q := fun z => by rw [z, e] at hb; cases hb
      rw [upd_ne this]
      exact hb
    refine ⟨upd I q (.tup vs), Mc, ⟨fun b o hb => ?_, fun m hm => ⟨(w.mu m hm).1, ?_⟩, w.nd⟩, a.mono s, fun f hf => ?_⟩
    · by_cases hbq : b = q
      · subst hbq
        rw [upd_same] at hb
        rw [h, hb]
      · rw [upd_ne hbq] at hb
        exact w.imm b o hb
    · have : m.1 ≠ q := fun z => by
        have h1 := (w.mu m hm).1
        rw [z, h] at h1
        exact a.notT m hm vs (Option.some.inj h1).symm
      rw [upd_ne this]
      exact (w.mu m hm).2
    · rcases List.mem_cons.mp hf with rfl | hf
      · exact .tup upd_same (hv _)
      · exact (hF f hf).mono s
  · obtain ⟨o, ho⟩ := Option.ne_none_iff_exists'.mp e
    have h2 := w.imm q o ho
    rw [h] at h2
    cases h2
    exact ⟨I, Mc, w, a, fun f hf => by
      rcases List.mem_cons.mp hf with rfl | hf
      · exact .tup ho (hv _)
      · exact hF f hf⟩
theorem isA_key {I : Hp} : ∀ k : List Key, IsA I (k.map kV) (k.map keyD)
  | [] => .nil
  | k :: r => .cons (by cases k with | inl i => exact .int i | inr s => exact .str s) (isA_key r)
theorem Wf.keyN {F : List (V × D)} {H : Hp} {M : List ME} {q : Addr} {k : List Key} (w : Wf F H M) (h : H q = some (.tup (k.map kV))) : Wf ((.ref q, .tup (k.map keyD)) :: F) H M := w.tupN h fun I => isA_key k
/-! ### a dict with tuple keys that is walked -/
section
variable {K : PySem.W.Frag} {σ : L2.St} {H : Hp} {F : List (V × D)} {M M0 M' : List ME} {Q : VK} {G : Ends} {v x y : V} {p : Addr} {g : TG} {tb : TS} {td : TE} {kvs : List (List Key × D)} {vs : List (List Key × V)} {od : Obj} {d : D} {k : List Key}
theorem Wf.lockT (w : Wf F H M) (hr : Rem M (.dt p kvs) M0) : ∃ vs FX, H p = some (.dT vs) ∧ KS F FX ∧ KnP FX vs kvs ∧ ∀ od, Wf FX (upd H p (.frz od (.dT vs))) (.raw p (.frz od (.dT vs)) :: M0) := by
  obtain ⟨I, Mc, w, a, hF⟩ := w.ex
  obtain ⟨M1, m, M2, rfl, h3, h4⟩ := a.rem hr
  cases h3 with
  | @dt _ vs _ b =>
    obtain ⟨VF, q1, q2⟩ := b.facts
    refine ⟨vs, VF ++ F, w.at, fun f hf => .mem (List.mem_append_right _ hf), q2.sub fun f hf => .mem (List.mem_append_left _ hf), fun od => ?_⟩
    have w2 : W I (upd H p (.frz od (.dT vs))) (M1 ++ (p, .frz od (.dT vs)) :: M2) := w.put
    exact ⟨I, _, w2.perm List.perm_middle, .cons (.raw fun _ e => nomatch e) h4, fun f hf => (List.mem_append.mp hf).elim (q1 f) (hF f)⟩
theorem Wf.unlockT (w : Wf F H (.raw p (.frz od (.dT vs)) :: M)) (k : KnP F vs kvs) : H p = some (.frz od (.dT vs)) ∧ Wf F (upd H p (.dT vs)) (.dt p kvs :: M) := by
  refine ⟨w.rawAt List.mem_cons_self, ?_⟩
  obtain ⟨I, Mc, w, a, hF⟩ := w.ex
  cases a with
  | cons h a =>
    cases h with
    | raw _ => exact ⟨I, _, w.put0, .cons (.dt (k.isP hF)) a, hF⟩
/-- the heap of such a loop -/
def LIL (L : ME) (R : L2.St → List (V × D) → List ME → Prop) (σ : L2.St) (H : Hp) : Prop := ∃ F M, R σ F M ∧ Wf F H (L :: M)
/-- for k in d -/
theorem n_forKT (w : Wf F H M) (hr : Rem M (.dt p kvs) M0) (ht : ∀ H' (Q : VK), Q (.ref p) H' → td σ H' Q)
    (h : ∀ od vs FX, KS F FX → KnP FX vs kvs → ∃ R : Nat → L2.St → List (V × D) → List ME → Prop, (∀ i σ F' M', R i σ F' M' → KnP F' vs kvs) ∧ R 0 σ FX M0 ∧
      (∀ i k e x σ H F' M', kvs[i]? = some (k, e) → R i σ F' M' → Wf ((x, .tup (k.map keyD)) :: F') H (.raw p (.frz od (.dT vs)) :: M') →
        g x σ H fun σ2 H2 => tb { nx := LIL (.raw p (.frz od (.dT vs))) (R (i + 1)), ct := LIL (.raw p (.frz od (.dT vs))) (R (i + 1)), bk := fun σ' H' => H' p = some (.frz od (.dT vs)) ∧ G.nx σ' (upd H' p (.dT vs)), rt := fun v H' => H' p = some (.frz od (.dT vs)) ∧ G.rt v (upd H' p (.dT vs)) } σ2 H2) ∧
      ∀ σ H F' M', R kvs.length σ F' M' → Wf F' H (.dt p kvs :: M') → G.nx σ H) : tLock (tFor (iKeys td) g tb) G σ H := by
  obtain ⟨vs, FX, h1, h2, h3, h4⟩ := w.lockT hr
  refine ⟨p, .dT vs, h1, trivial, fun od => ?_⟩
  obtain ⟨R, r1, r2, r3, r4⟩ := h od vs FX h2 h3
  refine ht _ _ ⟨p, od, rfl, .inr ⟨vs, upd_same, ?_⟩⟩
  have hl := h3.length
  refine ⟨fun i m σ H => m = kvs.length - i ∧ i ≤ kvs.length ∧ LIL (.raw p (.frz od (.dT vs))) (R i) σ H, ⟨kvs.length, rfl, Nat.zero_le _, FX, M0, r2, h4 od⟩, ?_⟩
  rintro i m σ H ⟨rfl, hi, F', M', hR, w⟩
  have hat := w.rawAt List.mem_cons_self
  by_cases hlt : i < kvs.length
  · refine .inr ⟨⟨hat, by omega⟩, LIL (.raw p (.frz od (.dT vs))) (R (i + 1)), fun σ' H' z => ⟨kvs.length - (i + 1), by omega, rfl, hlt, z⟩, fun x H' y => ?_⟩
    obtain ⟨rfl, k, u, q, e1, rfl, hq⟩ := y
    obtain ⟨e, e2⟩ := h3.at e1
    exact r3 i k e _ σ _ F' M' e2 hR (w.keyN hq)
  · have e : i = kvs.length := by omega
    subst e
    obtain ⟨q1, q2⟩ := w.unlockT (r1 _ _ _ _ hR)
    exact .inl ⟨⟨hat, by omega⟩, q1, r4 σ _ F' M' hR q2⟩
/-- what such a dict holds -/
theorem KnP.get : ∀ {vs : List (List Key × V)} {kvs : List (List Key × D)}, KnP F vs kvs → ∀ {k : List Key} {d : D}, getP kvs k = some d → ∃ v, valV vs k = some v ∧ Kn F v d
  | _, _, .nil, k, d, e => by cases e
  | _, _, .cons (f := f) h a, k, d, e => by
    by_cases q : f = k
    · have : getP ((f, _) :: _) k = some _ := e
      rw [getP, List.find?_cons, decide_eq_true q] at this
      cases this
      exact ⟨_, valV_pos q, h⟩
    · have : getP ((f, _) :: _) k = some _ := e
      rw [getP, List.find?_cons, decide_eq_false q] at this
      obtain ⟨v, h1, h2⟩ := KnP.get a (k := k) this
      exact ⟨v, by rw [valV_neg q]; exact h1, h2⟩
theorem n_dgetTF (w : Wf F H M) (h : .raw p (.frz od (.dT vs)) ∈ M) (hk : KnP F vs kvs) (hy : Rk F M y (.tup (k.map keyD))) (hd : getP kvs k = some d) (q : ∀ u, Wf ((u, d) :: F) H M → Q u H) : DGetQ Q (.ref p) y H := by
  obtain ⟨b, rfl, hb⟩ := w.keyT hy
  obtain ⟨v, h1, h2⟩ := hk.get hd
  exact ⟨p, v, rfl, .inr ⟨vs, k, b, .inr ⟨od, w.rawAt h⟩, rfl, hb, h1.symm⟩, q v (w.add h2)⟩
/-- a return, a break from within -/
theorem Wf.retT {R : Hp → Prop} (w : Wf F H (.raw p (.frz od (.dT vs)) :: M)) (hk : KnP F vs kvs) (q : ∀ H', Wf F H' (.dt p kvs :: M) → R H') : H p = some (.frz od (.dT vs)) ∧ R (upd H p (.dT vs)) := ⟨(w.unlockT hk).1, q _ (w.unlockT hk).2⟩
end
/-! ### sorted(d, reverse=True) -/
def nD (n : Int × Int) : D := .tup [.int n.1, .int n.2]
theorem ndK_D (n : Int × Int) : (ndK n).map keyD = [.int n.1, .int n.2] := rfl
theorem k_sortRT {X : Cx} (hc : X.calm = true) : CallRK X (.builtin "sorted") [Str.ofString "reverse"] rSortRevT := cr_sortedRevT hc
theorem s_ckw {r : List V → List V → Hp → VK → Prop} {t tk : TA} {σ : L2.St} {H : Hp} {Q : VK} (h : t σ H fun vs H1 => tk σ H1 fun zs H2 => r vs zs H2 Q) : tCKw r t tk σ H Q := h
section
variable {K : PySem.W.Frag} {σ : L2.St} {H : Hp} {F : List (V × D)} {M M' : List ME} {Q : VK} {p : Addr} {kvs : List (List Key × D)} {ns : List (Int × Int)}
theorem Wf.nodesN {F : List (V × D)} {H : Hp} {M : List ME} (w : Wf F H M) : ∀ {bs : List Addr} {ms : List (Int × Int)}, bs.length = ms.length → (∀ (i : Nat) (b : Addr) (m : Int × Int), bs[i]? = some b → ms[i]? = some m → H b = some (.tup [.int m.1, .int m.2])) → ∃ FX, (∀ f ∈ F, f ∈ FX) ∧ Wf FX H M ∧ KnA FX (bs.map V.ref) (ms.map nD)
  | [], [], _, _ => ⟨F, fun _ h => h, w, .nil⟩
  | [], _ :: _, e, _ => by cases e
  | _ :: _, [], e, _ => by cases e
  | b :: bs, m :: ms, e, h => by
    obtain ⟨FX, h1, h2, h3⟩ := Wf.nodesN w (bs := bs) (ms := ms) (Nat.succ.inj e) fun i b' m' => h (i + 1) b' m'
    refine ⟨(.ref b, nD m) :: FX, fun f hf => List.mem_cons_of_mem _ (h1 f hf), h2.tupN (h 0 b m rfl rfl) fun I => .cons (.int _) (.cons (.int _) .nil), .cons (.mem List.mem_cons_self) ?_⟩
    have : ∀ {xs : List V} {ds : List D}, KnA FX xs ds → KnA ((.ref b, nD m) :: FX) xs ds := fun {xs ds} a => by
      induction a with
      | nil => exact .nil
      | cons h a ih => exact .cons h.more ih
    exact this h3
theorem n_sortRT (w : Wf F H M) (h : .dt p kvs ∈ M) (hk : kvs.map (·.1) = ns.map ndK) (q : ∀ (ms : List (Int × Int)) p H', ms.Perm ns → ms.Pairwise lexGe → Wf F H' (.ml p (ms.map nD) :: M) → Q (.ref p) H') : rSortRevT [.ref p] [.bl true] H Q := by
  obtain ⟨I, Mc, vs, w1, a, hF, hp, ha⟩ := w.dtAt h
  have e : vs.map (·.1) = kvs.map (·.1) := by
    clear hp hk h
    induction ha with
    | nil => rfl
    | cons _ _ ih => rw [List.map_cons, List.map_cons, ih]
  refine ⟨p, vs, ns, rfl, rfl, .inl hp, e.trans hk, fun ms bs l h1 h2 h3 h4 hl => q ms l _ h1 h2 ?_⟩
  obtain ⟨FX, f1, f2, f3⟩ := w.nodesN h3 h4
  obtain ⟨I2, Mc2, w2, a2, hF2⟩ := f2.ex
  exact ⟨I2, _, w2.newM hl, .cons (.ml (f3.is hF2)) a2, fun f hf => hF2 f (f1 f hf)⟩
end
/-! ### long lists; the last one is taken -/
section
variable {K : PySem.W.Frag} {σ : L2.St} {H : Hp} {F : List (V × D)} {M M' : List ME} {Q : VK} {x : V} {p : Addr} {ds : List D} {d : D}
theorem n_appB (w : Wf F H M) (f : Foc M (.ml p ds) M' (.ml p (ds ++ [d]))) (h : Kn F x d) (hz : ds.length ≤ 10000000) (q : ∀ H', Wf F H' M' → Q .non H') : rAppend (.ref p) [x] H Q := by
  obtain ⟨I, Mc, w, a, hF⟩ := w.ex
  obtain ⟨M1, m, M2, rfl, h3, h4⟩ := a.foc f
  cases h3 with
  | ml b =>
    exact ⟨p, _, x, rfl, rfl, w.at, by rw [b.length]; exact Nat.lt_of_le_of_lt hz (by decide), q _ ⟨I, _, w.put, h4 I _ (Same.refl _) (.ml (b.app (.one (h.is hF)))), hF⟩⟩
theorem n_popD (w : Wf F H M) (f : Foc M (.ml p ds) M' (.ml p ds.dropLast)) (hd : ds[ds.length - 1]? = some d) (q : ∀ y H', Wf ((y, d) :: F) H' M' → Q y H') : rPop (.ref p) [] H Q := by
  obtain ⟨I, Mc, w, a, hF⟩ := w.ex
  obtain ⟨M1, m, M2, rfl, h3, h4⟩ := a.foc f
  cases h3 with
  | @ml _ vs _ b =>
    have h0 : ds.length - 1 < ds.length := (List.getElem?_eq_some_iff.mp hd).1
    have h2 : vs.length - 1 < vs.length := by rw [b.length]; exact h0
    obtain ⟨d', e1, e2⟩ := b.of (List.getElem?_eq_getElem h2)
    rw [b.length, hd] at e1
    cases e1
    refine ⟨p, vs, _, rfl, rfl, w.at, List.getElem?_eq_getElem h2, q _ _ ⟨I, _, w.put, h4 I _ (Same.refl _) (.ml b.dropLast), fun f hf => ?_⟩⟩
    rcases List.mem_cons.mp hf with rfl | hf
    · exact e2
    · exact hF f hf
end
end Fs

namespace Fs
open PySem PySem.Spec PyProof.Rows L2
/-! ### try with several clauses `except X as e` -/
abbrev Clause := Value × Nat × (Addr → Value → Option Addr → TS)
/-- what the clauses wish of an exception, one behind the other -/
def wAsM (K : PySem.W.Frag) (Wout : WX) (D : Ends) : List Clause → WX
  | [] => Wout
  | (c, i, ts) :: r => wAs K c i ts (wAsM K Wout D r) D
inductive HdsAs (X : Cx) : List ExceptHandler → List Clause → Prop
  | nil : HdsAs X [] []
  | cons {x n : Str} {c : Value} {i : Nat} {ts : Addr → Value → Option Addr → TS} {b₀ : Stmt} {suite : List Stmt} {np pos' : Pos} {hds : List ExceptHandler} {l : List Clause} (hi : X.N[i]? = some n) (hln : X.env.kindOf n = some .local) (hc : Names X x c)
      (hsu : ∀ (a : Addr) (oe : Obj) (cls : Value) (d : Option Addr) (pn : List (Addr × Obj)), Zc cls d oe → (∃ vs, oe.data = .fields vs) → PSs (X.suite a ((a, oe) :: pn)) (b₀ :: suite) (ts a cls d)) (r : HdsAs X hds l) :
      HdsAs X (.ExceptHandler (some (.Name x np)) (some n) (b₀ :: suite) pos' :: hds) ((c, i, ts) :: l)
/-- an exception `a` is caught and has landed: the clauses are gone through -/
structure Cau (X : Cx) (pins : List (Addr × Obj)) (σ : L2.St) (H : Hp) (a : Addr) (cls : Value) (d : Option Addr) (s : Shared) : Prop where
  ex : ∃ (B : Heap) (sI : Shared), Inv X pins σ H sI ∧ (∀ b o, sI.heap.get? b = some o → b ∉ frs X.stack → B.get? b = some o) ∧ HandSPX.FlyingZ B (X.env :: X.outer) a (Zc cls d) s.heap ∧ sI.heap.UpToSlots s.heap ∧ s.os = sI.os ∧ AllBare s.gens
  na : H a = none
section
variable {X : Cx} {pins : List (Addr × Obj)} {σ : L2.St} {H : Hp} {a : Addr} {cls : Value} {d : Option Addr} {s : Shared}
theorem Cau.inv (c : Cau X pins σ H a cls d s) : Inv X pins σ H s := by
  obtain ⟨B, sI, I, nb, fl, up, os, ag⟩ := c.ex
  exact I.landed nb fl.1 up os ag
theorem Cau.again (c : Cau X pins σ H a cls d s) {M : Model} {A : Around} {E : Value → Shared → Prop} {Q : Unit → Shared → Prop} (q : ∀ s', Cau X pins σ H a cls d s' → Q () s') : wpAny M A (setFlight (.ref a) none) Q E s := by
  obtain ⟨B, sI, I, nb, fl, up, os, ag⟩ := c.ex
  exact HandSPX.lands_againZ fl fun h' fl' up' => q _ ⟨⟨B, sI, I, nb, fl', up.trans up', os, ag⟩, c.na⟩
/-- the thing that is caught; the clause's own state -/
theorem Cau.suite (c : Cau X pins σ H a cls d s) (hs : X.stack = X.env :: X.outer) (hf : X.env.frame = some X.env.locals) : ∃ oe, s.heap.get? a = some oe ∧ Zc cls d oe ∧ (∃ vs, oe.data = .fields vs) ∧ Inv (X.suite a ((a, oe) :: (X.pn ++ pins))) [] σ H s := by
  have J := c.inv
  obtain ⟨B, sI, I, nb, fl, up, os, ag⟩ := c.ex
  obtain ⟨oe, vs, he, hz, hd⟩ := fl.there
  have out : a ∉ frs (X.env :: X.outer) := fun hm => by
    obtain ⟨_, o', e', hn⟩ := fl.2.2.1.mem hm
    cases he.symm.trans e'
    exact hn _ hd
  exact ⟨oe, he, hz, ⟨vs, hd⟩, J.suite he hd c.na
    (fun z => out (List.mem_filterMap.mpr ⟨X.env, List.mem_cons_self, by rw [hf, z]⟩))
    (fun hm => by
      obtain ⟨e, h1, h2⟩ := List.mem_filterMap.mp hm
      exact out (List.mem_filterMap.mpr ⟨e, List.mem_cons_of_mem _ h1, h2⟩))⟩
/-- no clause is left -/
theorem Cau.out (c : Cau X pins σ H a cls d s) (hs : X.stack = X.env :: X.outer) (hf : X.env.frame = some X.env.locals) {W : WX} (tk : Takes X W) (w : W cls d σ H) {Q : Flow → Shared → Prop} : wpAny (model X.prog X.w) X.A (handleBy (.ref a) X.env []) Q X.xe s := by
  have J := c.inv
  obtain ⟨B, sI, I, nb, fl, up, os, ag⟩ := c.ex
  refine wpAny_handleBy_nil ?_
  obtain ⟨_, _, _, oe, vs, T, oT, ts', he, hz, hd, h1, hr⟩ := id fl
  have fin : wpAny (model X.prog X.w) X.A (setFlight (.ref a) X.env.frame) (fun _ s4 => wpAny (model X.prog X.w) X.A (throw (.ref a) : Sem Flow) Q X.xe s4) X.xe s := by
    rw [hf]
    exact HandSPX.setFlight_upZ fl fun h4 hh4 up4 => wpAny_throw (tk _ _ ⟨a, B, sI, pins, σ, H, cls, d, rfl, I, nb, up.trans up4, .inr (.inr (by rw [hs]; exact hh4)), c.na, os, ag, w⟩)
  unfold PySem.passOn
  refine wpAny_bind (wpAny_field he hd h1 ?_)
  rw [if_neg (by simp)]
  first
    | exact wpAny_bind (wpAny_pure (wpAny_bind fin))
    | exact wpAny_bind fin
end
section
variable {X : Cx} {body : List Stmt} {h₀ : ExceptHandler} {hds : List ExceptHandler} {l : List Clause} {pos : Pos} {tb : WX → TS} {Wout : WX}
/-- the clauses, gone through -/
theorem Cau.go {pins : List (Addr × Obj)} {σ : L2.St} {H : Hp} {a : Addr} {cls : Value} {d : Option Addr} {D : Ends} (ok : X.Ok) (hs : X.stack = X.env :: X.outer) (hf : X.env.frame = some X.env.locals) (hN : X.N.Nodup) (tk : Takes X Wout) {hds : List ExceptHandler} {l : List Clause} (hk : HdsAs X hds l) :
    ∀ {s : Shared}, Cau X pins σ H a cls d s → wAsM X.K Wout D l cls d σ H → wpAny (model X.prog X.w) X.A (handleBy (.ref a) X.env hds) (SP X pins D) X.xe s := by
  induction hk with
  | nil => exact fun c w => c.out hs hf tk w
  | @cons x n k i ts b₀ suite np pos' hds2 l2 hi hln hc hsu r ih =>
    intro s c w
    obtain ⟨b, hb1, hyes, hno⟩ := w
    obtain ⟨oe, he, hz, _, S⟩ := c.suite hs hf
    refine wpAny_handleBy_cons (codeAny_handlers_test ?_) (by intro q; cases q)
    have LM := PySem.W.exm_one (M := model X.prog X.w) (c.inv.kIn) (fun A Q E s k q => wpAny_typeOf_ref (k _ _ he) (by rw [hz.1]; exact q)) hb1
    have test : ∀ {Q : Value → Shared → Prop} {E : Value → Shared → Prop}, Q k s → wpAny (model X.prog X.w) (X.A.mark (some (.ref a))) (eval (.Name x np) X.env) Q E s := fun {Q E} q => by
      obtain ⟨hg, hdbg, hm | ⟨hm, hv, hnn⟩⟩ := hc
      · exact ld_glob (X := X.suite a ((a, oe) :: (X.pn ++ pins))) S hg hm q hdbg
      · exact ld_blt (X := X.suite a ((a, oe) :: (X.pn ++ pins))) S hg hm hv q hnn hdbg
    refine test (LM.here ?_)
    cases b with
    | false => exact ih c (hno rfl)
    | true =>
      refine codeAny_handlers_suite_as (c.again fun s4 c4 => ?_)
      obtain ⟨oe4, he4, hz4, hd4, S4⟩ := c4.suite hs hf
      refine store_ok (X := X.suite a ((a, oe4) :: (X.pn ++ pins))) (v := .ref a) S4 hN hi (.inl hln) rfl (fun s5 S5 => ?_) (.inr hln)
      refine wpAny_mono ((hsu a oe4 cls d (X.pn ++ pins) hz4 hd4).run [] s5 _ H _ S5 (hyes rfl a c.na)) (fun f s6 hsp => ?_) (fun _ _ z => False.elim z)
      have gone : ∀ {σ6 : L2.St} {H6 : Hp} {Q : Shared → Prop}, Inv (X.suite a ((a, oe4) :: (X.pn ++ pins))) [] σ6 H6 s6 → (∀ s7, Inv X pins (σ6.set i none) H6 s7 → Q s7) →
          wpAny (model X.prog X.w) X.A (do bindName X.env n .none; unbindBehindTheSuite X.env n pos') (fun _ s7 => Q s7) X.xe s6 := fun S6 hq => gone_ok (S6.unsuite ok) hN hi hln hq
      cases f with
      | ret u =>
        obtain ⟨v6, σ6, H6, S6, r6, q6⟩ := hsp
        exact gone S6 fun s7 J7 => ⟨_, _, _, J7, r6, q6⟩
      | _ =>
        obtain ⟨σ6, H6, S6, q6⟩ := hsp
        exact gone S6 fun s7 J7 => ⟨_, _, J7, q6⟩
theorem ps_try_asM (hs : X.stack = X.env :: X.outer) (hf : X.env.frame = some X.env.locals) (hN : X.N.Nodup) (tk : Takes X Wout)
    (hb : ∀ (W : WX) (pn : List (Addr × Obj)) (xe : Value → Shared → Prop), Takes (X.tr pn xe) W → PassesOwn (model X.prog X.w) X.A X.env xe → PSs (X.tr pn xe) body (tb W))
    (hh : HdsAs X (h₀ :: hds) l) : PS X (.Try body (h₀ :: hds) [] [] pos) (fun D σ H => tb (wAsM X.K Wout D l) D σ H) := by
  refine ⟨fun pins s σ H D I h => ?_⟩
  have ok := I.ok
  have B := hb (wAsM X.K Wout D l) (X.pn ++ pins) (fun e s₁ => wpAny (model X.prog X.w) X.A (noteFrame e X.env) (fun _ s₂ => wpAny (model X.prog X.w) X.A (setFlight e none) (fun _ s₃ =>
    wpAny (model X.prog X.w) X.A (handleBy e X.env (h₀ :: hds)) (SP X pins D) X.xe s₃) X.xe s₂) X.xe s₁) (fun u s' xx => by
      obtain ⟨a, B, sI, pins', σ', H', cls, d, rfl, J', nb, up, sky, na, os, ag, w⟩ := xx
      refine Sky.land Zc.steady (by rw [ok.frames, hs]) hf (by rw [← hs]; exact sky) fun h3 fl3 up3 => ?_
      exact Cau.go ok hs hf hN tk hh ⟨⟨B, sI, J'.ofTry ok, nb, fl3, up.trans up3, os, ag⟩, na⟩ w) PassesOwn.looking
  refine wpAny_Try_except (wpAny_mono (B.run [] s σ H D (I.toTry _) h) (fun f s1 q => ?_) fun _ _ z => z)
  cases f with
  | next => obtain ⟨σ', H', J', q⟩ := q; exact wpAny_execs_nil ⟨σ', H', J'.ofTry ok, q⟩
  | ret u => obtain ⟨v, σ', H', J', r, q⟩ := q; exact ⟨v, σ', H', J'.ofTry ok, r, q⟩
  | _ => obtain ⟨σ', H', J', q⟩ := q; exact ⟨σ', H', J'.ofTry ok, q⟩
end
/-- a clause that does not fit -/
theorem s_missed {K : PySem.W.Frag} {cls c : Value} {i : Nat} {ts : Addr → Value → Option Addr → TS} {D : Ends} {d : Option Addr} {σ : L2.St} {H : Hp} {W : WX} (e : PySem.W.exmOne K cls c = some false) (h : W cls d σ H) : wAs K c i ts W D cls d σ H := ⟨false, e, fun q => (nomatch q), fun _ => h⟩
theorem s_hit {K : PySem.W.Frag} {cls c : Value} {i : Nat} {ts : Addr → Value → Option Addr → TS} {D : Ends} {d : Option Addr} {σ : L2.St} {H : Hp} {W : WX} (e : PySem.W.exmOne K cls c = some true)
    (h : ∀ a, H a = none → ts a cls d { nx := fun σ' H' => D.nx (σ'.set i none) H', rt := D.rt, bk := fun σ' H' => D.bk (σ'.set i none) H', ct := fun σ' H' => D.ct (σ'.set i none) H' } (σ.set i (some (.ref a))) H) : wAs K c i ts W D cls d σ H := ⟨true, e, fun _ a ha => h a ha, fun q => (nomatch q)⟩
theorem s_par3 {i j l : Nat} {tA : TA} {G : Ends} {σ : L2.St} {H : Hp} (h : tA σ H fun vs H1 => ∃ u v w, vs = [u, v, w] ∧ G.nx (((σ.set i (some u)).set j (some v)).set l (some w)) H1) : tPar3 i j l tA G σ H := h
theorem s_par3' {P : V → V → V → Prop} {x y z : V} (h : P x y z) : ∃ u v w, [x, y, z] = [u, v, w] ∧ P u v w := ⟨x, y, z, rfl, h⟩
/-- a call by either of two contracts -/
theorem pe_two {X : Cx} {e : Expr} {t1 t2 : TE} (h1 : PE X e t1) (h2 : PE X e t2) : PE X e (fun σ H Q => t1 σ H Q ∨ t2 σ H Q) := ⟨fun pins s σ H Q I h => h.elim (h1.run pins s σ H Q I) (h2.run pins s σ H Q I)⟩
theorem ps_two {X : Cx} {s : Stmt} {t1 t2 : TS} (h1 : PS X s t1) (h2 : PS X s t2) : PS X s (fun D σ H => t1 D σ H ∨ t2 D σ H) := ⟨fun pins s σ H D I h => h.elim (h1.run pins s σ H D I) (h2.run pins s σ H D I)⟩
end Fs

namespace Fs
open PySem PySem.Spec PyProof.Rows L2
/-! ### cells that are shown to a callee, as things that are read alone -/
theorem topO_ok {P : Program} {w : World} {H : Hp} {h : Heap} {a : Addr} {o : Obj} (e : h.get? a = some o) : ObjOk P w H h a topO := ⟨trivial, ⟨o, e⟩, fun _ _ _ _ => trivial⟩
def addC : List (Addr × Obj) → Hp → Hp
  | [], H => H
  | c :: cs, H => upd (addC cs H) c.1 (.frz c.2 topO)
def cutC (cs : List (Addr × Obj)) (H : Hp) : Hp := fun b => if b ∈ cs.map (·.1) then none else H b
section
variable {P : Program} {w : World} {H H' : Hp} {h h' : Heap} {cs : List (Addr × Obj)} {b : Addr} {o : HO}
theorem addC_ne (n : b ∉ cs.map (·.1)) : addC cs H b = H b := by
  induction cs with
  | nil => rfl
  | cons c cs ih =>
    rw [List.map_cons, List.mem_cons, not_or] at n
    show upd (addC cs H) c.1 _ b = _
    rw [upd_ne n.1, ih n.2]
theorem addC_at (nd : (cs.map (·.1)).Nodup) {c : Addr × Obj} (hc : c ∈ cs) : addC cs H c.1 = some (.frz c.2 topO) := by
  induction cs with
  | nil => cases hc
  | cons d cs ih =>
    rw [List.map_cons, List.nodup_cons] at nd
    show upd (addC cs H) d.1 _ c.1 = _
    rcases List.mem_cons.mp hc with rfl | hc
    · exact upd_same
    · rw [upd_ne (fun e => nd.1 (by rw [← e]; exact List.mem_map_of_mem hc)), ih nd.2 hc]
theorem addC_or (nd : (cs.map (·.1)).Nodup) (b : Addr) : (∃ c ∈ cs, b = c.1 ∧ addC cs H b = some (.frz c.2 topO)) ∨ (b ∉ cs.map (·.1) ∧ addC cs H b = H b) := by
  by_cases hb : b ∈ cs.map (·.1)
  · obtain ⟨c, hc, e⟩ := List.mem_map.mp hb
    exact .inl ⟨c, hc, e.symm, by rw [← e]; exact addC_at nd hc⟩
  · exact .inr ⟨hb, addC_ne hb⟩
theorem cutC_nil {H : Hp} : cutC [] H = H := funext fun b => if_neg (by simp)
theorem cutC_in (hb : b ∈ cs.map (·.1)) : cutC cs H b = none := if_pos hb
theorem cutC_ne (hb : b ∉ cs.map (·.1)) : cutC cs H b = H b := if_neg hb
/-- a description that leans on fewer or more of the things that are not read -/
theorem objOk_of {a : Addr} (x : ObjOk P w H h a o) (ho : ∀ b, H b = some (.own a) → H' b = some (.own a)) (ht : ∀ b xs, H b = some (.tup xs) → H' b = some (.tup xs)) : ObjOk P w H' h a o :=
  x.stay (fun _ _ _ e => e) ho ht
theorem hok_add (nd : (cs.map (·.1)).Nodup) (x : HOk P w H h) (hc : ∀ c ∈ cs, H c.1 = none ∧ h.get? c.1 = some c.2) : HOk P w (addC cs H) h := fun b o e => by
  have out : ∀ b' o', H b' = some o' → addC cs H b' = some o' := fun b' o' e' => by
    rcases addC_or (H := H) nd b' with ⟨c, h1, h2, _⟩ | ⟨_, h2⟩
    · rw [h2, (hc c h1).1] at e'
      cases e'
    · rw [h2]
      exact e'
  rcases addC_or (H := H) nd b with ⟨c, h1, h2, h3⟩ | ⟨_, h2⟩
  · rw [h3] at e
    cases e
    rw [h2]
    exact ⟨(hc c h1).2, topO_ok (hc c h1).2⟩
  · rw [h2] at e
    exact objOk_of (x b o e) (fun _ q => out _ _ q) fun _ _ q => out _ _ q
theorem hok_cut (x : HOk P w H h) (hc : ∀ c ∈ cs, ∃ u, H c.1 = some (.frz c.2 u)) : HOk P w (cutC cs H) h := fun b o e => by
  have hb : b ∉ cs.map (·.1) := fun z => by
    rw [cutC_in z] at e
    cases e
  rw [cutC_ne hb] at e
  have out : ∀ b' o', H b' = some o' → (∀ ob u, o' ≠ .frz ob u) → cutC cs H b' = some o' := fun b' o' e' n => by
    by_cases z : b' ∈ cs.map (·.1)
    · obtain ⟨c, h1, h2⟩ := List.mem_map.mp z
      obtain ⟨u, h3⟩ := hc c h1
      rw [← h2, h3] at e'
      exact (n _ _ (Option.some.inj e').symm).elim
    · rw [cutC_ne z]
      exact e'
  exact objOk_of (x b o e) (fun _ q => out _ _ q fun _ _ z => nomatch z) fun _ _ q => out _ _ q fun _ _ z => nomatch z
end
section
variable {P : Program} {w : World} {K : PySem.W.Frag} {mg : Str → Option Value} {base : Heap} {A : Around} {outer : List Env} {s s' : Shared} {H : Hp} {cs : List (Addr × Obj)} {Q : VK} {u : Value}
/-- things that nobody follows: new since the base, no frames -/
structure Hid (base : Heap) (outer : List Env) (s : Shared) (cs : List (Addr × Obj)) : Prop where
  nd : (cs.map (·.1)).Nodup
  at_ : ∀ c ∈ cs, s.heap.get? c.1 = some c.2
  nb : ∀ c ∈ cs, base.get? c.1 = none
  nf : ∀ c ∈ cs, c.1 ∉ frs outer
theorem env0_add (e : Env0 P w K mg base A outer s H) (d : Hid base outer s cs) (n : ∀ c ∈ cs, H c.1 = none) : Env0 P w K mg base A outer s (addC cs H) where
  frames := e.frames
  mod := e.mod
  bs := fun b o q => ⟨(e.bs b o q).1, by
    rcases addC_or (H := H) d.nd b with ⟨c, h1, h2, _⟩ | ⟨_, h2⟩
    · rw [h2, d.nb c h1] at q
      cases q
    · rw [h2]
      exact (e.bs b o q).2⟩
  bsz := e.bsz
  funs := e.funs
  frf := fun b hb => by
    rcases addC_or (H := H) d.nd b with ⟨c, h1, h2, _⟩ | ⟨_, h2⟩
    · exact absurd (h2 ▸ hb) (d.nf c h1)
    · rw [h2]
      exact e.frf b hb
  hok := hok_add d.nd e.hok fun c hc => ⟨n c hc, d.at_ c hc⟩
  bare := e.bare
theorem ce_cut (d : Hid base outer s cs) (n : ∀ c ∈ cs, H c.1 = none) (x : CE outer P w (addC cs H) s (fun v H2 => Q v (cutC cs H2)) u s') : CE outer P w H s Q u s' := by
  obtain ⟨v, H', os, bare, un, hok, r, q⟩ := x
  have ca : ∀ c ∈ cs, H' c.1 = some (.frz c.2 topO) := fun c hc => un.frzs _ _ _ (addC_at d.nd hc)
  have go : ∀ {b : Addr}, H b = none → (∃ c ∈ cs, b = c.1) ∨ (b ∉ cs.map (·.1) ∧ addC cs H b = none) := fun {b} e => by
    rcases addC_or (H := H) d.nd b with ⟨c, h1, h2, _⟩ | ⟨h1, h2⟩
    · exact .inl ⟨c, h1, h2⟩
    · exact .inr ⟨h1, by rw [h2]; exact e⟩
  have out : ∀ {b : Addr} {o : HO}, H b = some o → b ∉ cs.map (·.1) := fun {b o} e z => by
    obtain ⟨c, h1, h2⟩ := List.mem_map.mp z
    rw [← h2, n c h1] at e
    cases e
  refine ⟨v, cutC cs H', os, bare, ⟨fun b o e hb nf nx => ?_, fun b o e hb hf nx => ?_, fun b o e hb nx => ?_, un.there, fun b xs e => ?_, fun b o x e => ?_, fun b ps e => ?_⟩, hok_cut hok fun c hc => ⟨_, ca c hc⟩, r, q⟩
  · rcases go hb with ⟨c, h1, h2⟩ | ⟨_, h2⟩
    · have := (hok _ _ (ca c h1)).1
      rw [h2] at e ⊢
      rw [d.at_ c h1] at e
      cases e
      exact this
    · exact un.keep b o e h2 nf nx
  · rcases go hb with ⟨c, h1, h2⟩ | ⟨_, h2⟩
    · exact absurd (h2 ▸ hf) (d.nf c h1)
    · exact un.slot b o e h2 hf nx
  · rcases go hb with ⟨c, h1, h2⟩ | ⟨h1, h2⟩
    · exact cutC_in (List.mem_map.mpr ⟨c, h1, h2.symm⟩)
    · rw [cutC_ne h1]
      exact un.free b o e h2 nx
  · rw [cutC_ne (out e)]
    exact un.tups b xs (by rw [addC_ne (out e)]; exact e)
  · rw [cutC_ne (out e)]
    exact un.frzs b o x (by rw [addC_ne (out e)]; exact e)
  · rw [cutC_ne (out e)]
    exact un.tbls b ps (by rw [addC_ne (out e)]; exact e)
theorem env0_cut (e : Env0 P w K mg base A outer s H) (c : ∀ c ∈ cs, H c.1 = some (.frz c.2 topO)) : Env0 P w K mg base A outer s (cutC cs H) where
  frames := e.frames
  mod := e.mod
  bs := fun b o q => ⟨(e.bs b o q).1, by
    by_cases z : b ∈ cs.map (·.1)
    · exact cutC_in z
    · rw [cutC_ne z]
      exact (e.bs b o q).2⟩
  bsz := e.bsz
  funs := e.funs
  frf := fun b hb => by
    by_cases z : b ∈ cs.map (·.1)
    · exact cutC_in z
    · rw [cutC_ne z]
      exact e.frf b hb
  hok := hok_cut e.hok fun d hd => ⟨_, c d hd⟩
  bare := e.bare
theorem ce_add (nd : (cs.map (·.1)).Nodup) (e : Env0 P w K mg base A outer s H) (c : ∀ c ∈ cs, H c.1 = some (.frz c.2 topO)) (x : CE outer P w (cutC cs H) s (fun v H2 => (∀ d ∈ cs, H2 d.1 = none) → Q v (addC cs H2)) u s') : CE outer P w H s Q u s' := by
  obtain ⟨v, H', os, bare, un, hok, r, q⟩ := x
  have at0 : ∀ d ∈ cs, s.heap.get? d.1 = some d.2 := fun d hd => (e.hok _ _ (c d hd)).1
  have nf : ∀ d ∈ cs, d.1 ∉ frs outer := fun d hd z => by
    have := e.frf _ z
    rw [c d hd] at this
    cases this
  have cn : ∀ d ∈ cs, cutC cs H d.1 = none := fun d hd => cutC_in (List.mem_map_of_mem hd)
  have at1 : ∀ d ∈ cs, H' d.1 = none ∧ s'.heap.get? d.1 = some d.2 := fun d hd => ⟨un.free _ _ (at0 d hd) (cn d hd) (by simp), un.keep _ _ (at0 d hd) (cn d hd) (nf d hd) (by simp)⟩
  have out : ∀ {b : Addr}, (∀ d ∈ cs, b ≠ d.1) → b ∉ cs.map (·.1) := fun {b} h z => by
    obtain ⟨d, h1, h2⟩ := List.mem_map.mp z
    exact h d h1 h2.symm
  have n0 : ∀ {b : Addr}, H b = none → b ∉ cs.map (·.1) := fun {b} hb => out fun d hd z => by
    rw [z, c d hd] at hb
    cases hb
  have n1 : ∀ {b : Addr} {o : HO}, H b = some o → (∀ ob u, o ≠ .frz ob u) → b ∉ cs.map (·.1) := fun {b o} hb n => out fun d hd z => by
    rw [z, c d hd] at hb
    exact n _ _ (Option.some.inj hb).symm
  refine ⟨v, addC cs H', os, bare, ⟨fun b o e hb => ?_, fun b o e hb => ?_, fun b o e hb nx => ?_, un.there, fun b xs e => ?_, fun b o x e => ?_, fun b ps e => ?_⟩, hok_add nd hok at1, r, q fun d hd => (at1 d hd).1⟩
  · exact un.keep b o e (by rw [cutC_ne (n0 hb)]; exact hb)
  · exact un.slot b o e (by rw [cutC_ne (n0 hb)]; exact hb)
  · rw [addC_ne (n0 hb)]
    exact un.free b o e (by rw [cutC_ne (n0 hb)]; exact hb) nx
  · have z := n1 e fun _ _ z => nomatch z
    rw [addC_ne z]
    exact un.tups b xs (by rw [cutC_ne z]; exact e)
  · by_cases z : b ∈ cs.map (·.1)
    · obtain ⟨d, h1, h2⟩ := List.mem_map.mp z
      rw [← h2, c d h1] at e
      cases e
      rw [← h2]
      exact addC_at nd h1
    · rw [addC_ne z]
      exact un.frzs b o x (by rw [cutC_ne z]; exact e)
  · have z := n1 e fun _ _ z => nomatch z
    rw [addC_ne z]
    exact un.tbls b ps (by rw [cutC_ne z]; exact e)
end
/-! ### a value that may be called -/
/-- v is a function; its promise sp, wherever what I knows stands -/
def FnV (P : Program) (w : World) (K : PySem.W.Frag) (mg : Str → Option Value) (base : Heap) (k : Nat) (sp : Sp) : V → Hp → Prop := fun v I => ∃ f : Addr, v = .ref f ∧ (∀ H h, HOk P w H h → Same I H → PySem.W.FnAt f h) ∧
  ∀ (A : Around) (outer : List Env) (s : Shared) (H : Hp) (us : List Value) (vs : List V) (Q : VK), Room k A → Env0 P w K mg base A outer s H → Vals vs us → Same I H → sp vs H Q E0 → codeAny (model P w) A (.call (.ref f) ⟨us, []⟩) (CR CX0 outer P w H s Q E0) s
theorem FnV.imp {P : Program} {w : World} {K : PySem.W.Frag} {mg : Str → Option Value} {base : Heap} {j k : Nat} {sp sp' : Sp} {v : V} {I : Hp} (x : FnV P w K mg base j sp v I) (hk : j ≤ k) (h : ∀ vs H Q, sp' vs H Q E0 → sp vs H Q E0) : FnV P w K mg base k sp' v I := by
  obtain ⟨f, e, a, r⟩ := x
  exact ⟨f, e, a, fun A outer s H us vs Q hr e0 rv sm q => r A outer s H us vs Q (hr.mono hk) e0 rv sm (h _ _ _ q)⟩
def CallV (P : Program) (w : World) (K : PySem.W.Frag) (mg : Str → Option Value) (base : Heap) (k : Nat) (v : V) (vs : List V) (H : Hp) (Q : VK) : Prop := ∃ (sp : Sp) (I : Hp), FnV P w K mg base k sp v I ∧ Same I H ∧ sp vs H Q E0
def IsFnV (P : Program) (w : World) (K : PySem.W.Frag) (mg : Str → Option Value) (base : Heap) (k : Nat) (v : V) (H : Hp) : Prop := ∃ (sp : Sp) (I : Hp), FnV P w K mg base k sp v I ∧ Same I H
def tCallV (P : Program) (w : World) (K : PySem.W.Frag) (mg : Str → Option Value) (base : Heap) (k i : Nat) (t : TA) : TE := fun σ H Q => ∃ v, σ[i]? = some (some v) ∧ IsFnV P w K mg base k v H ∧ t σ H fun vs H1 => CallV P w K mg base k v vs H1 Q
section
variable {X : Cx} {a : Str} {i k : Nat} {p1 p2 : Pos} {e : Expr} {es : List Expr} {t : TA}
theorem pe_callV (hN : X.N[i]? = some a) (hv : Vis X.env.scope a) (hr : Room k X.A) (ha : PA X (e :: es) t) (hd : (a == ("__debug__" : Str)) = false := by decide) (hcd : (a == ("__classdict__" : Str)) = false := by decide)
    (he : starEach (e :: es) X.env = (false, eval e X.env) :: starEach es X.env := by rfl) (hpl : (backTo p2 (starEach es X.env)).any (·.1) = false := by rfl) :
    PE X (.Call (.Name a p1) (e :: es) [] p2) (tCallV X.prog X.w X.K X.mg X.base k i t) := by
  refine ⟨fun pins s σ H Q J h => ?_⟩
  obtain ⟨v, hs, ⟨sp0, I0, ⟨f, ev, fa, _⟩, sm0⟩, h⟩ := h
  subst ev
  refine wpAny_Call_Name_kw (thn ((pe_var (pos := p1) (i := i) hN hv hd hcd).run pins s σ H (fun v H1 => v = .ref f ∧ H1 = H) J ⟨.ref f, hs, rfl, rfl⟩) fun u s1 ⟨v, H1, J1, r1, q1⟩ => ?_)
  obtain ⟨ev, eH⟩ := q1
  subst ev
  rw [eH] at J1
  obtain rfl : u = Value.ref f := r1
  refine PySem.W.callWith_F (fa _ _ J1.hok sm0) (thn (ha.run p2 pins s1 σ H _ J1 h) fun us s2 ⟨vs, H2, J2, rv, sp, I, ⟨f2, ef, fa2, run⟩, sm, q⟩ => ?_) he hpl
  cases ef
  refine ⟨fa2 _ _ J2.hok sm, wpAny_call (codeAny_mono (run X.A X.stack s2 H2 us vs Q hr J2.env0 rv sm q) fun r s' z => ?_)⟩
  cases r with
  | error er => exact False.elim z
  | ok fl =>
    cases fl with
    | ret u => exact J2.after z
    | next => exact False.elim z
    | brk => exact False.elim z
    | cont => exact False.elim z
end
/-! ### calls out of a frame whose cells others captured -/
/-- the address of the cell of the j-th name -/
def cAt (X : Cx) (j : Nat) : Addr := (X.env.cells.lookup ((X.N[j]?).getD (Str.ofString ""))).getD 0
/-- the cells of the slots js as objects -/
def CellsFor (X : Cx) (σ : L2.St) (js : List Nat) (cs : List (Addr × Obj)) : Prop := Paired (fun (j : Nat) (c : Addr × Obj) => c.1 = cAt X j ∧ ∃ v, σ[j]? = some (some v) ∧ CelO c.2 v) js cs
theorem CellsFor.adr {X : Cx} {σ : L2.St} : ∀ {js : List Nat} {cs : List (Addr × Obj)}, CellsFor X σ js cs → cs.map (·.1) = js.map (cAt X)
  | _, _, .nil => rfl
  | _, _, .cons h t => by rw [List.map_cons, List.map_cons, h.1, CellsFor.adr t]
def celM (X : Cx) (js : List Nat) (vs : List V) : List ME := (js.zip vs).map fun p => .cel (cAt X p.1) p.2
section
variable {X : Cx} {pins : List (Addr × Obj)} {σ : L2.St} {H : Hp} {s : Shared} {cs : List (Addr × Obj)} {js : List Nat}
/-- slots that are cells of this def, told apart -/
structure Celled (X : Cx) (js : List Nat) : Prop where
  nd : js.Nodup
  nN : X.N.Nodup
  k : ∀ j ∈ js, ∃ y, X.N[j]? = some y ∧ X.env.scope.names.lookup y = some .cell
  fn : ∀ y, X.fn y = true
theorem cells_are (J : Inv X pins σ H s) (c : Celled X js) (h : ∀ j ∈ js, ∃ v, σ[j]? = some (some v)) : ∃ cs, CellsFor X σ js cs ∧ Hid X.base X.stack s cs ∧ ∀ d ∈ cs, H d.1 = none := by
  have one : ∀ j ∈ js, ∃ o y, X.N[j]? = some y ∧ X.env.cells.lookup y = some (cAt X j) ∧ s.heap.get? (cAt X j) = some o ∧ ∃ v, σ[j]? = some (some v) ∧ CelO o v := fun j hj => by
    obtain ⟨y, h1, h2⟩ := c.k j hj
    obtain ⟨v, hv⟩ := h j hj
    obtain ⟨m, _, hl⟩ := J.loc
    obtain ⟨u, ru, hk⟩ := hl j y v h1 hv (.inr (.inl h2))
    rcases hk with ⟨hk, _⟩ | ⟨_, a, ha, o, ho, hd⟩
    · have hk : X.env.scope.names.lookup y = some .local := hk
      rw [h2] at hk
      cases hk
    · have e : cAt X j = a := by
        unfold cAt
        rw [h1]
        show (X.env.cells.lookup y).getD 0 = a
        rw [ha]
        rfl
      rw [e]
      exact ⟨o, y, h1, ha, ho, v, hv, u, hd, ru⟩
  have ex : ∃ cs, CellsFor X σ js cs ∧ ∀ d ∈ cs, s.heap.get? d.1 = some d.2 ∧ ∃ y, X.env.cells.lookup y = some d.1 := by
    clear c h
    revert one
    induction js with
    | nil => exact fun _ => ⟨[], .nil, fun _ h => nomatch h⟩
    | cons j js ih =>
      intro one
      obtain ⟨o, y, _, h1, h2, h3⟩ := one j List.mem_cons_self
      obtain ⟨cs, i1, i2⟩ := ih fun j hj => one j (List.mem_cons_of_mem _ hj)
      refine ⟨(cAt X j, o) :: cs, .cons ⟨rfl, h3⟩ i1, fun d hd => ?_⟩
      rcases List.mem_cons.mp hd with rfl | hd
      · exact ⟨h2, y, h1⟩
      · exact i2 d hd
  obtain ⟨cs, c1, c2⟩ := ex
  have low : ∀ d ∈ cs, X.s_0.heap.objs.size ≤ d.1 := fun d hd => by
    obtain ⟨y, hy⟩ := (c2 d hd).2
    exact J.ok.cab y d.1 (c.fn y) hy
  refine ⟨cs, c1, ⟨?_, fun d hd => (c2 d hd).1, fun d hd => ?_, fun d hd z => ?_⟩, fun d hd => ?_⟩
  · rw [c1.adr]
    refine List.pairwise_map.mpr (c.nd.imp_of_mem fun {a b} ha hb ne e => ne ?_)
    obtain ⟨_, y, n1, l1, _⟩ := one a ha
    obtain ⟨_, z, n2, l2, _⟩ := one b hb
    have e2 : y = z := J.ok.inj y z _ l1 (by rw [e]; exact l2)
    rw [← e2] at n2
    exact nodup_ix c.nN n1 n2
  · exact Heap.get?_none_of_le (Nat.le_trans J.ok.bsz (low d hd))
  · rcases List.mem_cons.mp (J.stkSub _ z) with e | e
    · obtain ⟨y, hy⟩ := (c2 d hd).2
      exact J.cne y _ hy e
    · obtain ⟨_, o, ho, _⟩ := J.ok.funs.mem e
      exact absurd (Nat.lt_of_lt_of_le (Heap.lt_size ho) (low d hd)) (Nat.lt_irrefl _)
  · obtain ⟨y, hy⟩ := (c2 d hd).2
    exact J.freeC y _ hy
/-- what a callee's promise is asked, the cells shown -/
def ShowQ (X : Cx) (js : List Nat) (sp : Sp) (vs : List V) (σ : L2.St) (H : Hp) (Q : VK) : Prop := (∀ j ∈ js, ∃ v, σ[j]? = some (some v)) ∧ ∀ cs, CellsFor X σ js cs → (cs.map (·.1)).Nodup → (∀ d ∈ cs, H d.1 = none) → sp vs (addC cs H) (fun v H2 => Q v (cutC cs H2)) E0
section
variable {k : Nat} {f C : Addr} {fd : FuncData} {ps : List Str} {sp : Sp} {dvs vs : List V} {ds us : List Value} {Q : VK}
theorem run_fnC (F : FnOk X.prog X.w X.K X.mg X.base CX0 k f fd ps sp) (hr : Room k X.A) (hb : Binds X.K fd ps ds) (hd : Vals dvs ds) (c : Celled X js) (J : Inv X pins σ H s) (r : Vals vs us) (h : ShowQ X js sp (vs ++ dvs) σ H Q) :
    wpAny (model X.prog X.w) X.A (call (.ref f) us) (EP X pins σ Q) X.xe s := by
  obtain ⟨cs, c1, c2, c3⟩ := cells_are J c h.1
  have q := h.2 cs c1 c2.nd c3
  have r2 : Vals (vs ++ dvs) (us ++ ds) := r.append hd
  have hl : (us ++ ds).length = ps.length := by rw [← r2.length]; exact F.len _ _ _ _ q
  refine wpAny_call (codeAny_mono (F.run X.A X.stack s (addC cs H) ⟨us, []⟩ (us ++ ds) (vs ++ dvs) _ E0 hr (env0_add J.env0 c2 c3) (hb s us J.kIn hl) r2 q) fun z s' hz => ?_)
  match z, hz with
  | .ok (.ret u), hz => exact J.after (ce_cut c2 c3 hz)
  | .ok .next, hz => exact False.elim hz
  | .ok .brk, hz => exact False.elim hz
  | .ok .cont, hz => exact False.elim hz
  | .error er, hz => exact False.elim hz
end
end
section
variable {F : List (V × D)} {H : Hp} {M M' : List ME} {X : Cx} {σ : L2.St} {js : List Nat} {vs us : List V} {cs : List (Addr × Obj)} {Q : VK} {sp : Sp}
theorem CellsFor.cn {I : Hp} : ∀ {js : List Nat} {cs : List (Addr × Obj)} {us : List V}, CellsFor X σ js cs → js.map (fun j => σ[j]?) = us.map (fun u => some (some u)) → CnA I (celM X js us) (cs.map fun c => (c.1, .frz c.2 topO))
  | _, _, [], .nil, _ => .nil
  | _, _, _ :: _, .nil, e => by cases e
  | _, _, [], .cons _ _, e => by cases e
  | j :: _, c :: _, u :: us, .cons ⟨h1, v, h2, h3⟩ t, e => by
    injection e with e1 e2
    cases h2.symm.trans e1
    refine .cons ?_ (CellsFor.cn t e2)
    show Cn I (.cel (cAt X j) u) (c.1, .frz c.2 topO)
    rw [← h1]
    exact .cel h3
theorem Wf.shown (w : Wf F H M) (c : CellsFor X σ js cs) (nd : (cs.map (·.1)).Nodup) (n : ∀ d ∈ cs, H d.1 = none) (hv : js.map (fun j => σ[j]?) = us.map (fun u => some (some u))) : Wf F (addC cs H) (celM X js us ++ M) := by
  obtain ⟨I, Mc, w, a, hF⟩ := w.ex
  have out : ∀ {b : Addr} {o : HO}, H b = some o → b ∉ cs.map (·.1) := fun {b o} e z => by
    obtain ⟨d, h1, h2⟩ := List.mem_map.mp z
    rw [← h2, n d h1] at e
    cases e
  have app : ∀ {M1 M2 : List ME} {N1 N2 : List (Addr × HO)}, CnA I M1 N1 → CnA I M2 N2 → CnA I (M1 ++ M2) (N1 ++ N2) := fun {M1 M2 N1 N2} h1 h2 => by
    induction h1 with
    | nil => exact h2
    | cons h _ ih => exact .cons h ih
  refine ⟨I, cs.map (fun c => (c.1, .frz c.2 topO)) ++ Mc, ⟨fun b x e => ?_, fun p hp => ?_, ?_⟩, app (c.cn hv) a, hF⟩
  · rw [addC_ne (out (w.imm _ _ e))]
    exact w.imm _ _ e
  · rcases List.mem_append.mp hp with h | h
    · obtain ⟨d, h1, rfl⟩ := List.mem_map.mp h
      exact ⟨addC_at nd h1, w.imm.free (n d h1)⟩
    · obtain ⟨h1, h2⟩ := w.mu p h
      exact ⟨by rw [addC_ne (out h1)]; exact h1, h2⟩
  · rw [List.map_append, List.map_map]
    refine List.nodup_append.mpr ⟨nd, w.nd, fun x hx y hy e => ?_⟩
    obtain ⟨p, h1, h2⟩ := List.mem_map.mp hy
    have := out (w.mu p h1).1
    rw [h2, ← e] at this
    exact this hx
theorem CnA.split {I : Hp} {M2 : List ME} : ∀ {M1 : List ME} {N : List (Addr × HO)}, CnA I (M1 ++ M2) N → ∃ N1 N2, N = N1 ++ N2 ∧ CnA I M1 N1 ∧ CnA I M2 N2
  | [], N, a => ⟨[], N, rfl, .nil, a⟩
  | _ :: _, _, .cons h a => by
    obtain ⟨N1, N2, rfl, h1, h2⟩ := CnA.split a
    exact ⟨_ :: N1, N2, rfl, .cons h h1, h2⟩
theorem cel_adr {I : Hp} : ∀ {js : List Nat} {us : List V} {N : List (Addr × HO)}, js.length = us.length → CnA I (celM X js us) N → N.map (·.1) = js.map (cAt X)
  | [], [], _, _, a => by cases a; rfl
  | [], _ :: _, _, e, _ => by cases e
  | _ :: _, [], _, e, _ => by cases e
  | j :: js, u :: us, _, e, a => by
    cases a with
    | cons h a =>
      cases h
      rw [List.map_cons, List.map_cons, cel_adr (Nat.succ.inj e) a]
theorem Wf.hidden (w : Wf F H (celM X js us ++ M)) (hl : js.length = us.length) (ha : cs.map (·.1) = js.map (cAt X)) : Wf F (cutC cs H) M := by
  obtain ⟨I, Mc, w, a, hF⟩ := w.ex
  obtain ⟨N1, N2, rfl, a1, a2⟩ := a.split
  have e := cel_adr hl a1
  rw [← ha] at e
  have nd := w.nd
  rw [List.map_append] at nd
  obtain ⟨_, nd2, nd3⟩ := List.nodup_append.mp nd
  refine ⟨I, N2, ⟨fun b x h => ?_, fun p hp => ?_, nd2⟩, a2, hF⟩
  · by_cases z : b ∈ cs.map (·.1)
    · rw [← e] at z
      obtain ⟨p, h1, h2⟩ := List.mem_map.mp z
      have := (w.mu p (List.mem_append_left _ h1)).2
      rw [h2, h] at this
      cases this
    · rw [cutC_ne z]
      exact w.imm _ _ h
  · obtain ⟨h1, h2⟩ := w.mu p (List.mem_append_right _ hp)
    refine ⟨?_, h2⟩
    rw [cutC_ne (fun z => ?_)]
    · exact h1
    · rw [← e] at z
      exact nd3 _ z _ (List.mem_map_of_mem hp) rfl
/-- a promise asked with the cells shown -/
theorem n_shown (w : Wf F H M) (hv : js.map (fun j => σ[j]?) = us.map (fun u => some (some u)))
    (h : ∀ H1 (Q1 : VK), Wf F H1 (celM X js us ++ M) → (∀ v F' M' H2, Wf F' H2 (celM X js us ++ M') → (∀ H3, Wf F' H3 M' → Q v H3) → Q1 v H2) → sp vs H1 Q1 E0) : ShowQ X js sp vs σ H Q := by
  have hl : js.length = us.length := by
    have := congrArg List.length hv
    rwa [List.length_map, List.length_map] at this
  refine ⟨fun j hj => ?_, fun cs c nd n => h _ _ (w.shown c nd n hv) fun v F' M' H2 w2 q => q _ (w2.hidden hl c.adr)⟩
  clear h hl
  induction js generalizing us with
  | nil => cases hj
  | cons i js ih =>
    cases us with
    | nil => cases hv
    | cons u us =>
      injection hv with e1 e2
      rcases List.mem_cons.mp hj with rfl | hj
      · exact ⟨u, e1⟩
      · exact ih e2 hj
end
/-! ### a lambda is made -/
/-- its words -/
structure LW where
  params : Arguments
  body : Expr
  scope : Scope
  qual : Str
  cl : List (Str × Addr)
def LamO (f : Addr) (L : LW) (c : Addr) : HO := .ext fun h => ∃ pm ctv : Value, h.get? f = some (PySem.W.kla_obj "<lambda>" L.qual L.params L.body L.scope L.cl pm c ctv)
theorem lamO_new {P : Program} {w : World} {H : Hp} {h : Heap} {f c : Addr} {L : LW} {pm ctv : Value} (e : h.get? f = some (PySem.W.kla_obj "<lambda>" L.qual L.params L.body L.scope L.cl pm c ctv)) : ObjOk P w H h f (LamO f L c) :=
  ⟨⟨pm, ctv, e⟩, ⟨_, e⟩, fun _ _ ⟨pm, ctv, z⟩ st => ⟨pm, ctv, st _ z⟩⟩
theorem lamO_at {P : Program} {w : World} {H : Hp} {h : Heap} {f c : Addr} {L : LW} (x : HOk P w H h) (e : H f = some (LamO f L c)) : ∃ pm ctv : Value, h.get? f = some (PySem.W.kla_obj "<lambda>" L.qual L.params L.body L.scope L.cl pm c ctv) := (x f _ e).1
/-- a table of code objects, all of the name q -/
def TabK (H : Hp) (q : Str) (ps : Array Value) : Prop := TriplesOk ps.toList ∧ ∀ (pos : Pos) (cv : Value), codeAmong pos ps.toList = some cv → ∃ c, cv = .ref c ∧ H c = some (LamX.CodeO c q)
def tLamV (Pt : Addr) (pos : Pos) (L : LW) : TE := fun _ H Q => ∃ ps : Array Value, H Pt = some (.tbl ps) ∧ TabK H L.qual ps ∧
  (∀ f c, H c = none → H f = none → f ≠ c → Q (.ref f) (upd (upd (upd H Pt (.tbl (ps ++ #[rawInt pos.line, rawInt pos.col, .ref c]))) c (LamX.CodeO c L.qual)) f (LamO f L c))) ∧
  ∀ f c, codeAmong pos ps.toList = some (.ref c) → H f = none → Q (.ref f) (upd H f (LamO f L c))
section
variable {X : Cx} {c P : Addr} {params : Arguments} {body : Expr} {scope : Scope} {pos : Pos}
theorem pe_lamV (B : LamX.TabB X.base X.mg c P) (hcode : X.env.code = .ref c) (hdef : defaultsOf params X.env = ([], [])) (hfree : ∀ y ∈ scope.names, y.2 = .free → X.env.scope.names.lookup y.1 = some .cell ∨ X.env.scope.names.lookup y.1 = some .free) :
    PE X (.Lambda params body scope pos) (tLamV P pos ⟨params, body, scope, X.env.qual ++ "<lambda>", cloFrom X.env.cells scope.names []⟩) := by
  refine ⟨fun pins s σ H Q J h => ?_⟩
  obtain ⟨ps, hP, ⟨tok, tell⟩, miss, hit⟩ := h
  have clo := closure_ok (scope := scope) (env := X.env) fun y hy e => (hfree y hy e).elim (fun z => J.ok.has _ (.inl z)) fun z => J.ok.has _ (.inr z)
  have oP : s.heap.get? P = some { cls := .none, data := .fields ps } := J.hok P _ hP
  have bP := B.bm.keeps J.bk
  refine PySem.W.kla_eval hdef ?_
  cases among : codeAmong pos ps.toList with
  | some cv =>
    obtain ⟨k, ek, hk⟩ := tell pos cv among
    subst ek
    refine PySem.W.kla_makeFunctionHit (c := c) (P := P) (mg := X.mg) clo J.ok.glob (J.mod.glob.keeps J.bk) hcode (B.code.keeps J.bk) oP tok among bP fun ctv h2 tk ext big => ?_
    have J2 : Inv X pins σ H { s with heap := h2, toks := tk } := J.kept ext
    refine ⟨.ref _, _, J2.laid (o := LamO h2.objs.size ⟨params, body, scope, X.env.qual ++ "<lambda>", cloFrom X.env.cells scope.names []⟩ k) (fun b u e => ?_) (Nat.le_refl _) (lamO_new (pm := (X.mg "__name__").getD .none) (ctv := ctv) ?_), rfl, hit _ _ among (J2.hok.fresh (Nat.le_refl _))⟩
    · exact Heap.get?_push_of_some _ e
    · exact Heap.get?_push_size _ rfl
  | none =>
    refine PySem.W.kla_makeFunction (c := c) (P := P) (mg := X.mg) clo J.ok.glob (J.mod.glob.keeps J.bk) hcode (B.code.keeps J.bk) oP tok among B.gP bP fun k ctv h2 tk ext low high rec tab => ?_
    obtain ⟨k2, ob, vs, t, e2, ho, hd, hv⟩ := rec
    cases e2
    have J2 := LamX.inv_table (t' := tk) (more := #[rawInt pos.line, rawInt pos.col, .ref k]) J hP (fun b o nb e => ext b o nb e) tab low ⟨ob, vs, t, ho, hd, hv⟩
    refine ⟨.ref _, _, J2.laid (o := LamO h2.objs.size ⟨params, body, scope, X.env.qual ++ "<lambda>", cloFrom X.env.cells scope.names []⟩ k) (fun b u e => ?_) (Nat.le_refl _) (lamO_new (pm := (X.mg "__name__").getD .none) (ctv := ctv) ?_), rfl, miss _ _ (J.hok.fresh low) (J.hok.fresh (Nat.le_trans low (Nat.le_of_lt high))) (Nat.ne_of_gt high)⟩
    · exact Heap.get?_push_of_some _ e
    · exact Heap.get?_push_size _ rfl
end
theorem Foc.self {e : ME} : ∀ {M : List ME}, e ∈ M → Foc M e M e
  | _ :: _, h => by
    rcases List.mem_cons.mp h with rfl | h
    · exact .here
    · exact .there (Foc.self h)
section
variable {F : List (V × D)} {σ : L2.St} {H : Hp} {M : List ME} {Q : VK} {Pt : Addr} {pos : Pos} {L : LW} {φ : V → Hp → Prop}
theorem n_lam (w : Wf F H M) (hm : .tb Pt L.qual ∈ M) (hφ : ∀ f c I, I f = some (LamO f L c) → I c = some (LamX.CodeO c L.qual) → φ (.ref f) I) (q : ∀ f H', Wf ((.ref f, .fact φ) :: F) H' M → Q (.ref f) H') : tLamV Pt pos L σ H Q := by
  obtain ⟨I, Mc, w, a, hF⟩ := w.ex
  obtain ⟨M1, m, M2, rfl, c1, c2⟩ := a.foc (Foc.self hm)
  cases c1 with
  | @tb _ _ ps tok tell =>
    have hP : H Pt = some (.tbl ps) := w.at
    refine ⟨ps, hP, ⟨tok, fun p cv e => let ⟨k, h1, h2⟩ := tell p cv e; ⟨k, h1, w.imm _ _ h2⟩⟩, fun f k nk nf ne => q f _ ?_, fun f k hk nf => q f _ ?_⟩
    · have kP : k ≠ Pt := fun e => by rw [e, hP] at nk; cases nk
      have fP : f ≠ Pt := fun e => by rw [e, hP] at nf; cases nf
      have w1 : W I (upd H Pt (.tbl (ps ++ #[rawInt pos.line, rawInt pos.col, .ref k]))) _ := w.put
      have n1 : upd H Pt (.tbl (ps ++ #[rawInt pos.line, rawInt pos.col, .ref k])) k = none := by rw [upd_ne kP]; exact nk
      have w2 := w1.newI (o := LamX.CodeO k L.qual) n1
      have n2 : upd (upd H Pt (.tbl (ps ++ #[rawInt pos.line, rawInt pos.col, .ref k]))) k (LamX.CodeO k L.qual) f = none := by rw [upd_ne ne, upd_ne fP]; exact nf
      have w3 := w2.newI (o := LamO f L k) n2
      have s1 : Same I (upd I k (LamX.CodeO k L.qual)) := w1.same n1
      have s2 : Same (upd I k (LamX.CodeO k L.qual)) (upd (upd I k (LamX.CodeO k L.qual)) f (LamO f L k)) := w2.same n2
      refine ⟨_, _, w3, c2 _ _ (s1.trans s2) (.tb ?_ fun p cv e => ?_), fun g hg => ?_⟩
      · rw [show (ps ++ #[rawInt pos.line, rawInt pos.col, .ref k]).toList = ps.toList ++ [rawInt pos.line, rawInt pos.col, .ref k] by simp]
        exact PySem.TriplesOk_snoc _ _ _ _ tok
      · rw [show (ps ++ #[rawInt pos.line, rawInt pos.col, .ref k]).toList = ps.toList ++ [rawInt pos.line, rawInt pos.col, .ref k] by simp] at e
        rcases LamX.among_app _ tok e with z | z
        · obtain ⟨j, h1, h2⟩ := tell p cv z
          exact ⟨j, h1, s2 _ _ (s1 _ _ h2)⟩
        · exact ⟨k, z, s2 _ _ upd_same⟩
      · rcases List.mem_cons.mp hg with rfl | hg
        · exact .fact (Same.refl _) (hφ f k _ upd_same (by rw [upd_ne ne.symm]; exact upd_same))
        · exact (hF g hg).mono (s1.trans s2)
    · have w3 := w.newI (o := LamO f L k) nf
      have s2 : Same I (upd I f (LamO f L k)) := w.same nf
      obtain ⟨j, e1, ho⟩ := tell pos _ hk
      cases e1
      refine ⟨_, _, w3, c2 _ _ s2 (.tb tok fun p cv e => let ⟨j, h1, h2⟩ := tell p cv e; ⟨j, h1, s2 _ _ h2⟩), fun g hg => ?_⟩
      rcases List.mem_cons.mp hg with rfl | hg
      · exact .fact (Same.refl _) (hφ f k _ upd_same (s2 _ _ ho))
      · exact (hF g hg).mono s2
end
/-! ### what a lambda promises -/
abbrev LW.nf (L : LW) (c : Addr) : NdefX.NF := ⟨"<lambda>", L.qual, L.params, [], L.scope, L.cl, c⟩
theorem paired_at {α β : Type} {R : α → β → Prop} : ∀ {l : List α} {m : List β}, Paired R l m → ∀ {i : Nat} {a : α}, l[i]? = some a → ∃ b, m[i]? = some b ∧ R a b
  | _, _, .nil, i, a, e => by simp at e
  | _, _, .cons h _, 0, a, e => by simp at e; subst e; exact ⟨_, rfl, h⟩
  | _, _, .cons _ t, i + 1, a, e => by
    obtain ⟨b, h1, h2⟩ := paired_at t (i := i) (a := a) (by simpa using e)
    exact ⟨b, by simpa using h1, h2⟩
theorem paired_nodup {cl : List (Str × Addr)} (hinj : ∀ x y c, cl.lookup x = some c → cl.lookup y = some c → x = y) : ∀ {fr : List Str} {cs : List (Addr × Obj)}, Paired (fun y (c : Addr × Obj) => cl.lookup y = some c.1) fr cs → fr.Nodup → (cs.map (·.1)).Nodup
  | _, _, .nil, _ => List.nodup_nil
  | y :: fr, c :: cs, .cons h t, nd => by
    obtain ⟨n1, n2⟩ := List.nodup_cons.mp nd
    refine List.nodup_cons.mpr ⟨fun z => n1 ?_, paired_nodup hinj t n2⟩
    clear nd n1 n2
    revert z
    generalize hcs : cs = ds at t
    intro z
    obtain ⟨d, h1, h2⟩ := List.mem_map.mp z
    have aux : ∀ {fr : List Str} {ds : List (Addr × Obj)}, Paired (fun y (c : Addr × Obj) => cl.lookup y = some c.1) fr ds → d ∈ ds → ∃ x ∈ fr, cl.lookup x = some d.1 := fun {fr ds} t => by
      induction t with
      | nil => exact fun h => nomatch h
      | cons h t ih =>
        intro hd
        rcases List.mem_cons.mp hd with rfl | hd
        · exact ⟨_, List.mem_cons_self, h⟩
        · obtain ⟨x, q1, q2⟩ := ih hd
          exact ⟨x, List.mem_cons_of_mem _ q1, q2⟩
    obtain ⟨x, q1, q2⟩ := aux t h1
    rw [hinj y x c.1 h (by rw [show c.1 = d.1 from h2.symm]; exact q2)]
    exact q1
section
variable {P : Program} {w : World} {K : PySem.W.Frag} {mg : Str → Option Value} {base : Heap} {N ps fr : List Str} {f c : Addr} {k : Nat} {sp : Sp} {L : LW} {I : Hp}
theorem fnV_lam (S : NdefX.NScope N ps fr L.scope) (hb : ∀ (pm cv ctv : Value) (us : List Value), us.length = ps.length → bindArgs (PySem.W.kla_fn "<lambda>" L.qual L.params L.body L.scope L.cl pm cv ctv) ⟨us, []⟩ = pure (ps.zip us))
    (hinj : ∀ x y c, L.cl.lookup x = some c → L.cl.lookup y = some c → x = y) (hfr : ∀ y c, L.cl.lookup y = some c → y ∈ fr)
    (hsp : ∀ vs H Q, sp vs H Q E0 → vs.length = ps.length ∧ ∃ (cs : List (Addr × Obj)) (ws : List V), Paired (fun y (c : Addr × Obj) => L.cl.lookup y = some c.1) fr cs ∧ Paired (fun (c : Addr × Obj) w => CelO c.2 w) cs ws ∧ (∀ c ∈ cs, H c.1 = some (.frz c.2 topO)) ∧
      ∀ (A : Around) (outer : List Env) (s : Shared) (f c : Addr), Room k (A.deeper (NdefX.envF (L.nf c) f s.heap.objs.size)) → ∃ t, PE (NdefX.ncx CX0 P w K mg base N (L.nf c) f A outer s (cutC cs H) E0) L.body t ∧ t (NdefX.startF N vs (ws.map some)) (cutC cs H) (fun v H2 => (∀ d ∈ cs, H2 d.1 = none) → Q v (addC cs H2)))
    (hf : I f = some (LamO f L c)) (hc : I c = some (LamX.CodeO c L.qual)) : FnV P w K mg base (k + 1) sp (.ref f) I := by
  refine ⟨f, rfl, fun H h x sm => ?_, fun A outer s H us vs Q hr e0 rv sm q => ?_⟩
  · obtain ⟨pm, ctv, e⟩ := lamO_at x (sm _ _ hf)
    exact ⟨_, _, _, _, e⟩
  obtain ⟨hl, cs, ws, p1, p2, hcs, body⟩ := hsp vs H Q q
  obtain ⟨pm, ctv, ho⟩ := lamO_at e0.hok (sm _ _ hf)
  obtain ⟨⟨oc, cvs, t, hoc, hdc, hvc⟩, _, _⟩ := e0.hok c _ (sm _ _ hc)
  have ndf : fr.Nodup := by
    have z := S.nd.sublist (List.take_sublist (ps.length + fr.length) N)
    rw [S.pre] at z
    exact (List.nodup_append.mp z).2.1
  have nd := paired_nodup hinj p1 ndf
  have e1 := env0_cut e0 hcs
  have C : NdefX.CellsAt L.cl fr (ws.map some) s.heap (cutC cs H) := by
    have one : ∀ (i : Nat) (y : Str), fr[i]? = some y → ∃ d ∈ cs, L.cl.lookup y = some d.1 ∧ ∃ v u, ws[i]? = some v ∧ RelV v u ∧ s.heap.IsCell d.1 (some u) := fun i y hy => by
      obtain ⟨d, q1, q2⟩ := paired_at p1 hy
      obtain ⟨v, q3, u, q4, q5⟩ := paired_at p2 q1
      exact ⟨d, List.mem_of_getElem? q1, q2, v, u, q3, q5, d.2, (e0.hok _ _ (hcs d (List.mem_of_getElem? q1))).1, q4⟩
    refine ⟨?_, fun y a ha => ?_, hinj, fun i y hy => ?_⟩
    · rw [List.length_map, ← p2.length, ← p1.length]
    · obtain ⟨i, hi⟩ := List.mem_iff_getElem?.mp (hfr y a ha)
      obtain ⟨d, q1, q2, v, u, _, _, q3⟩ := one i y hi
      rw [ha] at q2
      cases q2
      exact ⟨cutC_in (List.mem_map_of_mem q1), _, q3⟩
    · obtain ⟨d, q1, q2, v, u, q3, q4, q5⟩ := one i y hy
      refine ⟨d.1, q2, fun v2 h2 => ⟨u, ?_, q5⟩⟩
      rw [List.getElem?_map, q3] at h2
      cases h2
      exact q4
  have fin : codeAny (model P w) A (.call (.ref f) ⟨us, []⟩) (CR CX0 outer P w (cutC cs H) s (fun v H2 => (∀ d ∈ cs, H2 d.1 = none) → Q v (addC cs H2)) E0) s := by
    have lim : s.heap.NoLimit := e0.mod.nolimit.keeps fun b o e => (e0.bs b o e).1
    refine PySem.W.kla_callFunE hr.depth ho rfl S.co S.gen rfl ⟨c, oc, cvs, t, rfl, hoc, hdc, hvc⟩ ?_
    rw [hb _ _ _ us (by rw [← rv.length]; exact hl)]
    refine wpAny_pure (wpAny_newFunctionEnv S.nocell (fun ⟨n, _⟩ hy => S.par n (List.of_mem_zip hy).1) (fun h1 hns hsb => ⟨lim.fresh _ hsb, ?_⟩) S.kind)
    have keep : ∀ b o, s.heap.get? b = some o → h1.get? b = some o := fun b o e => hsb.extBut b o (Nat.ne_of_lt (Heap.lt_size e)) (Heap.get?_push_of_some _ e)
    obtain ⟨t2, ht, hq⟩ := body A outer s f c (hr.deeper _)
    have J : Inv (NdefX.ncx CX0 P w K mg base N (L.nf c) f A outer s (cutC cs H) E0) [] (NdefX.startF N vs (ws.map some)) (cutC cs H) { s with heap := h1, toks := s.toks + (ps.zip us).length } :=
      NdefX.inv_startN S hr.hd e1 hl rv C hns keep
    refine PySem.W.kla_codeExpr (wpAny_mono (ht.run [] _ _ _ _ J hq) (fun u s' hz => ?_) fun e s' hz => hz)
    obtain ⟨v, H2, J2, r2, q2⟩ := hz
    exact ⟨v, H2, J2.os, J2.bare, J2.base, J2.hok, r2, q2⟩
  refine codeAny_mono fin fun r s' z => ?_
  match r, z with
  | .ok (.ret u), z => exact ce_add nd e0 hcs z
  | .ok .next, z => exact False.elim z
  | .ok .brk, z => exact False.elim z
  | .ok .cont, z => exact False.elim z
  | .error er, z => exact False.elim z
end
def celL (as : List Addr) (ws : List V) : List ME := (as.zip ws).map fun p => .cel p.1 p.2
theorem celM_L {X : Cx} : ∀ {js : List Nat} {us : List V}, celM X js us = celL (js.map (cAt X)) us
  | [], _ => rfl
  | _ :: _, [] => rfl
  | j :: js, u :: us => by
    show ME.cel (cAt X j) u :: celM X js us = ME.cel (cAt X j) u :: celL (js.map (cAt X)) us
    rw [celM_L]
section
variable {F : List (V × D)} {H : Hp} {M G : List ME} {as : List Addr} {ws : List V}
theorem cn_cels {I : Hp} : ∀ {as : List Addr} {ws : List V} {N : List (Addr × HO)}, as.length = ws.length → CnA I (celL as ws) N → ∃ cs : List (Addr × Obj), cs.map (·.1) = as ∧ Paired (fun (c : Addr × Obj) w => CelO c.2 w) cs ws ∧ N = cs.map fun c => (c.1, HO.frz c.2 topO)
  | [], [], _, _, a => by cases a; exact ⟨[], rfl, .nil, rfl⟩
  | [], _ :: _, _, e, _ => by cases e
  | _ :: _, [], _, e, _ => by cases e
  | x :: as, v :: ws, _, e, a => by
    cases a with
    | cons h a =>
      obtain ⟨cs, h1, h2, rfl⟩ := cn_cels (Nat.succ.inj e) a
      cases h with
      | @cel _ _ o hc => exact ⟨(x, o) :: cs, by rw [List.map_cons, h1], .cons hc h2, rfl⟩
theorem cels_cn {I : Hp} : ∀ {as : List Addr} {ws : List V} {cs : List (Addr × Obj)}, cs.map (·.1) = as → Paired (fun (c : Addr × Obj) w => CelO c.2 w) cs ws → CnA I (celL as ws) (cs.map fun c => (c.1, HO.frz c.2 topO))
  | _, _, _, rfl, .nil => .nil
  | _, _, _, rfl, .cons h t => .cons (.cel h) (cels_cn rfl t)
/-- the cells are put aside while a function's body runs -/
theorem n_cels (w : Wf F H (M ++ (celL as ws ++ G))) (hl : as.length = ws.length) : ∃ cs : List (Addr × Obj), cs.map (·.1) = as ∧ Paired (fun (c : Addr × Obj) w => CelO c.2 w) cs ws ∧ (∀ c ∈ cs, H c.1 = some (.frz c.2 topO)) ∧ as.Nodup ∧ Wf F (cutC cs H) (M ++ G) ∧
    ∀ F' H' M' G', Wf F' H' (M' ++ G') → (∀ c ∈ cs, H' c.1 = none) → Wf F' (addC cs H') (M' ++ (celL as ws ++ G')) := by
  have pm : ∀ M G : List ME, List.Perm (M ++ (celL as ws ++ G)) (celL as ws ++ (M ++ G)) := fun M G => by
    rw [← List.append_assoc, ← List.append_assoc]
    exact List.Perm.append_right _ List.perm_append_comm
  obtain ⟨I, Mc, w, a, hF⟩ := (w.perm (pm M G)).ex
  obtain ⟨N1, N2, rfl, a1, a2⟩ := a.split
  obtain ⟨cs, h1, h2, rfl⟩ := cn_cels hl a1
  have hcs : ∀ c ∈ cs, H c.1 = some (.frz c.2 topO) := fun c hc => (w.mu _ (List.mem_append_left _ (List.mem_map_of_mem (f := fun c : Addr × Obj => (c.1, HO.frz c.2 topO)) hc))).1
  have nd := w.nd
  rw [List.map_append, List.map_map] at nd
  obtain ⟨nd1, nd2, nd3⟩ := List.nodup_append.mp nd
  have nd1 : (cs.map (·.1)).Nodup := nd1
  refine ⟨cs, h1, h2, hcs, h1 ▸ nd1, ⟨I, N2, ⟨fun b x h => ?_, fun p hp => ?_, nd2⟩, a2, hF⟩, fun F' H' M' G' w' hn => Wf.perm ?_ (pm M' G').symm⟩
  · by_cases z : b ∈ cs.map (·.1)
    · obtain ⟨c, q1, q2⟩ := List.mem_map.mp z
      have := (w.mu _ (List.mem_append_left _ (List.mem_map_of_mem (f := fun c : Addr × Obj => (c.1, HO.frz c.2 topO)) q1))).2
      rw [show b = c.1 from q2.symm] at h
      rw [this] at h
      cases h
    · rw [cutC_ne z]
      exact w.imm _ _ h
  · obtain ⟨q1, q2⟩ := w.mu p (List.mem_append_right _ hp)
    refine ⟨?_, q2⟩
    rw [cutC_ne fun z => ?_]
    · exact q1
    · exact nd3 _ z _ (List.mem_map_of_mem hp) rfl
  · obtain ⟨I', Mc', w2, a', hF'⟩ := w'.ex
    have out : ∀ {b : Addr} {o : HO}, H' b = some o → b ∉ cs.map (·.1) := fun {b o} e z => by
      obtain ⟨d, q1, q2⟩ := List.mem_map.mp z
      rw [show b = d.1 from q2.symm, hn d q1] at e
      cases e
    have app : ∀ {M1 M2 : List ME} {N1 N2 : List (Addr × HO)}, CnA I' M1 N1 → CnA I' M2 N2 → CnA I' (M1 ++ M2) (N1 ++ N2) := fun {M1 M2 N1 N2} h1 h2 => by
      induction h1 with
      | nil => exact h2
      | cons h _ ih => exact .cons h ih
    refine ⟨I', cs.map (fun c => (c.1, HO.frz c.2 topO)) ++ Mc', ⟨fun b x e => ?_, fun p hp => ?_, ?_⟩, app (cels_cn h1 h2) a', hF'⟩
    · rw [addC_ne (out (w2.imm _ _ e))]
      exact w2.imm _ _ e
    · rcases List.mem_append.mp hp with h | h
      · obtain ⟨d, q1, rfl⟩ := List.mem_map.mp h
        exact ⟨addC_at nd1 q1, w2.imm.free (hn d q1)⟩
      · obtain ⟨q1, q2⟩ := w2.mu p h
        exact ⟨by rw [addC_ne (out q1)]; exact q1, q2⟩
    · rw [List.map_append, List.map_map]
      refine List.nodup_append.mpr ⟨nd1, w2.nd, fun x hx y hy e => ?_⟩
      obtain ⟨p, q1, q2⟩ := List.mem_map.mp hy
      have := out (w2.mu p q1).1
      rw [show p.1 = y from q2, ← e] at this
      exact this hx
end
/-! ### defs that make functions: their code object is known -/
section
variable {P : Program} {w : World} {K : PySem.W.Frag} {mg : Str → Option Value} {base : Heap}
theorem _root_.L2.FunD.okT {CX : CXT} {x qual : Str} {st : Stmt} {dvs : List V} {f c : Addr} {fd : FuncData} {N ps : List Str} {k : Nat} {sp : Sp} (F : FunD K x qual (defArgs st) (defBody st) (defScope st) dvs [] f fd) (T : fd.code = .ref c) (S : FnScope N ps (defScope st)) (len : ∀ vs H Q E, sp vs H Q E → vs.length = ps.length)
    (hbody : ∀ (A : Around) (outer : List Env) (s : Shared) (H : Hp) (vs : List V) (Q : VK) (E : XK), Room k (A.deeper (envOfC qual (defScope st) s.heap.objs.size f (.ref c))) → sp vs H Q E →
      ∃ t, PSs (cxOf CX P w K mg base N qual (defScope st) f (.ref c) A outer s H E) (defBody st) t ∧ t { nx := fun _ H' => Q .non H', rt := Q } (start N vs) H) : FnOk P w K mg base CX (k + 1) f fd ps sp := by
  obtain ⟨oc, od, dV, kV, doc, pm, an, cdv, ct, osl, rfl, lk, hcd, _, _⟩ := F.ex
  obtain rfl : cdv = .ref c := T
  exact fn_of lk hcd S len fun A outer s H vs Q E hr hsp => hbody A outer s H vs Q E hr hsp
theorem _root_.L2.Fun.okT {x qual : Str} {st : Stmt} {f c : Addr} {fd : FuncData} {N ps : List Str} {k : Nat} {sp : Sp} (F : Fun K x qual st f fd) (T : fd.code = .ref c) (S : FnScope N ps (defScope st)) (len : ∀ vs H Q E, sp vs H Q E → vs.length = ps.length)
    (hbody : ∀ (A : Around) (outer : List Env) (s : Shared) (H : Hp) (vs : List V) (Q : VK) (E : XK), Room k (A.deeper (envOfC qual (defScope st) s.heap.objs.size f (.ref c))) → sp vs H Q E →
      ∃ t, PSs (cxOf CX0 P w K mg base N qual (defScope st) f (.ref c) A outer s H E).nox (defBody st) t ∧ t { nx := fun _ H' => Q .non H', rt := Q } (start N vs) H) : FnOk P w K mg base CX0 (k + 1) f fd ps sp := by
  obtain ⟨oc, od, kV, doc, pm, an, cdv, ct, osl, rfl, lk, hcd⟩ := F.ex
  obtain rfl : cdv = .ref c := T
  refine fn_of lk hcd S len fun A outer s H vs Q E hr hsp => ?_
  obtain ⟨t, h, q⟩ := hbody A outer s H vs Q E hr hsp
  exact ⟨t, h.nox, q⟩
/-- what the end asks: the makers' tables cs -/
def LawT (q : Program) (l : PySem.W.OpenLaw) (w : World) (K : PySem.W.Frag) (CX : CXT) (k n : Nat) (x : Str) (mg : Str → Option Value) (fa : Addr) : Prop := ∃ (fd : FuncData) (cs : List (Addr × Addr)) (sp : Sp),
  (∀ p ∈ cs, (∃ y d, (recsOf q).find? (fun e => e.name == y) = some d ∧ PySem.W.tabIn K y = some p) ∧ K.lookup p.2 = none) ∧ (∀ (s : Shared) (u : Value), BindsTo s fd ⟨[u], []⟩ [(x, u)]) ∧
  (∀ (H : Hp) (a : Addr) (ns : List Int), ns.length ≤ n → (∀ z ∈ ns, Builtin.Int.intBits z ≤ 1048576) → (∀ p ∈ cs, H p.2 = some (.tbl #[])) → SqL K H a (ns.map V.int) → sp [.ref a] H (fun v _ => v = .bl true) fun _ _ _ => False) ∧
  ∀ base : Heap, K.In base → base.Ns mainGlobals mg → (∀ p ∈ cs, LamX.TabB base mg p.1 p.2) → FnOk l.prog w K mg base CX k fa fd [x] sp
theorem walk_T {l : PySem.W.OpenLaw} {n k : Nat} {q : Program} {loose : List Str} {XP : (Str → Option Value) → Heap → Prop} {YP : World → Heap → Prop} {d : DefRec} {K : Params → PySem.W.Frag} {CX : World → CXT} {x : Str}
    (hn : l.most = some n) (hn2 : n ≤ sizeLine) (hdf : d.params.defaults = []) (hr : Room k callerA) (hY : ∀ (w : World) (h : Heap), YP w h → (K w.params).In h)
    (F : ∀ (w : World) (mg : Str → Option Value) (fa : Addr) (h : Heap), (K w.params).In h → h.Ns mainGlobals mg → mg d.name = some (.ref fa) → LawT q l w (K w.params) (CX w) k n x mg fa)
    (hCX : ∀ (w : World) (H : Hp) (s : Shared) (e : Value) (s' : Shared), CX w [] H s (fun _ _ _ => False) e s' → False) :
    PySem.W.WalkO q loose XP YP l.row.toRowW d [] (fun f vs => PySem.call f vs) := by
  refine Att.attach_callB hn hdf fun w s0 s1 mg mb fa o pm cd doc a vs ns G Y ho hd hcd hmg hobj hints hlen hbits hg => ?_
  have KX := hY w _ Y
  obtain ⟨fd, cs, sp, hT, hb, hsp, hF⟩ := F w mg fa _ KX G.T.g hmg
  have tb : ∀ p ∈ cs, PySem.W.CodeHd s1.heap p.1 p.2 ∧ s1.heap.get? p.2 = some { cls := .none, data := .fields #[] } := fun p hp => by
    obtain ⟨⟨y, d2, h1, h2⟩, _⟩ := hT p hp
    exact PySem.W.tab_of G.T KX h1 h2
  exact LamX.law_callTs KX G.T.g G.T.b G.T.builtins G.T.nolimit hg (fun p hp => (tb p hp).2) (fun p hp => (hT p hp).2) (fun p hp => (tb p hp).1) G.T.bmain hobj hints (Nat.le_trans hlen hn2) hr hF hb (fun H hH hS => hsp H a ns hlen hbits hH hS) fun H e s' => hCX w H s1 e s'
end
/-- an empty table at the begin -/
theorem Wf.tb0 {H : Hp} {P : Addr} {q : Str} (h : H P = some (.tbl #[])) : Wf [] H [.tb P q] :=
  ⟨fun _ => none, [(P, .tbl #[])], ⟨fun _ _ e => (nomatch e), fun p hp => by rw [List.mem_singleton.mp hp]; exact ⟨h, rfl⟩, by simp⟩, .cons (.tb trivial fun pos cv e => by
    have z : codeAmong pos [] = some cv := e
    simp [codeAmong] at z) .nil, fun _ h => nomatch h⟩
/-! ### calls with the cells shown -/
def tCalC (X : Cx) (js : List Nat) (sp : Sp) (dvs : List V) (t : TA) : TE := fun σ H Q => t σ H fun vs H1 => ShowQ X js sp (vs ++ dvs) σ H1 Q
def ShowV (X : Cx) (js : List Nat) (k : Nat) (v : V) (vs : List V) (σ : L2.St) (H : Hp) (Q : VK) : Prop := ∃ (sp : Sp) (I : Hp), FnV X.prog X.w X.K X.mg X.base k sp v I ∧ Same I H ∧ ShowQ X js sp vs σ H Q
def tCallVC (X : Cx) (js : List Nat) (k i : Nat) (t : TA) : TE := fun σ H Q => ∃ v, σ[i]? = some (some v) ∧ IsFnV X.prog X.w X.K X.mg X.base k v H ∧ t σ H fun vs H1 => ShowV X js k v vs σ H1 Q
def tFldVC (X : Cx) (js : List Nat) (k : Nat) (m : Str) (te : TE) (t : TA) : TE := fun σ H Q => te σ H fun y H1 => ∃ (a C dx : Addr) (fs : List (Str × V)) (v : V), y = .ref a ∧ H1 a = some (.ins C dx fs) ∧ Cls X.K C ∧ NoAttr X.K C m ∧ fs.lookup m = some v ∧ IsFnV X.prog X.w X.K X.mg X.base k v H1 ∧
      t σ H1 fun vs H2 => ShowV X js k v vs σ H2 Q
theorem s_calC {X : Cx} {js : List Nat} {sp : Sp} {dvs : List V} {t : TA} {σ : L2.St} {H : Hp} {Q : VK} (h : t σ H fun vs H1 => ShowQ X js sp (vs ++ dvs) σ H1 Q) : tCalC X js sp dvs t σ H Q := h
theorem s_callVC {X : Cx} {js : List Nat} {k i : Nat} {t : TA} {σ : L2.St} {H : Hp} {Q : VK} {v : V} (hs : σ[i]? = some (some v)) (hf : IsFnV X.prog X.w X.K X.mg X.base k v H) (h : t σ H fun vs H1 => ShowV X js k v vs σ H1 Q) : tCallVC X js k i t σ H Q := ⟨v, hs, hf, h⟩
theorem s_fldVC {X : Cx} {js : List Nat} {k : Nat} {m : Str} {te : TE} {t : TA} {σ : L2.St} {H : Hp} {Q : VK} (h : te σ H fun y H1 => ∃ (a C dx : Addr) (fs : List (Str × V)) (v : V), y = .ref a ∧ H1 a = some (.ins C dx fs) ∧ Cls X.K C ∧ NoAttr X.K C m ∧ fs.lookup m = some v ∧ IsFnV X.prog X.w X.K X.mg X.base k v H1 ∧ t σ H1 fun vs H2 => ShowV X js k v vs σ H2 Q) : tFldVC X js k m te t σ H Q := h
theorem celled1 {X : Cx} {j : Nat} {y : Str} (nN : X.N.Nodup) (h1 : X.N[j]? = some y) (h2 : X.env.scope.names.lookup y = some .cell) (fn : ∀ y, X.fn y = true) : Celled X [j] :=
  ⟨by simp, nN, fun i hi => by rw [List.mem_singleton.mp hi]; exact ⟨y, h1, h2⟩, fn⟩
section
variable {X : Cx} {x m a : Str} {C : Addr} {i : Nat} {p pos apos p1 p2 : Pos} {e o : Expr} {es : List Expr} {t : TA} {k : Nat} {ps : List Str} {dvs : List V} {sp : Sp} {js : List Nat} {te : TE}
theorem pe_calC (c : Cal X.prog X.w X.K X.mg X.base x k ps dvs sp) (hr : Room k X.A) (hg : Gl X x) (hc : Celled X js) (ha : PA X (e :: es) t) (hdb : (x == ("__debug__" : Str)) = false := by decide)
    (he : starEach (e :: es) X.env = (false, eval e X.env) :: starEach es X.env := by rfl) (hpl : (backTo pos (starEach es X.env)).any (·.1) = false := by rfl) : PE X (.Call (.Name x p) (e :: es) [] pos) (tCalC X js sp dvs t) := by
  obtain ⟨f, fd, ds, F, hm, hk, hb, hd⟩ := c.ex
  refine ⟨fun pins s σ H Q J h => ?_⟩
  refine wpAny_Call_Name_kw (ld_glob J hg hm ?_ hdb)
  exact PySem.W.callWith_K (h₀ := X.base) J.ok.mod.kin hk (thn (ha.run pos pins s σ H _ J h) fun us s1 ⟨vs, H1, J1, r, q⟩ => ⟨J1.kIn, run_fnC F hr hb hd hc J1 r q⟩) he hpl
/-- a function that a slot holds, called with the cells shown -/
theorem pe_callVC (hN : X.N[i]? = some a) (hv : Vis X.env.scope a) (hr : Room k X.A) (hc : Celled X js) (ha : PA X (e :: es) t) (hd : (a == ("__debug__" : Str)) = false := by decide) (hcd : (a == ("__classdict__" : Str)) = false := by decide)
    (he : starEach (e :: es) X.env = (false, eval e X.env) :: starEach es X.env := by rfl) (hpl : (backTo p2 (starEach es X.env)).any (·.1) = false := by rfl) :
    PE X (.Call (.Name a p1) (e :: es) [] p2) (tCallVC X js k i t) := by
  refine ⟨fun pins s σ H Q J h => ?_⟩
  obtain ⟨v, hs, ⟨sp0, I0, ⟨f, ev, fa, _⟩, sm0⟩, h⟩ := h
  subst ev
  refine wpAny_Call_Name_kw (thn ((pe_var (pos := p1) (i := i) hN hv hd hcd).run pins s σ H (fun v H1 => v = .ref f ∧ H1 = H) J ⟨.ref f, hs, rfl, rfl⟩) fun u s1 ⟨v, H1, J1, r1, q1⟩ => ?_)
  obtain ⟨ev, eH⟩ := q1
  subst ev
  rw [eH] at J1
  obtain rfl : u = Value.ref f := r1
  refine PySem.W.callWith_F (fa _ _ J1.hok sm0) (thn (ha.run p2 pins s1 σ H _ J1 h) fun us s2 ⟨vs, H2, J2, rv, sp, I, ⟨f2, ef, fa2, run⟩, sm, q⟩ => ?_) he hpl
  cases ef
  obtain ⟨cs, c1, c2, c3⟩ := cells_are J2 hc q.1
  have sm2 : Same I (addC cs H2) := fun b o e => by
    have := sm b o e
    rw [addC_ne (fun z => ?_)]
    · exact this
    · obtain ⟨d, h1, h2⟩ := List.mem_map.mp z
      rw [← h2, c3 d h1] at this
      cases this
  refine ⟨fa2 _ _ J2.hok sm, wpAny_call (codeAny_mono (run X.A X.stack s2 (addC cs H2) us vs _ hr (env0_add J2.env0 c2 c3) rv sm2 (q.2 cs c1 c2.nd c3)) fun r s' z => ?_)⟩
  match r, z with
  | .ok (.ret u), z => exact J2.after (ce_cut c2 c3 z)
  | .ok .next, z => exact False.elim z
  | .ok .brk, z => exact False.elim z
  | .ok .cont, z => exact False.elim z
  | .error er, z => exact False.elim z
/-- a function that a field holds, called with the cells shown: x.f(..) -/
theorem pe_fldVC {pl : Sem Bool} (ho : PE X o te) (hr : Room k X.A) (hc : Celled X js) (ha : PA X (e :: es) t)
    (he : starEach (e :: es) X.env = (false, eval e X.env) :: starEach es X.env := by rfl) (hpl : (backTo pos (starEach es X.env)).any (·.1) = false := by rfl)
    (ht : eval (.Call (.Attribute o m apos) (e :: es) [] pos) X.env = (do
      let ov ← eval o X.env
      standAt apos.atName
      let (f, first) ← holding [ov] (getMethod ov m pl)
      callWith pos f first (backTo pos (starEach (e :: es) X.env)) (backToKw pos (keywordEach [] X.env))) := by rfl) :
    PE X (.Call (.Attribute o m apos) (e :: es) [] pos) (tFldVC X js k m te t) := by
  refine ⟨fun pins s σ H Q J h => ?_⟩
  refine PySem.W.methodCall_KW (pl := pl) (thn (ho.run pins s σ H _ J h) fun u s1 ⟨y, H1, J1, ry, b, C, dx, fs, v, ey, eb, hC, hno, hl, ⟨sp0, I0, ⟨f, ev, fa, _⟩, sm0⟩, q1⟩ => ?_) ht
  subst ey
  subst ev
  obtain rfl : u = Value.ref b := ry
  refine getmeth_fld J1 eb hC hno hl fun u2 s2 J2 r2 => ?_
  obtain rfl : u2 = Value.ref f := r2
  refine PySem.W.callWith_F (first := []) (fa _ _ J2.hok sm0) (thn (ha.run pos pins s2 σ H1 _ J2 q1) fun us s3 ⟨vs, H2, J3, rv, sp, I, ⟨f2, ef, fa2, run⟩, sm, q⟩ => ?_) he hpl
  cases ef
  obtain ⟨cs, c1, c2, c3⟩ := cells_are J3 hc q.1
  have sm2 : Same I (addC cs H2) := fun b o e => by
    have := sm b o e
    rw [addC_ne (fun z => ?_)]
    · exact this
    · obtain ⟨d, h1, h2⟩ := List.mem_map.mp z
      rw [← h2, c3 d h1] at this
      cases this
  refine ⟨fa2 _ _ J3.hok sm, wpAny_call (codeAny_mono (run X.A X.stack s3 (addC cs H2) us vs _ hr (env0_add J3.env0 c2 c3) rv sm2 (q.2 cs c1 c2.nd c3)) fun r s' z => ?_)⟩
  match r, z with
  | .ok (.ret u), z => exact J3.after (ce_cut c2 c3 z)
  | .ok .next, z => exact False.elim z
  | .ok .brk, z => exact False.elim z
  | .ok .cont, z => exact False.elim z
  | .error er, z => exact False.elim z
end
section
variable {P : Program} {w : World} {K : PySem.W.Frag} {mg : Str → Option Value} {base : Heap} {k : Nat} {sp : Sp} {v : V} {F : List (V × D)} {H : Hp} {M : List ME}
theorem Wf.fnV (ww : Wf F H M) (h : Kn F v (.fact (FnV P w K mg base k sp))) : ∃ I, FnV P w K mg base k sp v I ∧ Same I H := by
  obtain ⟨I, Mc, w1, a, hF⟩ := ww.ex
  have := h.is hF
  cases this with
  | fact s q => exact ⟨_, q, s.trans w1.imm⟩
theorem n_isFn (ww : Wf F H M) (h : Kn F v (.fact (FnV P w K mg base k sp))) : IsFnV P w K mg base k v H := by
  obtain ⟨I, a, b⟩ := ww.fnV h
  exact ⟨sp, I, a, b⟩
theorem n_callV {vs : List V} {Q : VK} (ww : Wf F H M) (h : Kn F v (.fact (FnV P w K mg base k sp))) (q : sp vs H Q E0) : CallV P w K mg base k v vs H Q := by
  obtain ⟨I, a, b⟩ := ww.fnV h
  exact ⟨sp, I, a, b, q⟩
end
/-- entries that are cells of unlike addresses stand together ahead -/
theorem cels_ahead {G : List ME} : ∀ {as : List Addr} {ws : List V} {M : List ME}, as.Nodup → (∀ e ∈ celL as ws, e ∈ M) → ∃ M', List.Perm M (celL as ws ++ M') ∧ ∀ e ∈ M, (∀ c v, e ≠ .cel c v) → e ∈ M'
  | [], _, M, _, _ => ⟨M, .refl _, fun e h _ => h⟩
  | _ :: _, [], M, _, _ => ⟨M, .refl _, fun e h _ => h⟩
  | a :: as, v :: ws, M, nd, h => by
    obtain ⟨n1, n2⟩ := List.nodup_cons.mp nd
    obtain ⟨M1, M2, rfl⟩ := List.append_of_mem (h _ List.mem_cons_self)
    have ne : ∀ e ∈ celL as ws, e ≠ .cel a v := fun e he z => by
      obtain ⟨p, h1, h2⟩ := List.mem_map.mp he
      rw [z] at h2
      injection h2 with h3 _
      exact n1 (h3 ▸ (List.of_mem_zip h1).1)
    obtain ⟨M', p, q⟩ := cels_ahead (G := G) (ws := ws) (M := M1 ++ M2) n2 fun e he => by
      have := h e (List.mem_cons_of_mem _ he)
      rcases List.mem_append.mp this with z | z
      · exact List.mem_append_left _ z
      · rcases List.mem_cons.mp z with z | z
        · exact absurd z (ne e he)
        · exact List.mem_append_right _ z
    refine ⟨M', List.perm_middle.trans (p.cons _), fun e he nc => q e ?_ nc⟩
    rcases List.mem_append.mp he with z | z
    · exact List.mem_append_left _ z
    · rcases List.mem_cons.mp z with z | z
      · exact absurd z (nc a v)
      · exact List.mem_append_right _ z
/-- what a lambda captures are cells of the def that makes it -/
def lamFreeB (sc scope : Scope) : Bool := scope.names.all fun y => !decide (y.2 = .free) || (decide (sc.names.lookup y.1 = some .cell) || decide (sc.names.lookup y.1 = some .free))
theorem lamFree_by {sc scope : Scope} (h : lamFreeB sc scope = true) : ∀ y ∈ scope.names, y.2 = .free → sc.names.lookup y.1 = some .cell ∨ sc.names.lookup y.1 = some .free := fun y hy e => by
  have := List.all_eq_true.mp h y hy
  simp only [Bool.or_eq_true, Bool.not_eq_true', decide_eq_true_eq, decide_eq_false_iff_not] at this
  exact this.resolve_left fun z => z e
section
variable {P : Program} {wd : World} {K : PySem.W.Frag} {mg : Str → Option Value} {base : Heap} {k : Nat} {sp : Sp} {v y : V} {F : List (V × D)} {H : Hp} {M : List ME} {X : Cx} {js : List Nat} {us vs : List V} {σ : L2.St} {Q : VK} {φ ψ : V → Hp → Prop}
theorem n_showV (w : Wf F H M) (h : Kn F v (.fact (FnV X.prog X.w X.K X.mg X.base k sp))) (hv : js.map (fun j => σ[j]?) = us.map (fun u => some (some u)))
    (q : ∀ H1 (Q1 : VK), Wf F H1 (celM X js us ++ M) → (∀ v F' M' H2, Wf F' H2 (celM X js us ++ M') → (∀ H3, Wf F' H3 M' → Q v H3) → Q1 v H2) → sp vs H1 Q1 E0) : ShowV X js k v vs σ H Q := by
  obtain ⟨I, a, b⟩ := w.fnV h
  exact ⟨sp, I, a, b, n_shown w hv q⟩
theorem n_fldFn {C : Addr} {fs : List (Str × D)} {m : Str} {A : V → Prop} (w : Wf F H M) (h : Rk F M y (.obj C fs)) (hc : Cls K C) (hn : NoAttr K C m) (hl : fs.lookup m = some (.fact φ)) (hi : ∀ v, Wf ((v, .fact φ) :: F) H M → A v) :
    ∃ (a C dx : Addr) (fs : List (Str × V)) (v : V), y = .ref a ∧ H a = some (.ins C dx fs) ∧ Cls K C ∧ NoAttr K C m ∧ fs.lookup m = some v ∧ A v := by
  obtain ⟨I, Mc, w, a, hF⟩ := w.ex
  obtain ⟨p, dx, vs, rfl, hp, b⟩ := h.obj w a hF
  obtain ⟨u, e, hu⟩ := b.get hl
  exact ⟨p, C, dx, vs, u, rfl, hp, hc, hn, e, hi u ⟨I, Mc, w, a, fun f hf => by
    rcases List.mem_cons.mp hf with rfl | hf
    · exact hu
    · exact hF f hf⟩⟩
theorem Wf.factTo (w : Wf F H M) (h : Kn F v (.fact φ)) (hi : ∀ v I, φ v I → ψ v I) : Wf ((v, .fact ψ) :: F) H M := by
  obtain ⟨I, Mc, w, a, hF⟩ := w.ex
  have e := h.is hF
  refine ⟨I, Mc, w, a, fun f hf => ?_⟩
  rcases List.mem_cons.mp hf with rfl | hf
  · cases e with
    | fact s q => exact .fact s (hi _ _ q)
  · exact hF f hf
theorem Wf.ref_of {C : Addr} {fs : List (Str × D)} (w : Wf F H M) (h : Kn F v (.obj C fs)) : ∃ a, v = .ref a := by
  obtain ⟨I, Mc, w, a, hF⟩ := w.ex
  have e := h.is hF
  cases e
  exact ⟨_, rfl⟩
theorem Wf.non_of (w : Wf F H M) (h : Kn F v .non) : v = .non := by
  obtain ⟨I, Mc, w, a, hF⟩ := w.ex
  exact (h.is hF).non_eq
theorem Wf.fn_of (w : Wf F H M) (h : Kn F v (.fact (FnV P wd K mg base k sp))) : ∃ a, v = .ref a := by
  obtain ⟨I, ⟨f, e, _⟩, _⟩ := w.fnV h
  exact ⟨f, e⟩
theorem Kn.app {d : D} : ∀ (L : List (V × D)), Kn F v d → Kn (L ++ F) v d
  | [], h => h
  | _ :: L, h => (Kn.app L h).more
theorem Rk.app {d : D} : ∀ (L : List (V × D)), Rk F M v d → Rk (L ++ F) M v d
  | [], h => h
  | _ :: L, h => (Rk.app L h).moreF
end
end Fs

namespace Fs
open PySem PySem.Spec PyProof.Rows L2
local macro_rules | `(tactic| ktf_call "is") => `(tactic| (first | ((refine' Is.mono ?s ?h); (case s => assumption); (case h => ktf_call "is")) | fail))
local macro_rules | `(tactic| ktf_call "is") => `(tactic| exact Is.str _)
local macro_rules | `(tactic| ktf_call "is") => `(tactic| exact Is.non)
local macro_rules | `(tactic| ktf_call "is") => `(tactic| exact Is.bl _)
local macro_rules | `(tactic| ktf_call "is") => `(tactic| exact Is.int _)
local macro_rules | `(tactic| ktf_call "is") => `(tactic| assumption)
local macro_rules | `(tactic| ktf_call "isa") => `(tactic| assumption)
local macro_rules | `(tactic| ktf_call "isa") => `(tactic| (first | ((refine' IsA.cons ?x ?y); (case x => ktf_call "is"); (case y => ktf_call "isa")) | fail))
local macro_rules | `(tactic| ktf_call "isa") => `(tactic| exact IsA.nil)
local macro_rules | `(tactic| ktf_call "lst") => `(tactic| (first | ((refine' W.imm ?w _ _ ?h); (case w => assumption); (case h => assumption)) | fail))
local macro_rules | `(tactic| ktf_call "lst") => `(tactic| (first | exact W.at2 (by assumption) | fail))
local macro_rules | `(tactic| ktf_call "lst") => `(tactic| (first | exact W.at1 (by assumption) | fail))
local macro_rules | `(tactic| ktf_call "lst") => `(tactic| (first | exact W.at0 (by assumption) | fail))
local macro_rules | `(tactic| ktf_call "lst") => `(tactic| assumption)
local macro_rules | `(tactic| wtm_at "inv") => `(tactic| (intro u hu; first | (have e := Is.int_eq hu; subst e) | (have e := Is.bl_eq hu; subst e) | (have e := Is.non_eq hu; subst e) | (have e := Is.str_eq hu; subst e) | (have e := Is.ref_eq hu; subst e) | skip))
local macro_rules | `(tactic| ktr_call "o1" 0) => `(tactic| (first | with_reducible refine s_iteDn (by omega) ?_ | fail))
local macro_rules | `(tactic| ktr_call "o1" 0) => `(tactic| (first | with_reducible refine s_iteDp (by omega) ?_ | fail))
local macro_rules | `(tactic| ktr_call "o1" 0) => `(tactic| (first | with_reducible refine s_iteIn (by omega) ?_ | fail))
local macro_rules | `(tactic| ktr_call "o1" 0) => `(tactic| (first | with_reducible refine s_iteIp (by omega) ?_ | fail))
local macro_rules | `(tactic| ktr_call "o1" 0) => `(tactic| (first | ((with_reducible refine' s_I ?c ?_); (case c => first | exact cd64 (by omega) (by omega) | (show (0 : Int) < _; omega) | exact ⟨⟨by decide, by decide, by decide⟩, by decide⟩)) | fail))
local macro_rules | `(tactic| ktr_call "o1" 0) => `(tactic| (first | ((with_reducible refine' s_mul ?c ?_); (case c => exact cm64 (by omega) (by omega) (by omega) (by omega))) | fail))
local macro_rules | `(tactic| wtm_at "goo") => `(tactic| repeat (first | wtm_at "go0" | ktr_call "o1" 0))
local macro_rules | `(tactic| wtm_at "st") => `(tactic| (wtm_at "s1"; wtm_at "s1"))
local macro_rules | `(tactic| wtm_at "fork") => `(tactic| with_reducible refine s_ite (fun _ => ?_) (fun _ => ?_))
local macro_rules | `(tactic| wtm_at "fork") => `(tactic| with_reducible refine s_iteD (fun _ => ?_) (fun _ => ?_))
local macro_rules | `(tactic| wtm_at "fork") => `(tactic| with_reducible refine s_iteI (fun _ => ?_) (fun _ => ?_))
local macro_rules | `(tactic| ktf_call "kn0") => `(tactic| with_reducible exact Kn.ty _)
local macro_rules | `(tactic| ktf_call "kn0") => `(tactic| assumption)
local macro_rules | `(tactic| ktf_call "kn0") => `(tactic| (first | ((refine' Kn.mem ?h); (case h => ktf_call "mem")) | fail))
local macro_rules | `(tactic| ktf_call "kn0") => `(tactic| with_reducible exact Kn.non)
local macro_rules | `(tactic| ktf_call "kn0") => `(tactic| with_reducible exact Kn.str _)
local macro_rules | `(tactic| ktf_call "kn0") => `(tactic| with_reducible exact Kn.bl _)
local macro_rules | `(tactic| ktf_call "kn0") => `(tactic| with_reducible exact Kn.int _)
local macro_rules | `(tactic| ktf_call "kna0") => `(tactic| (first | ((refine' KnA.cons ?x ?y); (case x => ktf_call "kn0"); (case y => ktf_call "kna0")) | fail))
local macro_rules | `(tactic| ktf_call "kna0") => `(tactic| exact KnA.nil)
local macro_rules | `(tactic| ktf_call "kna") => `(tactic| (first | ((refine' KnA.cons ?x ?y); (case x => ktf_call "kn"); (case y => ktf_call "kna")) | fail))
local macro_rules | `(tactic| ktf_call "kna") => `(tactic| exact KnA.nil)
local macro_rules | `(tactic| ktf_call "rkF") => `(tactic| (first | ((with_reducible refine' Rk.moreF ?h); (case h => ktf_call "rkF")) | fail))
local macro_rules | `(tactic| ktf_call "rkF") => `(tactic| assumption)
local macro_rules | `(tactic| ktf_call "rkM") => `(tactic| (first | ((with_reducible refine' Rk.more ?h); (case h => ktf_call "rkM")) | fail))
local macro_rules | `(tactic| ktf_call "rkM") => `(tactic| ktf_call "rkF")
local macro_rules | `(tactic| ktf_call "rem") => `(tactic| (first | ((with_reducible refine' Rem.there ?h); (case h => ktf_call "rem")) | fail))
local macro_rules | `(tactic| ktf_call "rem") => `(tactic| with_reducible exact Rem.here)
local macro_rules | `(tactic| ktf_call "ks") => `(tactic| (first | ((with_reducible refine' KS.drop ?h); (case h => ktf_call "ks")) | fail))
local macro_rules | `(tactic| ktf_call "ks") => `(tactic| (first | ((with_reducible refine' KS.cons ?x ?y); (case x => ktf_call "kn"); (case y => ktf_call "ks")) | fail))
local macro_rules | `(tactic| ktf_call "ks") => `(tactic| with_reducible exact KS.nil)
local macro_rules | `(tactic| ktf_call "ks") => `(tactic| with_reducible exact KS.refl)
local macro_rules | `(tactic| ktf_call "sl") => `(tactic| (first | ((with_reducible refine' List.Sublist.cons _ ?h); (case h => ktf_call "sl")) | fail))
local macro_rules | `(tactic| ktf_call "sl") => `(tactic| (first | ((with_reducible refine' List.Sublist.cons_cons _ ?h); (case h => ktf_call "sl")) | fail))
local macro_rules | `(tactic| ktf_call "sl") => `(tactic| with_reducible exact List.nil_sublist _)
local macro_rules | `(tactic| ktf_call "sl") => `(tactic| with_reducible exact List.Sublist.refl _)
local macro_rules | `(tactic| wtm_at "wf") => `(tactic| (first | ((refine' Wf.sub ?w ?k ?s); (case w => assumption); (case k => ktf_call "ks"); (case s => ktf_call "sl")) | fail))
local macro_rules | `(tactic| wtm_at "wf") => `(tactic| assumption)
local macro_rules | `(tactic| wtm_at "wf1") => `(tactic| ((refine' Wf.sub ?w ?k ?s); (case w => assumption); (case k => refine' KS.cons (Kn.mem List.mem_cons_self) ?y; (case y => ktf_call "ks")); (case s => first | ktf_call "sl" | exact List.Sublist.refl _)))
local macro_rules | `(tactic| wtm_at "wfd") => `(tactic| ((refine' Wf.sub ?w ?k ?s); (case w => assumption); (case k => ktf_call "ks"); (case s => exact List.Sublist.refl _)))
local macro_rules | `(tactic| wtm_at "lc") => `(tactic| (simp only [List.length_cons, List.length_nil, List.length_map, List.length_append, List.length_singleton, List.length_reverse, List.length_set, List.length_replicate, List.length_range] at *; omega))
local macro_rules | `(tactic| wtm_at "c1") => `(tactic| fail)
local macro_rules | `(tactic| wtm_at "c0") => `(tactic| fail)
local macro_rules | `(tactic| ktn_call "n2" 0) => `(tactic| with_reducible refine s_iS ?_)
local macro_rules | `(tactic| ktn_call "n2" 0) => `(tactic| (first | ((with_reducible refine' s_iteDp ?h ?_); (case h => with_reducible exact rfl)) | fail))
local macro_rules | `(tactic| ktn_call "n2" 0) => `(tactic| with_reducible refine s_enum ?_)
local macro_rules | `(tactic| ktn_call "n2" 0) => `(tactic| with_reducible refine s_nput ?_)
local macro_rules | `(tactic| ktn_call "n2" 0) => `(tactic| with_reducible refine s_nnotin ?_)
local macro_rules | `(tactic| ktn_call "n2" 0) => `(tactic| with_reducible refine s_nget ?_)
local macro_rules | `(tactic| ktn_call "n2" 0) => `(tactic| with_reducible refine s_dput ?_)
local macro_rules | `(tactic| ktn_call "n2" 0) => `(tactic| with_reducible refine s_dnotin ?_)
local macro_rules | `(tactic| ktn_call "n2" 0) => `(tactic| with_reducible refine s_din ?_)
local macro_rules | `(tactic| ktn_call "n2" 0) => `(tactic| with_reducible refine s_dget ?_)
local macro_rules | `(tactic| wtm_at "no") => `(tactic| repeat (first | ktr_call "n0" 0 | ktr_call "o1" 0))
local macro_rules | `(tactic| wtm_at "na") => `(tactic| repeat (first | ktr_call "n0" 0 | ktr_call "o1" 0 | wtm_at "c1"))
local macro_rules | `(tactic| ktr_call "x1" 0) => `(tactic| (first | ((with_reducible refine' s_aug ?h ?_); (case h => exact rfl)) | fail))
local macro_rules | `(tactic| ktr_call "x1" 0) => `(tactic| with_reducible refine s_gcons ?_)
local macro_rules | `(tactic| ktr_call "x1" 0) => `(tactic| with_reducible refine s_gnil ?_)
local macro_rules | `(tactic| ktr_call "x1" 0) => `(tactic| with_reducible refine s_augS ?_)
local macro_rules | `(tactic| ktr_call "x1" 0) => `(tactic| with_reducible refine s_sfld ?_)
local macro_rules | `(tactic| ktr_call "x1" 0) => `(tactic| with_reducible refine s_gsub ?_)
local macro_rules | `(tactic| ktr_call "x1" 0) => `(tactic| with_reducible refine s_bm0 ?_)
local macro_rules | `(tactic| ktr_call "x1" 0) => `(tactic| with_reducible refine s_bm ?_)
local macro_rules | `(tactic| ktr_call "x1" 0) => `(tactic| with_reducible refine s_par2 ?_)
local macro_rules | `(tactic| ktr_call "x1" 0) => `(tactic| with_reducible refine s_par ?_)
local macro_rules | `(tactic| ktr_call "x1" 0) => `(tactic| with_reducible refine s_drop ?_)
local macro_rules | `(tactic| ktr_call "x1" 0) => `(tactic| with_reducible refine s_gname ?_)
local macro_rules | `(tactic| ktr_call "x1" 0) => `(tactic| with_reducible refine s_asg ?_)
local macro_rules | `(tactic| ktr_call "x1" 0) => `(tactic| with_reducible refine s_nil ?_)
local macro_rules | `(tactic| ktr_call "x1" 0) => `(tactic| with_reducible refine s_cons ?_)
local macro_rules | `(tactic| ktr_call "x1" 0) => `(tactic| with_reducible refine s_op ?_)
local macro_rules | `(tactic| ktr_call "x1" 0) => `(tactic| with_reducible refine s_c ?_)
local macro_rules | `(tactic| ktr_call "x1" 0) => `(tactic| (first | ((with_reducible refine' s_var ?h ?_); (case h => exact rfl)) | fail))
local macro_rules | `(tactic| wtm_at "st2") => `(tactic| repeat wtm_at "st0")
local macro_rules | `(tactic| wtm_at "kk") => `(tactic| repeat (first | with_reducible refine s_k ?_ | with_reducible refine iteT ?_ | with_reducible refine iteF ?_ | with_reducible refine s_iteN ?_))
local macro_rules | `(tactic| ktr_call "b2" 0) => `(tactic| (first | ((with_reducible refine s_iteIp ?h ?_); (case h => exact rfl)) | fail))
local macro_rules | `(tactic| ktr_call "b2" 0) => `(tactic| with_reducible refine s_nonN ?_)
local macro_rules | `(tactic| ktr_call "b2" 0) => `(tactic| with_reducible refine s_refN ?_)
local macro_rules | `(tactic| ktr_call "b2" 0) => `(tactic| with_reducible refine s_intN ?_)
local macro_rules | `(tactic| ktr_call "s2" 0) => `(tactic| with_reducible refine s_brk ?_)
local macro_rules | `(tactic| ktr_call "s2" 0) => `(tactic| with_reducible refine s_cnt ?_)
local macro_rules | `(tactic| ktr_call "s2" 0) => `(tactic| with_reducible refine s_iT ?_)
local macro_rules | `(tactic| ktr_call "s2" 0) => `(tactic| with_reducible refine s_iL ?_)
local macro_rules | `(tactic| ktr_call "s2" 0) => `(tactic| (first | ((with_reducible refine' s_aug ?h ?_); (case h => exact rfl)) | fail))
local macro_rules | `(tactic| ktr_call "s2" 0) => `(tactic| with_reducible refine s_zip ?_)
local macro_rules | `(tactic| ktr_call "s2" 0) => `(tactic| with_reducible refine s_rng2 ?_)
local macro_rules | `(tactic| ktr_call "s2" 0) => `(tactic| with_reducible refine s_rng1 ?_)
local macro_rules | `(tactic| ktr_call "s2" 0) => `(tactic| with_reducible refine s_retN ?_)
local macro_rules | `(tactic| ktr_call "s2" 0) => `(tactic| with_reducible refine s_gcons ?_)
local macro_rules | `(tactic| ktr_call "s2" 0) => `(tactic| with_reducible refine s_gnil ?_)
local macro_rules | `(tactic| ktr_call "s2" 0) => `(tactic| (first | ((with_reducible refine' s_tyL ?h ?_); (case h => ktf_call "lst")) | fail))
local macro_rules | `(tactic| ktr_call "s2" 0) => `(tactic| (first | ((with_reducible refine' s_setW1 (by assumption) ?j ?_); (case j => exact rfl); (intro H' w')) | fail))
local macro_rules | `(tactic| ktr_call "s2" 0) => `(tactic| (first | ((with_reducible refine' s_setW0 (by assumption) ?j ?_); (case j => exact rfl); (intro H' w')) | fail))
local macro_rules | `(tactic| ktr_call "s2" 0) => `(tactic| with_reducible refine s_augS ?_)
local macro_rules | `(tactic| ktr_call "s2" 0) => `(tactic| with_reducible refine s_sfld ?_)
local macro_rules | `(tactic| ktr_call "s2" 0) => `(tactic| with_reducible refine s_gsub ?_)
local macro_rules | `(tactic| ktr_call "s2" 0) => `(tactic| with_reducible refine s_bm0 ?_)
local macro_rules | `(tactic| ktr_call "s2" 0) => `(tactic| with_reducible refine s_bm ?_)
local macro_rules | `(tactic| ktr_call "s2" 0) => `(tactic| with_reducible refine s_for ?_)
local macro_rules | `(tactic| ktr_call "s2" 0) => `(tactic| with_reducible refine s_par2 ?_)
local macro_rules | `(tactic| ktr_call "s2" 0) => `(tactic| with_reducible refine s_par ?_)
local macro_rules | `(tactic| ktr_call "s2" 0) => `(tactic| with_reducible refine s_drop ?_)
local macro_rules | `(tactic| ktn_call "e2" 0) => `(tactic| (first | ((with_reducible refine' s_isi (by assumption) ?h ?e ?k ?_); (case h => ktf_call "is"); (case e => exact rfl); (case k => first | exact kit_ii | exact kit_ib | exact kit_bi | exact kit_bb | exact kit_tt | exact kit_ll | decide +kernel)) | fail))
local macro_rules | `(tactic| ktn_call "e2" 0) => `(tactic| (first | ((with_reducible refine' s_ne ?h ?_); (case h => exact rfl)) | fail))
local macro_rules | `(tactic| ktn_call "e2" 0) => `(tactic| (first | ((with_reducible refine' s_eq ?h ?_); (case h => exact rfl)) | fail))
local macro_rules | `(tactic| ktn_call "e2" 0) => `(tactic| (first | ((with_reducible refine' s_I ?c ?_); (case c => exact ⟨⟨by decide, by decide, by decide⟩, by decide⟩)) | fail))
local macro_rules | `(tactic| ktn_call "e2" 0) => `(tactic| (first | ((with_reducible refine' s_lenM ?h ?_); (case h => ktf_call "lst")) | fail))
local macro_rules | `(tactic| ktn_call "e2" 0) => `(tactic| (first | ((with_reducible refine' s_lenL (by assumption) ?h ?_); (case h => ktf_call "is")) | fail))
local macro_rules | `(tactic| ktn_call "e2" 0) => `(tactic| (first | ((with_reducible refine' s_lenT (by assumption) ?h ?_); (case h => ktf_call "is")) | fail))
local macro_rules | `(tactic| ktn_call "e2" 0) => `(tactic| (first | ((with_reducible refine' s_fldI (by assumption) ?h ?c ?n ?f ?d ?_); (case h => ktf_call "is"); (case c => exact OwnC.cl (by assumption)); (case n => assumption); (case f => decide); (case d => exact rfl); wtm_at "inv") | fail))
local macro_rules | `(tactic| ktn_call "e2" 0) => `(tactic| (first | ((with_reducible refine' s_ixLM ?h ?d ?_); (case h => ktf_call "lst"); (case d => exact rfl)) | fail))
local macro_rules | `(tactic| ktn_call "e2" 0) => `(tactic| (first | ((with_reducible refine' s_ixM ?h ?d ?_); (case h => ktf_call "lst"); (case d => exact rfl)) | fail))
local macro_rules | `(tactic| ktn_call "e2" 0) => `(tactic| (first | ((with_reducible refine' s_ixL (by assumption) ?h ?d ?_); (case h => ktf_call "is"); (case d => exact rfl); wtm_at "inv") | fail))
local macro_rules | `(tactic| ktn_call "e2" 0) => `(tactic| (first | ((with_reducible refine' s_ixT (by assumption) ?h ?d ?_); (case h => ktf_call "is"); (case d => exact rfl); wtm_at "inv") | fail))
local macro_rules | `(tactic| ktn_call "e2" 0) => `(tactic| with_reducible refine s_ipI ?_)
local macro_rules | `(tactic| ktn_call "e2" 0) => `(tactic| with_reducible refine s_max2 ?_)
local macro_rules | `(tactic| ktn_call "e2" 0) => `(tactic| with_reducible refine s_min2 ?_)
local macro_rules | `(tactic| ktn_call "e2" 0) => `(tactic| with_reducible refine s_intI ?_)
local macro_rules | `(tactic| ktn_call "e2" 0) => `(tactic| with_reducible refine s_intB ?_)
local macro_rules | `(tactic| ktn_call "e2" 0) => `(tactic| with_reducible refine s_abs ?_)
local macro_rules | `(tactic| ktn_call "e2" 0) => `(tactic| with_reducible refine s_yes ?_)
local macro_rules | `(tactic| ktn_call "e2" 0) => `(tactic| with_reducible refine s_lcc ?_)
local macro_rules | `(tactic| ktn_call "e2" 0) => `(tactic| with_reducible refine s_part' ?_)
local macro_rules | `(tactic| ktn_call "e2" 0) => `(tactic| with_reducible refine s_part ?_)
local macro_rules | `(tactic| ktn_call "e2" 0) => `(tactic| with_reducible refine s_noP ?_)
local macro_rules | `(tactic| ktn_call "e2" 0) => `(tactic| with_reducible refine s_sl ?_)
local macro_rules | `(tactic| ktn_call "e2" 0) => `(tactic| with_reducible refine s_rev ?_)
local macro_rules | `(tactic| ktn_call "e2" 0) => `(tactic| with_reducible refine s_meth ?_)
local macro_rules | `(tactic| ktn_call "e2" 0) => `(tactic| with_reducible refine s_makeK ?_)
local macro_rules | `(tactic| ktn_call "e2" 0) => `(tactic| with_reducible refine s_make ?_)
local macro_rules | `(tactic| ktn_call "e2" 0) => `(tactic| with_reducible refine s_fldQ ?_)
local macro_rules | `(tactic| ktn_call "e2" 0) => `(tactic| with_reducible refine s_lst ?_)
local macro_rules | `(tactic| ktn_call "e2" 0) => `(tactic| with_reducible refine s_tup ?_)
local macro_rules | `(tactic| ktn_call "e2" 0) => `(tactic| with_reducible refine s_notN ?_)
local macro_rules | `(tactic| ktn_call "e2" 0) => `(tactic| with_reducible refine s_isN ?_)
local macro_rules | `(tactic| ktn_call "e2" 0) => `(tactic| with_reducible refine s_chain ?_)
local macro_rules | `(tactic| ktn_call "e2" 0) => `(tactic| with_reducible refine s_if ?_)
local macro_rules | `(tactic| ktn_call "e2" 0) => `(tactic| with_reducible refine s_notV ?_)
local macro_rules | `(tactic| ktn_call "e2" 0) => `(tactic| with_reducible refine s_orV ?_)
local macro_rules | `(tactic| ktn_call "e2" 0) => `(tactic| with_reducible refine s_andV ?_)
local macro_rules | `(tactic| ktn_call "e2" 0) => `(tactic| with_reducible refine s_or ?_)
local macro_rules | `(tactic| ktn_call "e2" 0) => `(tactic| with_reducible refine s_and ?_)
local macro_rules | `(tactic| ktn_call "e2" 0) => `(tactic| with_reducible refine s_not ?_)
local macro_rules | `(tactic| ktn_call "e2" 0) => `(tactic| with_reducible refine s_fldVC ?_)
local macro_rules | `(tactic| ktn_call "e2" 0) => `(tactic| with_reducible refine s_calC ?_)
local macro_rules | `(tactic| ktn_call "e2" 0) => `(tactic| with_reducible refine s_B ?_)
local macro_rules | `(tactic| ktn_call "e2" 0) => `(tactic| with_reducible refine s_un ?_)
local macro_rules | `(tactic| ktn_call "e2" 0) => `(tactic| with_reducible refine s_U ?_)
local macro_rules | `(tactic| tbr_iter "ef") => `(tactic| with_reducible refine s_add ?_)
local macro_rules | `(tactic| tbr_iter "ef") => `(tactic| with_reducible refine s_I0 ?_)
local macro_rules | `(tactic| tbr_iter "ef") => `(tactic| with_reducible refine s_cb ?_)
local macro_rules | `(tactic| tbr_iter "ef") => `(tactic| with_reducible refine s_makeX ?_)
local macro_rules | `(tactic| tbr_iter "ef") => `(tactic| with_reducible refine s_callN ?_)
local macro_rules | `(tactic| tbr_iter "ef") => `(tactic| with_reducible refine s_callS ?_)
local macro_rules | `(tactic| tbr_iter "ef") => `(tactic| with_reducible refine s_call ?_)
local macro_rules | `(tactic| tbr_iter "ef") => `(tactic| with_reducible refine s_k ?_)
local macro_rules | `(tactic| tbr_iter "ef") => `(tactic| with_reducible refine s_test ?_)
local macro_rules | `(tactic| tbr_iter "ef") => `(tactic| with_reducible refine s_nil ?_)
local macro_rules | `(tactic| tbr_iter "ef") => `(tactic| with_reducible refine s_cons ?_)
local macro_rules | `(tactic| tbr_iter "ef") => `(tactic| with_reducible refine s_op ?_)
local macro_rules | `(tactic| tbr_iter "ef") => `(tactic| with_reducible refine s_c ?_)
local macro_rules | `(tactic| tbr_iter "ef") => `(tactic| (first | ((with_reducible refine' s_var ?h ?_); (case h => exact rfl)) | fail))
local macro_rules | `(tactic| tbr_iter "sf") => `(tactic| with_reducible refine s_ret ?_)
local macro_rules | `(tactic| tbr_iter "sf") => `(tactic| with_reducible refine s_next ?_)
local macro_rules | `(tactic| tbr_iter "sf") => `(tactic| with_reducible refine s_ifS ?_)
local macro_rules | `(tactic| tbr_iter "sf") => `(tactic| with_reducible refine s_gname ?_)
local macro_rules | `(tactic| tbr_iter "sf") => `(tactic| with_reducible refine s_asg ?_)
local macro_rules | `(tactic| tbr_iter "sf") => `(tactic| with_reducible refine s_seq ?_)
local macro_rules | `(tactic| tbr_iter "bf") => `(tactic| with_reducible refine s_iteN ?_)
local macro_rules | `(tactic| tbr_iter "bf") => `(tactic| with_reducible refine iteF ?_)
local macro_rules | `(tactic| tbr_iter "bf") => `(tactic| with_reducible refine iteT ?_)
local macro_rules | `(tactic| wtm_at "e1") => `(tactic| ktn_call "e2" 0)
local macro_rules | `(tactic| wtm_at "e1") => `(tactic| tbr_iter "ef")
local macro_rules | `(tactic| wtm_at "s1") => `(tactic| ktr_call "s2" 0)
local macro_rules | `(tactic| wtm_at "s1") => `(tactic| tbr_iter "sf")
local macro_rules | `(tactic| wtm_at "b1") => `(tactic| ktr_call "b2" 0)
local macro_rules | `(tactic| wtm_at "b1") => `(tactic| tbr_iter "bf")
local macro_rules | `(tactic| wtm_at "st0") => `(tactic| wtm_at "b1")
local macro_rules | `(tactic| wtm_at "st0") => `(tactic| ktn_call "e2" 0)
local macro_rules | `(tactic| wtm_at "st0") => `(tactic| tbr_iter "ef")
local macro_rules | `(tactic| wtm_at "st0") => `(tactic| k_search "n1")
local macro_rules | `(tactic| wtm_at "st0") => `(tactic| ktr_call "x1" 0)
local macro_rules | `(tactic| wtm_at "go0") => `(tactic| ktr_call "b2" 0)
local macro_rules | `(tactic| wtm_at "go0") => `(tactic| ktr_call "s2" 0)
local macro_rules | `(tactic| wtm_at "go0") => `(tactic| ktn_call "e2" 0)
local macro_rules | `(tactic| wtm_at "go0") => `(tactic| tbr_iter "f1")
local macro_rules | `(tactic| wtm_at "go") => `(tactic| repeat wtm_at "go0")
local macro_rules | `(tactic| ktf_call "kn") => `(tactic| exact Kn.ref _)
local macro_rules | `(tactic| ktf_call "kn") => `(tactic| exact Kn.ty _)
local macro_rules | `(tactic| ktf_call "kn") => `(tactic| assumption)
local macro_rules | `(tactic| ktf_call "kn") => `(tactic| (first | ((refine' Kn.mem ?h); (case h => ktf_call "mem")) | fail))
local macro_rules | `(tactic| ktf_call "kn") => `(tactic| with_reducible exact Kn.non)
local macro_rules | `(tactic| ktf_call "kn") => `(tactic| with_reducible exact Kn.str _)
local macro_rules | `(tactic| ktf_call "kn") => `(tactic| with_reducible exact Kn.bl _)
local macro_rules | `(tactic| ktf_call "kn") => `(tactic| with_reducible exact Kn.int _)
local macro_rules | `(tactic| ktf_call "foc") => `(tactic| (first | ((with_reducible refine' Foc.there ?h); (case h => ktf_call "foc")) | fail))
local macro_rules | `(tactic| ktf_call "foc") => `(tactic| with_reducible exact Foc.here)
local macro_rules | `(tactic| ktf_call "rk") => `(tactic| ktf_call "rkM")
local macro_rules | `(tactic| ktf_call "rk") => `(tactic| (first | ((with_reducible refine' Rk.mi ?h); (case h => ktf_call "mem")) | fail))
local macro_rules | `(tactic| ktf_call "rk") => `(tactic| (first | ((with_reducible refine' Rk.ml ?h); (case h => ktf_call "mem")) | fail))
local macro_rules | `(tactic| ktf_call "rk") => `(tactic| (first | ((refine' Rk.mem ?h); (case h => ktf_call "mem")) | fail))
local macro_rules | `(tactic| ktf_call "rk") => `(tactic| with_reducible exact Rk.non)
local macro_rules | `(tactic| ktf_call "rk") => `(tactic| with_reducible exact Rk.str _)
local macro_rules | `(tactic| ktf_call "rk") => `(tactic| with_reducible exact Rk.bl _)
local macro_rules | `(tactic| ktf_call "rk") => `(tactic| with_reducible exact Rk.int _)
local macro_rules | `(tactic| ktf_call "mem") => `(tactic| (first | ((with_reducible refine' List.mem_cons_of_mem _ ?h); (case h => ktf_call "mem")) | fail))
local macro_rules | `(tactic| ktf_call "mem") => `(tactic| assumption)
local macro_rules | `(tactic| ktf_call "mem") => `(tactic| with_reducible exact List.mem_cons_self)
local macro_rules | `(tactic| k_search "n1") => `(tactic| (first | ((with_reducible refine' n_sf (by assumption) ?f ?h ?c ?n ?z ?g ?_); (case f => ktf_call "foc"); (case h => ktf_call "kn"); (case c => exact OwnC.cl (by assumption)); (case n => assumption); (case z => decide); (case g => first | decide | (simp; done)); (intro H' w')) | fail))
local macro_rules | `(tactic| k_search "n1") => `(tactic| (first | ((with_reducible refine' n_meth (by assumption) ?h ?m ?_); (case h => ktf_call "rk"); (case m => first | decide | (simp only [List.map_cons, List.map_nil]; decide))) | fail))
local macro_rules | `(tactic| k_search "n1") => `(tactic| (first | ((with_reducible refine' n_fld (by assumption) ?h ?c ?n ?f ?d ?_); (case h => ktf_call "rk"); (case c => exact OwnC.cl (by assumption)); (case n => assumption); (case f => decide); (case d => exact rfl); (intro u w')) | fail))
local macro_rules | `(tactic| k_search "n1") => `(tactic| (first | ((with_reducible refine' n_fldn (by assumption) ?h ?c ?n ?f ?d ?_); (case h => ktf_call "rk"); (case c => exact OwnC.cl (by assumption)); (case n => assumption); (case f => decide); (case d => exact rfl)) | fail))
local macro_rules | `(tactic| k_search "n1") => `(tactic| (first | ((with_reducible refine' n_fldr (by assumption) ?h ?c ?n ?f ?d ?_); (case h => ktf_call "rk"); (case c => exact OwnC.cl (by assumption)); (case n => assumption); (case f => decide); (case d => exact rfl)) | fail))
local macro_rules | `(tactic| k_search "n1") => `(tactic| (first | ((with_reducible refine' n_fldi (by assumption) ?h ?c ?n ?f ?d ?_); (case h => ktf_call "rk"); (case c => exact OwnC.cl (by assumption)); (case n => assumption); (case f => decide); (case d => exact rfl)) | fail))
local macro_rules | `(tactic| k_search "n1") => `(tactic| (first | ((with_reducible refine' n_isi (by assumption) ?h ?e ?k ?_); (case h => ktf_call "rk"); (case e => exact rfl); (case k => first | exact kit_ii | exact kit_ib | exact kit_bi | exact kit_bb | exact kit_tt | exact kit_ll | decide +kernel)) | fail))
local macro_rules | `(tactic| k_search "n1") => `(tactic| (first | ((with_reducible refine' n_rev (by assumption) ?h ?_); (case h => ktf_call "rk"); (intro p H' w')) | fail))
local macro_rules | `(tactic| k_search "n1") => `(tactic| (first | ((with_reducible refine' n_listT (by assumption) ?h ?_); (case h => ktf_call "rk"); (intro p H' w')) | fail))
local macro_rules | `(tactic| k_search "n1") => `(tactic| (first | ((with_reducible refine' n_list (by assumption) ?h ?_); (case h => ktf_call "rk"); (intro p H' w')) | fail))
local macro_rules | `(tactic| k_search "n1") => `(tactic| (first | ((with_reducible refine' n_sl (by assumption) ?h ?_); (case h => ktf_call "rk"); (intro p H' w')) | fail))
local macro_rules | `(tactic| k_search "n1") => `(tactic| (first | ((with_reducible refine' n_set (by assumption) ?f ?h ?z ?_); (case f => ktf_call "foc"); (case h => ktf_call "kn"); (case z => exact rfl); (intro H' w')) | fail))
local macro_rules | `(tactic| k_search "n1") => `(tactic| (first | ((with_reducible refine' n_clear (by assumption) ?f ?_); (case f => ktf_call "foc"); (intro H' w')) | fail))
local macro_rules | `(tactic| k_search "n1") => `(tactic| (first | ((with_reducible refine' n_app (by assumption) ?f ?h ?z ?_); (case f => ktf_call "foc"); (case h => ktf_call "kn0"); (case z => first | omega | (simp; done) | (simp; omega)); (intro H' w')) | fail))
local macro_rules | `(tactic| k_search "n1") => `(tactic| (first | ((with_reducible refine' n_tyL (by assumption) ?h ?_); (case h => ktf_call "mem")) | fail))
local macro_rules | `(tactic| k_search "n1") => `(tactic| (first | ((with_reducible refine' n_gtup4 (by assumption) ?h ?_); (case h => ktf_call "rk"); (intro x y z u w')) | fail))
local macro_rules | `(tactic| k_search "n1") => `(tactic| (first | ((with_reducible refine' n_gtup3 (by assumption) ?h ?_); (case h => ktf_call "rk"); (intro x y z w')) | fail))
local macro_rules | `(tactic| k_search "n1") => `(tactic| (first | ((with_reducible refine' n_gtup2 (by assumption) ?h ?_); (case h => ktf_call "rk"); (intro x y w')) | fail))
local macro_rules | `(tactic| k_search "n1") => `(tactic| (first | ((with_reducible refine' n_gtupIII (by assumption) ?h ?_); (case h => ktf_call "rk")) | fail))
local macro_rules | `(tactic| k_search "n1") => `(tactic| (first | ((with_reducible refine' n_gtupII (by assumption) ?h ?_); (case h => ktf_call "rk")) | fail))
local macro_rules | `(tactic| k_search "n1") => `(tactic| (first | ((with_reducible refine' n_newL (by assumption) ?a ?z ?_); (case a => ktf_call "kna0"); (case z => exact Nat.le_of_ble_eq_true rfl); (intro p H' w')) | fail))
local macro_rules | `(tactic| k_search "n1") => `(tactic| (first | ((with_reducible refine' n_newT (by assumption) ?a ?z ?_); (case a => ktf_call "kna0"); (case z => exact Nat.le_of_ble_eq_true rfl); (intro p H' w')) | fail))
local macro_rules | `(tactic| k_search "n1") => `(tactic| (first | ((with_reducible refine' n_lenT (by assumption) ?h ?_); (case h => ktf_call "rk")) | fail))
local macro_rules | `(tactic| k_search "n1") => `(tactic| (first | ((with_reducible refine' n_lenL (by assumption) ?h ?_); (case h => ktf_call "rk")) | fail))
local macro_rules | `(tactic| k_search "n1") => `(tactic| (first | ((with_reducible refine' n_ixL (by assumption) ?h ?d ?_); (case h => ktf_call "rk"); (case d => first | exact rfl | with_reducible exact atI_head | with_reducible exact atI_last _ _); (intro u w')) | fail))
local macro_rules | `(tactic| k_search "n1") => `(tactic| (first | ((with_reducible refine' n_ixT (by assumption) ?h ?d ?_); (case h => ktf_call "rk"); (case d => exact rfl); (intro u w')) | fail))
local macro_rules | `(tactic| k_search "n1") => `(tactic| (first | ((with_reducible refine' n_ixTn (by assumption) ?h ?d ?_); (case h => ktf_call "rk"); (case d => exact rfl)) | fail))
local macro_rules | `(tactic| k_search "n1") => `(tactic| (first | ((with_reducible refine' n_ixLr (by assumption) ?h ?d ?_); (case h => ktf_call "rk"); (case d => exact rfl)) | fail))
local macro_rules | `(tactic| k_search "n1") => `(tactic| (first | ((with_reducible refine' n_ixLi (by assumption) ?h ?d ?_); (case h => ktf_call "rk"); (case d => exact rfl)) | fail))
local macro_rules | `(tactic| k_search "n1") => `(tactic| (first | ((with_reducible refine' n_ixTr (by assumption) ?h ?d ?_); (case h => ktf_call "rk"); (case d => exact rfl)) | fail))
local macro_rules | `(tactic| k_search "n1") => `(tactic| (first | ((with_reducible refine' n_ixTi (by assumption) ?h ?d ?_); (case h => ktf_call "rk"); (case d => exact rfl)) | fail))
local macro_rules | `(tactic| tbr_iter "f1") => `(tactic| with_reducible refine s_ret ?_)
local macro_rules | `(tactic| tbr_iter "f1") => `(tactic| with_reducible refine s_add ?_)
local macro_rules | `(tactic| tbr_iter "f1") => `(tactic| with_reducible refine s_iteN ?_)
local macro_rules | `(tactic| tbr_iter "f1") => `(tactic| with_reducible refine s_next ?_)
local macro_rules | `(tactic| tbr_iter "f1") => `(tactic| with_reducible refine iteF ?_)
local macro_rules | `(tactic| tbr_iter "f1") => `(tactic| with_reducible refine iteT ?_)
local macro_rules | `(tactic| tbr_iter "f1") => `(tactic| with_reducible refine s_I0 ?_)
local macro_rules | `(tactic| tbr_iter "f1") => `(tactic| with_reducible refine s_cb ?_)
local macro_rules | `(tactic| tbr_iter "f1") => `(tactic| with_reducible refine s_makeX ?_)
local macro_rules | `(tactic| tbr_iter "f1") => `(tactic| with_reducible refine s_callN ?_)
local macro_rules | `(tactic| tbr_iter "f1") => `(tactic| with_reducible refine s_callS ?_)
local macro_rules | `(tactic| tbr_iter "f1") => `(tactic| with_reducible refine s_call ?_)
local macro_rules | `(tactic| tbr_iter "f1") => `(tactic| with_reducible refine s_k ?_)
local macro_rules | `(tactic| tbr_iter "f1") => `(tactic| with_reducible refine s_test ?_)
local macro_rules | `(tactic| tbr_iter "f1") => `(tactic| with_reducible refine s_ifS ?_)
local macro_rules | `(tactic| tbr_iter "f1") => `(tactic| with_reducible refine s_gname ?_)
local macro_rules | `(tactic| tbr_iter "f1") => `(tactic| with_reducible refine s_asg ?_)
local macro_rules | `(tactic| tbr_iter "f1") => `(tactic| with_reducible refine s_seq ?_)
local macro_rules | `(tactic| tbr_iter "f1") => `(tactic| with_reducible refine s_nil ?_)
local macro_rules | `(tactic| tbr_iter "f1") => `(tactic| with_reducible refine s_cons ?_)
local macro_rules | `(tactic| tbr_iter "f1") => `(tactic| with_reducible refine s_op ?_)
local macro_rules | `(tactic| tbr_iter "f1") => `(tactic| with_reducible refine s_c ?_)
local macro_rules | `(tactic| tbr_iter "f1") => `(tactic| (first | ((with_reducible refine' s_var ?h ?_); (case h => exact rfl)) | fail))
local macro_rules | `(tactic| ktr_call "n0" 0) => `(tactic| wtm_at "c0")
local macro_rules | `(tactic| ktr_call "n0" 0) => `(tactic| ktr_call "b2" 0)
local macro_rules | `(tactic| ktr_call "n0" 0) => `(tactic| ktr_call "s2" 0)
local macro_rules | `(tactic| ktr_call "n0" 0) => `(tactic| ktn_call "e2" 0)
local macro_rules | `(tactic| ktr_call "n0" 0) => `(tactic| ktn_call "n2" 0)
local macro_rules | `(tactic| ktr_call "n0" 0) => `(tactic| k_search "n1")
local macro_rules | `(tactic| ktr_call "n0" 0) => `(tactic| tbr_iter "f1")
local macro_rules | `(tactic| wtm_at "n") => `(tactic| repeat ktr_call "n0" 0)
section
variable {P : Program} {wd : World} {K : PySem.W.Frag} {mg : Str → Option Value} {base : Heap}
variable {C_Part C_Ways C_Columns C_Lines C_NoFraction C_Wrong C_FairError : Addr}
def top (i : Nat) : Stmt := PySem.Challenge.pw_fairsheet_k82_lines_are_columns.main.body.getD i (.Pass ⟨0, 0, 0, 0⟩)
abbrev s_Wrong___init__ : Stmt := inClass (top 4) 0
theorem sc_Wrong___init__ : FnScope ["self", "at"] ["self", "at"] (defScope s_Wrong___init__) := ⟨rfl, rfl, rfl, by decide +kernel, rfl, by decide +kernel, by decide +kernel⟩
theorem okI_Wrong {f : Addr} {fd : FuncData} (F : Fun K "__init__" "Wrong.__init__" s_Wrong___init__ f fd) (B : ErrB K mg "FairError" C_FairError) (T : OexC K C_Wrong) (hn : PySem.W.findIn K (.ref C_Wrong) "at" = some none) : FnOk P wd K mg base CX0 1 f fd ["self", "at"] (sp_xinit C_Wrong "at") := by
  refine F.ok sc_Wrong___init__ (fun vs H Q E h => ?_) (fun cdv A outer s H vs Q E hr h => ?_)
  · obtain ⟨a, v, rfl, _⟩ := h
    rfl
  · obtain ⟨a, v, rfl, ha, k⟩ := h
    refine ⟨_, pss_cons (ps_expr (pe_clinit B (by rfl) (pa_cons (pv 0) (pa_cons pe_str pa_nil)))) (pss_one (ps_ost (pv 0) (pv 1))), ?_⟩
    try dsimp only [cxOf, Cx.nox, Cx.wish, Cx.blk]
    wtm_at "go"
    refine s_veI ?_
    wtm_at "go"
    refine ⟨a, C_Wrong, _, rfl, by simp, T, ha, ?_⟩
    wtm_at "go"
    dsimp only
    refine s_ost ?_
    wtm_at "go"
    exact ⟨a, C_Wrong, rfl, T, hn, .inl ⟨ha, fun dx h1 h2 => k dx h1 h2⟩⟩

abbrev s_is_whole : Stmt := top 11
theorem sc_is_whole : FnScope ["thing"] ["thing"] (defScope s_is_whole) := ⟨rfl, rfl, rfl, by decide +kernel, rfl, by decide +kernel, by decide +kernel⟩
def sp_is_whole (K : PySem.W.Frag) : Sp := fun vs H Q _ => ∃ I M v d, vs = [v] ∧ W I H M ∧ Is I v d ∧ TyK K d ∧ Q (.bl d.whole) H
theorem use_isI {K : PySem.W.Frag} {I H : Hp} {M : List (Addr × HO)} {n : Int} {Q : VK} {E : XK} (w : W I H M) (q : Q (.bl true) H) : sp_is_whole K ([.int n] ++ []) H Q E := ⟨I, M, _, _, rfl, w, .int n, .inl ⟨_, rfl⟩, q⟩
theorem use_isN {K : PySem.W.Frag} {I H : Hp} {M : List (Addr × HO)} {v : V} {d : D} {a : String} {Q : VK} {E : XK} (w : W I H M) (h : Is I v d) (ha : d.tn = some a) (hd : d.whole = false) (q : Q (.bl false) H) : sp_is_whole K ([v] ++ []) H Q E := ⟨I, M, _, _, rfl, w, h, .inl ⟨_, ha⟩, by rw [hd]; exact q⟩
theorem n_isw {K : PySem.W.Frag} {F : List (V × D)} {H : Hp} {M : List ME} {v : V} {d : D} {Q : VK} {E : XK} (w : Wf F H M) (hv : Rk F M v d) (ht : TyK K d) (q : Q (.bl d.whole) H) : sp_is_whole K ([v] ++ []) H Q E := ⟨H, [], v, d, rfl, W.self, w.rd hv, ht, q⟩
theorem n_isI {K : PySem.W.Frag} {n : Int} {H : Hp} {Q : VK} {E : XK} (q : Q (.bl true) H) : sp_is_whole K ([.int n] ++ []) H Q E := ⟨H, [], .int n, .int n, rfl, W.self, .int n, .inl ⟨_, rfl⟩, q⟩
local macro_rules | `(tactic| wtm_at "c0") => `(tactic| with_reducible refine n_isI ?_)

theorem ok_is_whole {f : Addr} {fd : FuncData} (F : Fun K "is_whole" "is_whole" s_is_whole f fd) (B : Bn mg)  : FnOk P wd K mg base CX0 1 f fd ["thing"] (sp_is_whole K) := by
  refine F.ok sc_is_whole (fun vs H Q E h => ?_) (fun cdv A outer s H vs Q E hr h => ?_)
  · obtain ⟨I, M, v, d, rfl, w, hv, ha, k⟩ := h
    all_goals rfl
  · obtain ⟨I, M, v, d, rfl, w, hv, ha, k⟩ := h
    refine ⟨_, (pss_one (ps_ret (pe_and (pe_callB (k_isi (K := K) rfl) (by rfl) B.isinstance_ (by decide +kernel) (pa_cons (pv 0) (pa_cons (pe_bltn (v := .ty "int") (by rfl) B.int_ (by decide +kernel) rfl) pa_nil))) (pe_one (pe_not (pe_callB (k_isi (K := K) rfl) (by rfl) B.isinstance_ (by decide +kernel) (pa_cons (pv 0) (pa_cons (pe_bltn (v := .ty "bool") (by rfl) B.bool_ (by decide +kernel) rfl) pa_nil)))))))), ?_⟩
    try dsimp only [cxOf, Cx.nox, Cx.wish, Cx.blk]
    rcases ha with ⟨a, ha⟩ | ⟨C, fs, rfl, oc, ki⟩
    · cases d with
      | int n => wtm_at "go"; exact k
      | bl n => wtm_at "go"; exact k
      | non => wtm_at "go"; exact k
      | str n => wtm_at "go"; exact k
      | tup n => wtm_at "go"; exact k
      | lst n => wtm_at "go"; exact k
      | ref n => cases ha
      | ty n => cases ha
      | obj n m => cases ha
      | fact _ => cases ha
      | dict => wtm_at "go"; exact k
    · wtm_at "go"
      refine s_isiO oc w hv ki ?_
      wtm_at "go"
      exact k
def D.upto (m : Int) : D → Bool
  | .int n => decide (0 ≤ n) && decide (n ≤ m)
  | _ => false
theorem upto_ok {n m : Int} (h0 : 0 ≤ n) (h1 : n ≤ m) : (D.int n).upto m = true := by simp [D.upto, h0, h1]

abbrev s_is_length : Stmt := top 12
theorem sc_is_length : FnScope ["thing"] ["thing"] (defScope s_is_length) := ⟨rfl, rfl, rfl, by decide +kernel, rfl, by decide +kernel, by decide +kernel⟩
def sp_is_length (K : PySem.W.Frag) : Sp := fun vs H Q _ => ∃ I M v d, vs = [v] ∧ W I H M ∧ Is I v d ∧ TyK K d ∧ Q (.bl (d.upto 1000000000000)) H
theorem use_is_length {K : PySem.W.Frag} {I H : Hp} {M : List (Addr × HO)} {n : Int} {Q : VK} {E : XK} (w : W I H M) (h0 : 0 ≤ n) (h1 : n ≤ 1000000000000) (q : Q (.bl true) H) : sp_is_length K ([.int n] ++ []) H Q E := ⟨I, M, _, _, rfl, w, .int n, .inl ⟨_, rfl⟩, by rw [upto_ok h0 h1]; exact q⟩

theorem ok_is_length {f : Addr} {fd : FuncData} (F : Fun K "is_length" "is_length" s_is_length f fd) (B : Bn mg) (c_is_whole : Cal P wd K mg base "is_whole" 1 ["thing"] [] (sp_is_whole K)) (g_LENGTH : ∃ t, mg "LENGTH" = some (.int 1000000000000 t))  : FnOk P wd K mg base CX0 2 f fd ["thing"] (sp_is_length K) := by
  refine F.ok sc_is_length (fun vs H Q E h => ?_) (fun cdv A outer s H vs Q E hr h => ?_)
  · obtain ⟨I, M, v, d, rfl, w, hv, ha, k⟩ := h
    all_goals rfl
  · obtain ⟨I, M, v, d, rfl, w, hv, ha, k⟩ := h
    refine ⟨_, (pss_one (ps_ret (pe_and (pe_cal c_is_whole (hr.mono (by decide)) (by rfl) (pa_cons (pv 0) pa_nil)) (pe_one (pe_chain op_le op_le pe_int (pv 0) (pe_globI (by rfl) g_LENGTH)))))), ?_⟩
    try dsimp only [cxOf, Cx.nox, Cx.wish, Cx.blk]
    wtm_at "go"
    refine ⟨I, M, _, _, rfl, w, hv, ha, ?_⟩
    cases d with
    | int n =>
      cases hv.int_eq
      dsimp only [D.whole]
      wtm_at "go"
      wtm_at "fork"
      · rename_i h1
        wtm_at "go"
        have e : (D.int n).upto 1000000000000 = decide (n ≤ 1000000000000) := by simp [D.upto, h1]
        rw [← e]; exact k
      · rename_i h1
        wtm_at "go"
        have e : (D.int n).upto 1000000000000 = false := by simp [D.upto, h1]
        rw [← e]; exact k
    | bl n => wtm_at "go"; exact k
    | non => wtm_at "go"; exact k
    | str n => wtm_at "go"; exact k
    | tup n => wtm_at "go"; exact k
    | lst n => wtm_at "go"; exact k
    | ref n => wtm_at "go"; exact k
    | ty n => wtm_at "go"; exact k
    | obj n m => wtm_at "go"; exact k
    | fact _ => wtm_at "go"; exact k
    | dict => wtm_at "go"; exact k
abbrev s_is_small : Stmt := top 13
theorem sc_is_small : FnScope ["thing"] ["thing"] (defScope s_is_small) := ⟨rfl, rfl, rfl, by decide +kernel, rfl, by decide +kernel, by decide +kernel⟩
def sp_is_small (K : PySem.W.Frag) : Sp := fun vs H Q _ => ∃ I M v d, vs = [v] ∧ W I H M ∧ Is I v d ∧ TyK K d ∧ Q (.bl (d.upto 1000000)) H
theorem use_is_small {K : PySem.W.Frag} {I H : Hp} {M : List (Addr × HO)} {n : Int} {Q : VK} {E : XK} (w : W I H M) (h0 : 0 ≤ n) (h1 : n ≤ 1000000) (q : Q (.bl true) H) : sp_is_small K ([.int n] ++ []) H Q E := ⟨I, M, _, _, rfl, w, .int n, .inl ⟨_, rfl⟩, by rw [upto_ok h0 h1]; exact q⟩

theorem ok_is_small {f : Addr} {fd : FuncData} (F : Fun K "is_small" "is_small" s_is_small f fd) (B : Bn mg) (c_is_whole : Cal P wd K mg base "is_whole" 1 ["thing"] [] (sp_is_whole K)) (g_SMALL : ∃ t, mg "SMALL" = some (.int 1000000 t))  : FnOk P wd K mg base CX0 2 f fd ["thing"] (sp_is_small K) := by
  refine F.ok sc_is_small (fun vs H Q E h => ?_) (fun cdv A outer s H vs Q E hr h => ?_)
  · obtain ⟨I, M, v, d, rfl, w, hv, ha, k⟩ := h
    all_goals rfl
  · obtain ⟨I, M, v, d, rfl, w, hv, ha, k⟩ := h
    refine ⟨_, (pss_one (ps_ret (pe_and (pe_cal c_is_whole (hr.mono (by decide)) (by rfl) (pa_cons (pv 0) pa_nil)) (pe_one (pe_chain op_le op_le pe_int (pv 0) (pe_globI (by rfl) g_SMALL)))))), ?_⟩
    try dsimp only [cxOf, Cx.nox, Cx.wish, Cx.blk]
    wtm_at "go"
    refine ⟨I, M, _, _, rfl, w, hv, ha, ?_⟩
    cases d with
    | int n =>
      cases hv.int_eq
      dsimp only [D.whole]
      wtm_at "go"
      wtm_at "fork"
      · rename_i h1
        wtm_at "go"
        have e : (D.int n).upto 1000000 = decide (n ≤ 1000000) := by simp [D.upto, h1]
        rw [← e]; exact k
      · rename_i h1
        wtm_at "go"
        have e : (D.int n).upto 1000000 = false := by simp [D.upto, h1]
        rw [← e]; exact k
    | bl n => wtm_at "go"; exact k
    | non => wtm_at "go"; exact k
    | str n => wtm_at "go"; exact k
    | tup n => wtm_at "go"; exact k
    | lst n => wtm_at "go"; exact k
    | ref n => wtm_at "go"; exact k
    | ty n => wtm_at "go"; exact k
    | obj n m => wtm_at "go"; exact k
    | fact _ => wtm_at "go"; exact k
    | dict => wtm_at "go"; exact k
abbrev s_is_weight : Stmt := top 14
theorem sc_is_weight : FnScope ["thing"] ["thing"] (defScope s_is_weight) := ⟨rfl, rfl, rfl, by decide +kernel, rfl, by decide +kernel, by decide +kernel⟩
def sp_is_weight (K : PySem.W.Frag) : Sp := fun vs H Q _ => ∃ I M v d, vs = [v] ∧ W I H M ∧ Is I v d ∧ TyK K d ∧ Q (.bl (d.upto 1000)) H
theorem use_is_weight {K : PySem.W.Frag} {I H : Hp} {M : List (Addr × HO)} {n : Int} {Q : VK} {E : XK} (w : W I H M) (h0 : 0 ≤ n) (h1 : n ≤ 1000) (q : Q (.bl true) H) : sp_is_weight K ([.int n] ++ []) H Q E := ⟨I, M, _, _, rfl, w, .int n, .inl ⟨_, rfl⟩, by rw [upto_ok h0 h1]; exact q⟩

theorem ok_is_weight {f : Addr} {fd : FuncData} (F : Fun K "is_weight" "is_weight" s_is_weight f fd) (B : Bn mg) (c_is_whole : Cal P wd K mg base "is_whole" 1 ["thing"] [] (sp_is_whole K)) (g_WEIGHT : ∃ t, mg "WEIGHT" = some (.int 1000 t))  : FnOk P wd K mg base CX0 2 f fd ["thing"] (sp_is_weight K) := by
  refine F.ok sc_is_weight (fun vs H Q E h => ?_) (fun cdv A outer s H vs Q E hr h => ?_)
  · obtain ⟨I, M, v, d, rfl, w, hv, ha, k⟩ := h
    all_goals rfl
  · obtain ⟨I, M, v, d, rfl, w, hv, ha, k⟩ := h
    refine ⟨_, (pss_one (ps_ret (pe_and (pe_cal c_is_whole (hr.mono (by decide)) (by rfl) (pa_cons (pv 0) pa_nil)) (pe_one (pe_chain op_le op_le pe_int (pv 0) (pe_globI (by rfl) g_WEIGHT)))))), ?_⟩
    try dsimp only [cxOf, Cx.nox, Cx.wish, Cx.blk]
    wtm_at "go"
    refine ⟨I, M, _, _, rfl, w, hv, ha, ?_⟩
    cases d with
    | int n =>
      cases hv.int_eq
      dsimp only [D.whole]
      wtm_at "go"
      wtm_at "fork"
      · rename_i h1
        wtm_at "go"
        have e : (D.int n).upto 1000 = decide (n ≤ 1000) := by simp [D.upto, h1]
        rw [← e]; exact k
      · rename_i h1
        wtm_at "go"
        have e : (D.int n).upto 1000 = false := by simp [D.upto, h1]
        rw [← e]; exact k
    | bl n => wtm_at "go"; exact k
    | non => wtm_at "go"; exact k
    | str n => wtm_at "go"; exact k
    | tup n => wtm_at "go"; exact k
    | lst n => wtm_at "go"; exact k
    | ref n => wtm_at "go"; exact k
    | ty n => wtm_at "go"; exact k
    | obj n m => wtm_at "go"; exact k
    | fact _ => wtm_at "go"; exact k
    | dict => wtm_at "go"; exact k
abbrev s_divisor : Stmt := top 15
theorem sc_divisor : FnScope ["one", "other"] ["one", "other"] (defScope s_divisor) := ⟨rfl, rfl, rfl, by decide +kernel, rfl, by decide +kernel, by decide +kernel⟩
def sp_divisor : Sp := fun vs H Q _ => ∃ a b : Int, vs = [.int a, .int b] ∧ 0 ≤ a ∧ 0 ≤ b ∧ Q (.int (Int.gcd a b)) H

theorem ok_divisor {f : Addr} {fd : FuncData} (F : Fun K "divisor" "divisor" s_divisor f fd) (B : Bn mg)  : FnOk P wd K mg base CX0 1 f fd ["one", "other"] sp_divisor := by
  refine F.ok sc_divisor (fun vs H Q E h => ?_) (fun cdv A outer s H vs Q E hr h => ?_)
  · obtain ⟨a, b, rfl, ha, hb, k⟩ := h
    all_goals rfl
  · obtain ⟨a, b, rfl, ha, hb, k⟩ := h
    refine ⟨_, (pss_cons (ps_while PassesOwn.never (pt_cmpR (k_ne (K := K) rfl hr.units) (pv 0) pe_int (nomark _)) (pss_one (ps_par (i := 0) (j := 1) rfl sc_divisor.nd rfl rfl (by decide) rfl rfl (pa_cons (pe_op op_mod (pv 1) (pv 0)) (pa_cons (pv 0) pa_nil)) rfl)))
      (pss_one (ps_ret (pv 1)))), ?_⟩
    try dsimp only [cxOf, Cx.nox, Cx.wish, Cx.blk]
    with_reducible refine s_seq ?_
    refine s_while (fun σ' H' => H' = H ∧ ∃ a' b' : Int, σ' = [some (.int a'), some (.int b')] ∧ 0 ≤ a' ∧ 0 ≤ b' ∧ Int.gcd b' a' = Int.gcd a b) (fun σ => match σ with | [some (.int b), _] => b.toNat | _ => 0) ⟨rfl, a, b, rfl, ha, hb, Int.gcd_comm _ _⟩ ?_
    rintro σ' H' ⟨rfl, a', b', rfl, ha', hb', e⟩
    wtm_at "go"
    wtm_at "fork"
    · wtm_at "go"
      rename_i e0
      subst e0
      rw [← e, gcd_end hb'] at k
      exact k
    · rename_i e0
      refine s_wN ?_
      wtm_at "goo"
      exact ⟨⟨rfl, b' % a', a', rfl, Int.emod_nonneg _ e0, ha', by rw [gcd_step hb' ha', e]⟩, by
        have := Int.emod_lt_of_pos b' (show 0 < a' by omega)
        have := Int.emod_nonneg b' e0
        show (b' % a').toNat < a'.toNat
        omega⟩
abbrev s_fraction : Stmt := top 16
theorem sc_fraction : FnScope ["top", "bottom", "by"] ["top", "bottom"] (defScope s_fraction) := ⟨rfl, rfl, rfl, by decide +kernel, rfl, by decide +kernel, by decide +kernel⟩
def sp_fraction : Sp := fun vs H Q _ => ∃ I M, ∃ t b : Int, vs = [.int t, .int b] ∧ W I H M ∧ b ≠ 0 ∧ Bd 8000 b ∧ ∀ r J H', Same I J → W J H' M → Is J r (frq (Rat.divInt t b)) → Q r H'
theorem use_fraction {I H : Hp} {M : List (Addr × HO)} {t b : Int} {Q : VK} {E : XK} (w : W I H M) (hb : b ≠ 0) (hB : Bd 8000 b) (q : ∀ r J H', Same I J → W J H' M → Is J r (frq (Rat.divInt t b)) → Q r H') : sp_fraction ([.int t, .int b] ++ []) H Q E := ⟨I, M, t, b, rfl, w, hb, hB, q⟩
theorem n_fraction {F : List (V × D)} {H : Hp} {M : List ME} {t b : Int} {Q : VK} {E : XK} (w : Wf F H M) (hb : b ≠ 0) (hB : Bd 8000 b) (q : ∀ r H', Wf ((r, frq (Rat.divInt t b)) :: F) H' M → Q r H') : sp_fraction ([.int t, .int b] ++ []) H Q E := by
  obtain ⟨I, Mc, w, is, _, up⟩ := w.old
  exact use_fraction w hb hB fun r J H' s w' h => q r H' (up J H' r _ s w' h)

theorem ok_fraction {f : Addr} {fd : FuncData} (F : FunD K "fraction" "fraction" (defArgs s_fraction) (defBody s_fraction) (defScope s_fraction) [.int 1] [] f fd) (B : Bn mg) (c_divisor : Cal P wd K mg base "divisor" 1 ["one", "other"] [] sp_divisor)  : FnOk P wd K mg base CX0 2 f fd ["top", "bottom"] sp_fraction := by
  refine F.ok0 sc_fraction (fun vs H Q E h => ?_) (fun cdv A outer s H vs Q E hr h => ?_)
  · obtain ⟨I, M, t, b, rfl, w, hb, hB, k⟩ := h
    all_goals rfl
  · obtain ⟨I, M, t, b, rfl, w, hb, hB, k⟩ := h
    refine ⟨_, (pss_cons (ps_if (pt_cmpR (k_eq (K := K) rfl hr.units) (pv 1) pe_int (nomark _)) pss_never pss_nil)
      (pss_cons (ps_if (pt_cmpR op_lt (pv 1) pe_int (nomark _)) (pss_one (ps_par (i := 0) (j := 1) rfl sc_fraction.nd rfl rfl (by decide) rfl rfl (pa_cons (pe_un un_neg (pv 0)) (pa_cons (pe_un un_neg (pv 1)) pa_nil)) rfl)) pss_nil)
      (pss_cons (ps_set (i := 2) sc_fraction.nd rfl (Or.inl rfl) (pe_cal c_divisor (hr.mono (by decide)) (by rfl) (pa_cons (pe_callB uc_abs (by rfl) B.abs_ (by decide +kernel) (pa_cons (pv 0) pa_nil)) (pa_cons (pv 1) pa_nil))))
      (pss_one (ps_ret (pe_tup (pa_cons (pe_op op_fdivW (pv 0) (pv 2)) (pa_cons (pe_op op_fdivW (pv 1) (pv 2)) pa_nil)))))))), ?_⟩
    try dsimp only [cxOf, Cx.nox, Cx.wish, Cx.blk]
    have hg := gcd_pos' (t := t) hb
    have hgb : Bd 8000 (Int.gcd t b : Int) := hB.le (gcd_le_right' hb)
    with_reducible refine s_seq ?_
    wtm_at "go"
    refine s_iteIn hb ?_
    with_reducible refine s_next ?_
    with_reducible refine s_mid (fun σ' H' => H' = H ∧ σ' = [some (.int (if b < 0 then -t else t)), some (.int (if b < 0 then -b else b)), none]) ?_ (fun N fin => ?_)
    · rintro σ' H' ⟨rfl, rfl⟩
      wtm_at "go"
      refine ⟨_, _, rfl, (by split <;> split <;> omega), (by split <;> omega), ?_⟩
      have e : Int.gcd (if (if b < 0 then -t else t) < 0 then -(if b < 0 then -t else t) else (if b < 0 then -t else t)) (if b < 0 then -b else b) = Int.gcd t b := by
        by_cases h1 : b < 0
        · rw [if_pos h1, if_pos h1]
          have := gcd_abs (-t) (-b)
          rw [if_neg (show ¬ -b < 0 by omega)] at this
          rw [this, Int.gcd_neg, Int.neg_gcd]
        · rw [if_neg h1, if_neg h1]
          have := gcd_abs t b
          rw [if_neg h1] at this
          exact this
      rw [e]
      wtm_at "go"
      refine s_I (hgb.cd hg) ?_
      wtm_at "go"
      refine s_I (hgb.cd hg) ?_
      rw [low_num hb, low_den hb]
      wtm_at "go"
      refine s_newT w (by ktf_call "isa") (by simp) fun p J H' s1 _ w1 h1 => ?_
      exact k _ J H' s1 w1 h1
    · wtm_at "go"
      wtm_at "fork"
      · rename_i hlt
        wtm_at "go"
        exact fin _ _ ⟨rfl, by rw [if_pos hlt, if_pos hlt]; rfl⟩
      · rename_i hlt
        wtm_at "go"
        exact fin _ _ ⟨rfl, by rw [if_neg hlt, if_neg hlt]; rfl⟩
def spx_fraction (C : Addr) : Sp := fun vs H _ E => ∃ t : Int, vs = [.int t, .int 0] ∧ E (.ref C) none H

theorem okx_fraction {f : Addr} {fd : FuncData} (F : FunD K "fraction" "fraction" (defArgs s_fraction) (defBody s_fraction) (defScope s_fraction) [.int 1] [] f fd) (B : Bn mg) (e_NoFraction : ErrC K mg "NoFraction" C_NoFraction) : FnOk P wd K mg base (L2.CX P wd) 2 f fd ["top", "bottom"] (spx_fraction C_NoFraction) := by
  refine F.okX sc_fraction (fun vs H Q E h => ?_) (fun cdv A outer s H vs Q E hr h => ?_)
  · obtain ⟨t, rfl, k⟩ := h
    all_goals rfl
  · obtain ⟨t, rfl, k⟩ := h
    refine ⟨_, (pss_cons (ps_if (pt_cmpR (k_eq (K := K) rfl hr.units) (pv 1) pe_int (nomark _)) (pss_one (ps_raiseC e_NoFraction rfl (takes_of rfl rfl rfl rfl) (by rfl))) pss_nil)
      pss_never), ?_⟩
    try dsimp only [cxOf, Cx.nox, Cx.wish, Cx.blk]
    wtm_at "go"
    exact k
abbrev s_plus : Stmt := top 17
theorem sc_plus : FnScope ["one", "other"] ["one", "other"] (defScope s_plus) := ⟨rfl, rfl, rfl, by decide +kernel, rfl, by decide +kernel, by decide +kernel⟩
def sp_plus : Sp := fun vs H Q _ => ∃ I M u v, ∃ p q : Rat, vs = [u, v] ∧ W I H M ∧ Is I u (frq p) ∧ Is I v (frq q) ∧ Sz 100000 p ∧ Sz 100000 q ∧ Bd 8000 (p.den * q.den : Int) ∧ ∀ r J H', Same I J → W J H' M → Is J r (frq (p + q)) → Q r H'
theorem use_plus {I H : Hp} {M : List (Addr × HO)} {u v : V} {p q : Rat} {Q : VK} {E : XK} {j k : Nat} (w : W I H M) (hu : Is I u (frq p)) (hv : Is I v (frq q)) (hp : Sz j p) (hq : Sz k q) (h1 : j ≤ 100000) (h2 : k ≤ 100000) (hB : Bd 8000 (p.den * q.den : Int)) (f : ∀ r J H', Same I J → W J H' M → Is J r (frq (p + q)) → Q r H') : sp_plus ([u, v] ++ []) H Q E :=
  ⟨I, M, u, v, p, q, rfl, w, hu, hv, hp.mono h1, hq.mono h2, hB, f⟩

theorem ok_plus {f : Addr} {fd : FuncData} (F : Fun K "plus" "plus" s_plus f fd) (B : Bn mg) (c_fraction : Cal P wd K mg base "fraction" 2 ["top", "bottom"] [] sp_fraction)  : FnOk P wd K mg base CX0 3 f fd ["one", "other"] sp_plus := by
  refine F.ok sc_plus (fun vs H Q E h => ?_) (fun cdv A outer s H vs Q E hr h => ?_)
  · obtain ⟨I, M, u, v, p, q, rfl, w, hu, hv, hp, hq, hB, k⟩ := h
    all_goals rfl
  · obtain ⟨I, M, u, v, p, q, rfl, w, hu, hv, hp, hq, hB, k⟩ := h
    refine ⟨_, (pss_one (ps_ret (pe_cal c_fraction (hr.mono (by decide)) (by rfl) (pa_cons (pe_op (k_add (K := K) rfl) (pe_op uo_mul (pe_ix (k_ix (K := K) rfl) (pv 0) pe_int (fun _ _ => rfl)) (pe_ix (k_ix (K := K) rfl) (pv 1) pe_int (fun _ _ => rfl))) (pe_op uo_mul (pe_ix (k_ix (K := K) rfl) (pv 1) pe_int (fun _ _ => rfl)) (pe_ix (k_ix (K := K) rfl) (pv 0) pe_int (fun _ _ => rfl)))) (pa_cons (pe_op uo_mul (pe_ix (k_ix (K := K) rfl) (pv 0) pe_int (fun _ _ => rfl)) (pe_ix (k_ix (K := K) rfl) (pv 1) pe_int (fun _ _ => rfl))) pa_nil))))), ?_⟩
    try dsimp only [cxOf, Cx.nox, Cx.wish, Cx.blk]
    wtm_at "go"
    refine s_mul (hp.n.cm hq.d) ?_
    wtm_at "go"
    refine s_mul (hq.n.cm hp.d) ?_
    wtm_at "go"
    refine s_mul (hp.d.cm hq.d) ?_
    wtm_at "go"
    refine use_fraction w (den_mul_ne p q) hB ?_
    rw [add_dv]
    exact k
abbrev s_minus : Stmt := top 18
theorem sc_minus : FnScope ["one", "other"] ["one", "other"] (defScope s_minus) := ⟨rfl, rfl, rfl, by decide +kernel, rfl, by decide +kernel, by decide +kernel⟩
def sp_minus : Sp := fun vs H Q _ => ∃ I M u v, ∃ p q : Rat, vs = [u, v] ∧ W I H M ∧ Is I u (frq p) ∧ Is I v (frq q) ∧ Sz 100000 p ∧ Sz 100000 q ∧ Bd 8000 (p.den * q.den : Int) ∧ ∀ r J H', Same I J → W J H' M → Is J r (frq (p - q)) → Q r H'
theorem use_minus {I H : Hp} {M : List (Addr × HO)} {u v : V} {p q : Rat} {Q : VK} {E : XK} {j k : Nat} (w : W I H M) (hu : Is I u (frq p)) (hv : Is I v (frq q)) (hp : Sz j p) (hq : Sz k q) (h1 : j ≤ 100000) (h2 : k ≤ 100000) (hB : Bd 8000 (p.den * q.den : Int)) (f : ∀ r J H', Same I J → W J H' M → Is J r (frq (p - q)) → Q r H') : sp_minus ([u, v] ++ []) H Q E :=
  ⟨I, M, u, v, p, q, rfl, w, hu, hv, hp.mono h1, hq.mono h2, hB, f⟩

theorem ok_minus {f : Addr} {fd : FuncData} (F : Fun K "minus" "minus" s_minus f fd) (B : Bn mg) (c_fraction : Cal P wd K mg base "fraction" 2 ["top", "bottom"] [] sp_fraction)  : FnOk P wd K mg base CX0 3 f fd ["one", "other"] sp_minus := by
  refine F.ok sc_minus (fun vs H Q E h => ?_) (fun cdv A outer s H vs Q E hr h => ?_)
  · obtain ⟨I, M, u, v, p, q, rfl, w, hu, hv, hp, hq, hB, k⟩ := h
    all_goals rfl
  · obtain ⟨I, M, u, v, p, q, rfl, w, hu, hv, hp, hq, hB, k⟩ := h
    refine ⟨_, (pss_one (ps_ret (pe_cal c_fraction (hr.mono (by decide)) (by rfl) (pa_cons (pe_op op_sub (pe_op uo_mul (pe_ix (k_ix (K := K) rfl) (pv 0) pe_int (fun _ _ => rfl)) (pe_ix (k_ix (K := K) rfl) (pv 1) pe_int (fun _ _ => rfl))) (pe_op uo_mul (pe_ix (k_ix (K := K) rfl) (pv 1) pe_int (fun _ _ => rfl)) (pe_ix (k_ix (K := K) rfl) (pv 0) pe_int (fun _ _ => rfl)))) (pa_cons (pe_op uo_mul (pe_ix (k_ix (K := K) rfl) (pv 0) pe_int (fun _ _ => rfl)) (pe_ix (k_ix (K := K) rfl) (pv 1) pe_int (fun _ _ => rfl))) pa_nil))))), ?_⟩
    try dsimp only [cxOf, Cx.nox, Cx.wish, Cx.blk]
    wtm_at "go"
    refine s_mul (hp.n.cm hq.d) ?_
    wtm_at "go"
    refine s_mul (hq.n.cm hp.d) ?_
    wtm_at "go"
    refine s_mul (hp.d.cm hq.d) ?_
    wtm_at "go"
    refine use_fraction w (den_mul_ne p q) hB ?_
    rw [sub_dv]
    exact k
abbrev s_times : Stmt := top 19
theorem sc_times : FnScope ["one", "other"] ["one", "other"] (defScope s_times) := ⟨rfl, rfl, rfl, by decide +kernel, rfl, by decide +kernel, by decide +kernel⟩
def sp_times : Sp := fun vs H Q _ => ∃ I M u v, ∃ p q : Rat, vs = [u, v] ∧ W I H M ∧ Is I u (frq p) ∧ Is I v (frq q) ∧ Sz 100000 p ∧ Sz 100000 q ∧ Bd 8000 (p.den * q.den : Int) ∧ ∀ r J H', Same I J → W J H' M → Is J r (frq (Rat.divInt (p.num * q.num) (p.den * q.den))) → Q r H'
theorem use_times {I H : Hp} {M : List (Addr × HO)} {u v : V} {p q : Rat} {Q : VK} {E : XK} {j k : Nat} (w : W I H M) (hu : Is I u (frq p)) (hv : Is I v (frq q)) (hp : Sz j p) (hq : Sz k q) (h1 : j ≤ 100000) (h2 : k ≤ 100000) (hB : Bd 8000 (p.den * q.den : Int)) (f : ∀ r J H', Same I J → W J H' M → Is J r (frq (Rat.divInt (p.num * q.num) (p.den * q.den))) → Q r H') : sp_times ([u, v] ++ []) H Q E :=
  ⟨I, M, u, v, p, q, rfl, w, hu, hv, hp.mono h1, hq.mono h2, hB, f⟩

theorem ok_times {f : Addr} {fd : FuncData} (F : Fun K "times" "times" s_times f fd) (B : Bn mg) (c_fraction : Cal P wd K mg base "fraction" 2 ["top", "bottom"] [] sp_fraction)  : FnOk P wd K mg base CX0 3 f fd ["one", "other"] sp_times := by
  refine F.ok sc_times (fun vs H Q E h => ?_) (fun cdv A outer s H vs Q E hr h => ?_)
  · obtain ⟨I, M, u, v, p, q, rfl, w, hu, hv, hp, hq, hB, k⟩ := h
    all_goals rfl
  · obtain ⟨I, M, u, v, p, q, rfl, w, hu, hv, hp, hq, hB, k⟩ := h
    refine ⟨_, (pss_one (ps_ret (pe_cal c_fraction (hr.mono (by decide)) (by rfl) (pa_cons (pe_op uo_mul (pe_ix (k_ix (K := K) rfl) (pv 0) pe_int (fun _ _ => rfl)) (pe_ix (k_ix (K := K) rfl) (pv 1) pe_int (fun _ _ => rfl))) (pa_cons (pe_op uo_mul (pe_ix (k_ix (K := K) rfl) (pv 0) pe_int (fun _ _ => rfl)) (pe_ix (k_ix (K := K) rfl) (pv 1) pe_int (fun _ _ => rfl))) pa_nil))))), ?_⟩
    try dsimp only [cxOf, Cx.nox, Cx.wish, Cx.blk]
    wtm_at "go"
    refine s_mul (hp.n.cm hq.n) ?_
    wtm_at "go"
    refine s_mul (hp.d.cm hq.d) ?_
    wtm_at "go"
    exact use_fraction w (den_mul_ne p q) hB k
abbrev s_is_below : Stmt := top 20
theorem sc_is_below : FnScope ["one", "other"] ["one", "other"] (defScope s_is_below) := ⟨rfl, rfl, rfl, by decide +kernel, rfl, by decide +kernel, by decide +kernel⟩
def sp_is_below : Sp := fun vs H Q _ => ∃ I M u v a b c d, vs = [u, v] ∧ W I H M ∧ Is I u (fr a b) ∧ Is I v (fr c d) ∧ Bd 100000 a ∧ Bd 100000 b ∧ Bd 100000 c ∧ Bd 100000 d ∧ Q (.bl (decide (a * d < c * b))) H

theorem ok_is_below {f : Addr} {fd : FuncData} (F : Fun K "is_below" "is_below" s_is_below f fd) (B : Bn mg)  : FnOk P wd K mg base CX0 1 f fd ["one", "other"] sp_is_below := by
  refine F.ok sc_is_below (fun vs H Q E h => ?_) (fun cdv A outer s H vs Q E hr h => ?_)
  · obtain ⟨I, M, u, v, a, b, c, d, rfl, w, hu, hv, ha, hb, hc, hd, k⟩ := h
    all_goals rfl
  · obtain ⟨I, M, u, v, a, b, c, d, rfl, w, hu, hv, ha, hb, hc, hd, k⟩ := h
    refine ⟨_, (pss_one (ps_ret (pe_cmpR op_lt (pe_op uo_mul (pe_ix (k_ix (K := K) rfl) (pv 0) pe_int (fun _ _ => rfl)) (pe_ix (k_ix (K := K) rfl) (pv 1) pe_int (fun _ _ => rfl))) (pe_op uo_mul (pe_ix (k_ix (K := K) rfl) (pv 1) pe_int (fun _ _ => rfl)) (pe_ix (k_ix (K := K) rfl) (pv 0) pe_int (fun _ _ => rfl))) (nomark _)))), ?_⟩
    try dsimp only [cxOf, Cx.nox, Cx.wish, Cx.blk]
    wtm_at "go"
    refine s_mul (ha.cm hd) ?_
    wtm_at "go"
    refine s_mul (hc.cm hb) ?_
    wtm_at "go"
    exact k
/-- a greatest: none, or from the base on -/
def Gr (b : Int) (g : D) : Prop := g = .non ∨ ∃ n : Int, g = .int n ∧ b ≤ n ∧ n ≤ 1000000000000
structure PartOk (b l : Int) (g : D) (w s : Int) : Prop where
  l0 : 0 ≤ l
  lb : l ≤ b
  bm : b ≤ 1000000000000
  gr : Gr b g
  w0 : 0 ≤ w
  w1 : w ≤ 1000
  s0 : 0 ≤ s
  s1 : s ≤ 1000
def gOver (g : D) (q : Rat) : Bool := match g with | .int n => decide ((n : Rat) < q) | _ => false
theorem W.doneO {I H : Hp} {M : List (Addr × HO)} {p C dx : Addr} {fs : List (Str × V)} {ds : List (Str × D)} (w : W I H ((p, .ins C dx fs) :: M)) (a : IsF I fs ds) : ∃ J, Same I J ∧ W J H M ∧ Is J (.ref p) (.obj C ds) := ⟨_, w.frzS0, w.frz0, .obj upd_same (a.mono w.frzS0)⟩
abbrev rowD (b l : Int) (g : D) (w s : Int) : D := .tup [.int b, .int l, g, .int w, .int s]
theorem lt_int {n : Int} {q : Rat} : ((n : Rat) < q) ↔ n * q.den < q.num := by
  have := @Rat.lt_iff (n : Rat) q
  simpa using this
theorem int_lt {n : Int} {q : Rat} : (q < (n : Rat)) ↔ q.num < n * q.den := by
  have := @Rat.lt_iff q (n : Rat)
  simpa using this
theorem eq_int {n : Int} {q : Rat} : (q = (n : Rat)) ↔ q.num = n * q.den := by
  constructor
  · intro h
    subst h
    simp
  · intro h
    have h1 : ¬ q < n := fun z => by have := int_lt.mp z; omega
    have h2 : ¬ (n : Rat) < q := fun z => by have := lt_int.mp z; omega
    grind
theorem sub_int (q : Rat) (n : Int) : q - n = Rat.divInt (q.num - n * q.den) q.den := by
  have := sub_dv q (n : Rat)
  simp at this
  exact this.symm
theorem sq_dv {t d w : Int} : Rat.divInt (t * t) (d * d * w) = Rat.divInt t d * Rat.divInt t d / (w : Rat) := by
  simp only [Rat.divInt_eq_div, Rat.intCast_mul, Rat.div_def, Rat.inv_mul_rev]
  grind
theorem sq_q {x : Rat} {w : Int} : Rat.divInt (x.num * x.num) (x.den * x.den * w) = x * x / (w : Rat) := by
  rw [sq_dv, Rat.num_divInt_den]
theorem sq_gap {q : Rat} {b w : Int} : Rat.divInt ((q.num - b * q.den) * (q.num - b * q.den)) (q.den * q.den * w) = (q - b) * (q - b) / (w : Rat) := by
  rw [sq_dv, ← sub_int]
/-- the strain at a size -/
def strD (b l : Int) (g : D) (w s : Int) (q : Rat) : D :=
  if q = (b : Rat) then fr 0 1
  else if (b : Rat) < q then (if w = 0 ∨ gOver g q = true then .non else frq ((q - b) * (q - b) / (w : Rat)))
  else if s = 0 ∨ q < (l : Rat) then .non else frq ((q - b) * (q - b) / (s : Rat))
theorem bd12 {n : Int} (h0 : 0 ≤ n) (h1 : n ≤ 1000000000000) : Bd 40 n := Bd.of 1000000000000 (by omega)
theorem bd3 {n : Int} (h0 : 0 ≤ n) (h1 : n ≤ 1000) : Bd 10 n := Bd.of 1000 (by omega)
theorem bd1 {k : Nat} (h : 0 < k := by decide) : Bd k 1 := Bd.of 1 (by decide) (by
  have : 2 ^ 1 ≤ 2 ^ k := Nat.pow_le_pow_right (by decide) h
  omega)
theorem gt_num {q : Rat} {b : Int} (hqb : ¬ q = (b : Rat)) : ((b : Rat) < q) ↔ ¬ (q - b).num < 0 := by
  have h := @int_lt 0 (q - b)
  rw [Int.zero_mul] at h
  rw [← h, show ((0 : Int) : Rat) = 0 from rfl]
  grind
theorem lt_dv {n x d : Int} (hd : 0 < d) : ((n : Rat) < Rat.divInt x d) ↔ n * d < x := by
  have h : (0 : Rat) < (d : Rat) := by exact Rat.intCast_lt_intCast.mpr hd
  rw [Rat.divInt_eq_div, Rat.lt_div_iff h, ← Rat.intCast_mul, Rat.intCast_lt_intCast]
theorem dv_lt {n x d : Int} (hd : 0 < d) : (Rat.divInt x d < (n : Rat)) ↔ x < n * d := by
  have h : (0 : Rat) < (d : Rat) := by exact Rat.intCast_lt_intCast.mpr hd
  rw [Rat.divInt_eq_div, Rat.div_lt_iff h, ← Rat.intCast_mul, Rat.intCast_lt_intCast]
theorem lin_dv (b s : Int) (p : Rat) : Rat.divInt (b * p.den + s * p.num) p.den = (b : Rat) + s * p := by
  have h : ((p.den : Int) : Rat) ≠ 0 := fun z => den_ne p (Rat.intCast_inj.mp z)
  have e : (p.num : Rat) = p * ((p.den : Int) : Rat) := by
    have q := Rat.num_divInt_den p
    rw [Rat.divInt_eq_div] at q
    have q2 := congrArg (· * ((p.den : Int) : Rat)) q
    simp only [Rat.div_mul_cancel h] at q2
    exact q2
  rw [Rat.divInt_eq_div, Rat.intCast_add, Rat.intCast_mul, Rat.intCast_mul, e]
  grind
def capG (g : D) (x : Rat) : Rat := match g with | .int n => if (n : Rat) < x then n else x | _ => x
/-- the size at a price -/
def sizQ (b l : Int) (g : D) (w s : Int) (p : Rat) : Rat :=
  if p < 0 then (if (b : Rat) + s * p < l then (l : Rat) else (b : Rat) + s * p) else capG g ((b : Rat) + w * p)
theorem lt_zero {p : Rat} : p < 0 ↔ p.num < 0 := by
  have h := @int_lt 0 p
  rw [Int.zero_mul] at h
  exact h
theorem Sz.lin {k : Nat} {b s : Int} {p : Rat} (hb : Bd 40 b) (hs : Bd 40 s) (hp : Sz k p) : Sz (k + 41) ((b : Rat) + s * p) := by
  rw [← lin_dv]
  exact Sz.divInt (den_ne p) (Bd.add (k := k + 40) ((hb.mul hp.d).mono (by omega)) ((hs.mul hp.n).mono (by omega))) hp.d (k + 41)

/-! ### the first of five arguments that is not what a Part wants -/
def D.toI : D → Int | .int n => n | _ => 0
def D.isNon : D → Bool | .non => true | _ => false
def badI (d0 d1 d2 d3 d4 : D) : Option Int :=
  if d0.upto 1000000000000 = false then some 0
  else if d1.upto 1000000000000 = false ∨ d1.toI > d0.toI then some 1
  else if d2.isNon = false ∧ (d2.upto 1000000000000 = false ∨ d2.toI < d0.toI) then some 2
  else if d3.upto 1000 = false then some 3
  else if d4.upto 1000 = false then some 4
  else none
theorem upto_int {d : D} {m : Int} (h : d.upto m = true) : ∃ n, d = .int n ∧ 0 ≤ n ∧ n ≤ m := by
  cases d with
  | int n =>
    simp [D.upto] at h
    exact ⟨n, rfl, h.1, h.2⟩
  | _ => cases h
/-- what is wrong at the place j, the base being b -/
def BadP (b : Int) (j : Int) (d : D) : Prop :=
  (j = 0 → d.upto 1000000000000 = false) ∧ (j = 1 → d.upto 1000000000000 = false ∨ d.toI > b) ∧ (j = 2 → d.isNon = false ∧ (d.upto 1000000000000 = false ∨ d.toI < b)) ∧ (3 ≤ j → d.upto 1000 = false)
theorem BadP.all {b j : Int} {d : D} (h : ∀ m, d.upto m = false) (hn : d.isNon = false) : BadP b j d := ⟨fun _ => h _, fun _ => .inl (h _), fun _ => ⟨hn, .inl (h _)⟩, fun _ => h _⟩
theorem upto_neg {n m : Int} (h : n < 0) : (D.int n).upto m = false := by simp [D.upto]; omega
theorem upto_big {n m : Int} (h : m < n) : (D.int n).upto m = false := by simp [D.upto]; omega

abbrev s_Part___init__ : Stmt := inClass (top 22) 0
theorem sc_Part___init__ : FnScope ["self", "base", "least", "greatest", "grow", "shrink"] ["self", "base", "least", "greatest", "grow", "shrink"] (defScope s_Part___init__) := ⟨rfl, rfl, rfl, by decide +kernel, rfl, by decide +kernel, by decide +kernel⟩
def sp_Part___init__ (C : Addr) : Sp := fun vs H Q _ => ∃ I M x dx b l g u w s, vs = [.ref x, .int b, .int l, u, .int w, .int s] ∧ W I H ((x, .ins C dx []) :: M) ∧ Is I u g ∧ PartOk b l g w s ∧ ∀ H', W I H' ((x, .ins C dx [("base", .int b), ("least", .int l), ("greatest", u), ("grow", .int w), ("shrink", .int s)]) :: M) → Q .non H'
theorem use_Part {C : Addr} {I H : Hp} {M : List (Addr × HO)} {b l w s : Int} {u : V} {g : D} {Q : VK} {E : XK} (ww : W I H M) (hu : Is I u g) (ok : PartOk b l g w s) (q : ∀ r J H', Same I J → W J H' M → Is J r (prt C b l g w s) → Q r H') : MakeQ C (sp_Part___init__ C) E Q [.int b, .int l, u, .int w, .int s] H :=
  s_makeW ww fun x dx H1 nx w1 => ⟨I, M, x, dx, b, l, g, u, w, s, rfl, w1, hu, ok, fun H2 w2 => ⟨rfl, by
    obtain ⟨J, s1, w3, h3⟩ := w2.doneO (.cons (.int b) (.cons (.int l) (.cons hu (.cons (.int w) (.cons (.int s) .nil)))))
    exact q _ J _ s1 w3 h3⟩⟩
theorem n_mkPart {C : Addr} {F : List (V × D)} {H : Hp} {M : List ME} {b l w s : Int} {u : V} {g : D} {Q : VK} {E : XK} (ww : Wf F H M) (hu : Kn F u g) (ok : PartOk b l g w s) (q : ∀ r H', Wf ((r, prt C b l g w s) :: F) H' M → Q r H') : MakeQ C (sp_Part___init__ C) E Q [.int b, .int l, u, .int w, .int s] H := by
  obtain ⟨I, Mc, ww, is, _, up⟩ := ww.old
  exact use_Part ww (is _ _ hu) ok fun r J H' s w' h => q r H' (up J H' r _ s w' h)

theorem ok_Part___init__ {f : Addr} {fd : FuncData} (F : FunD K "__init__" "Part.__init__" (defArgs s_Part___init__) (defBody s_Part___init__) (defScope s_Part___init__) [.int 0, .non, .int 1, .int 1] [] f fd) (B : Bn mg) (c_is_length : Cal P wd K mg base "is_length" 2 ["thing"] [] (sp_is_length K)) (c_is_weight : Cal P wd K mg base "is_weight" 2 ["thing"] [] (sp_is_weight K)) (o_Part : OwnC K C_Part) (n_Part : ∀ f ∈ (["base", "least", "greatest", "grow", "shrink"] : List Str), NoAttr K C_Part f)  : FnOk P wd K mg base CX0 3 f fd ["self", "base", "least", "greatest", "grow", "shrink"] (sp_Part___init__ C_Part) := by
  refine F.ok0 sc_Part___init__ (fun vs H Q E h => ?_) (fun cdv A outer s H vs Q E hr h => ?_)
  · obtain ⟨I, M, x, dx, b, l, g, u, w, s, rfl, ww, hu, ok, k⟩ := h
    all_goals rfl
  · obtain ⟨I, M, x, dx, b, l, g, u, w, s, rfl, ww, hu, ok, k⟩ := h
    refine ⟨_, (pss_cons (ps_if (pt_not (pt_val (pe_cal c_is_length (hr.mono (by decide)) (by rfl) (pa_cons (pv 1) pa_nil)))) pss_never pss_nil)
      (pss_cons (ps_if (pw_or (pt_not (pt_val (pe_cal c_is_length (hr.mono (by decide)) (by rfl) (pa_cons (pv 2) pa_nil)))) (pw_or1 (pt_cmpR op_gt (pv 2) (pv 1) (nomark _)))).pt pss_never pss_nil)
      (pss_cons (ps_if (pw_and (pt_cmp (pc_notN (pv 3))) (pw_and1 (pw_or (pt_not (pt_val (pe_cal c_is_length (hr.mono (by decide)) (by rfl) (pa_cons (pv 3) pa_nil)))) (pw_or1 (pt_cmpR op_lt (pv 3) (pv 1) (nomark _)))).pt)).pt pss_never pss_nil)
      (pss_cons (ps_if (pt_not (pt_val (pe_cal c_is_weight (hr.mono (by decide)) (by rfl) (pa_cons (pv 4) pa_nil)))) pss_never pss_nil)
      (pss_cons (ps_if (pt_not (pt_val (pe_cal c_is_weight (hr.mono (by decide)) (by rfl) (pa_cons (pv 5) pa_nil)))) pss_never pss_nil)
      (pss_cons (kps_fld (K := K) rfl (pv 0) (pv 1) rfl)
      (pss_cons (kps_fld (K := K) rfl (pv 0) (pv 2) rfl)
      (pss_cons (kps_fld (K := K) rfl (pv 0) (pv 3) rfl)
      (pss_cons (kps_fld (K := K) rfl (pv 0) (pv 4) rfl)
      (pss_one (kps_fld (K := K) rfl (pv 0) (pv 5) rfl))))))))))), ?_⟩
    try dsimp only [cxOf, Cx.nox, Cx.wish, Cx.blk]
    have l0 := ok.l0; have lb := ok.lb; have bm := ok.bm; have w0 := ok.w0; have w1 := ok.w1; have s0 := ok.s0; have s1 := ok.s1
    wtm_at "go"
    refine use_is_length ww (by omega) (by omega) ?_
    wtm_at "go"
    refine use_is_length ww (by omega) (by omega) ?_
    wtm_at "go"
    ktr_call "o1" 0
    with_reducible refine s_next ?_
    with_reducible refine s_mid (fun σ' H' => H' = H ∧ σ' = [some (.ref x), some (.int b), some (.int l), some u, some (.int w), some (.int s)]) ?_ (fun N fin => ?_)
    · rintro σ' H' ⟨rfl, rfl⟩
      wtm_at "go"
      refine use_is_weight ww (by omega) (by omega) ?_
      wtm_at "go"
      refine use_is_weight ww (by omega) (by omega) ?_
      wtm_at "go"
      refine s_sfW ww o_Part.cl n_Part (by decide) (by simp) fun H1 w1 => ?_
      rw [putF_new (by (try simp only [List.nil_append, List.cons_append, List.map_cons, List.map_nil]); decide)] at w1
      wtm_at "go"
      refine s_sfW w1 o_Part.cl n_Part (by decide) (by simp) fun H2 w2 => ?_
      rw [putF_new (by (try simp only [List.nil_append, List.cons_append, List.map_cons, List.map_nil]); decide)] at w2
      wtm_at "go"
      refine s_sfW w2 o_Part.cl n_Part (by decide) (by simp) fun H3 w3 => ?_
      rw [putF_new (by (try simp only [List.nil_append, List.cons_append, List.map_cons, List.map_nil]); decide)] at w3
      wtm_at "go"
      refine s_sfW w3 o_Part.cl n_Part (by decide) (by simp) fun H4 w4 => ?_
      rw [putF_new (by (try simp only [List.nil_append, List.cons_append, List.map_cons, List.map_nil]); decide)] at w4
      wtm_at "go"
      refine s_sfW w4 o_Part.cl n_Part (by decide) (by simp) fun H5 w5 => ?_
      rw [putF_new (by (try simp only [List.nil_append, List.cons_append, List.map_cons, List.map_nil]); decide)] at w5
      wtm_at "go"
      exact k _ w5
    · rcases ok.gr with rfl | ⟨n, rfl, g1, g2⟩
      · cases hu.non_eq
        wtm_at "go"
        exact fin _ _ ⟨rfl, rfl⟩
      · cases hu.int_eq
        wtm_at "go"
        refine use_is_length ww (by omega) (by omega) ?_
        wtm_at "goo"
        exact fin _ _ ⟨rfl, rfl⟩
def spx_Part___init__ (K : PySem.W.Frag) (C CW : Addr) : Sp := fun vs H Q E => ∃ F M x v0 v1 v2 v3 v4 d0 d1 d2 d3 d4, vs = [.ref x, v0, v1, v2, v3, v4] ∧ Wf F H (.mi x C [] :: M) ∧ (Kn F v0 d0 ∧ TyK K d0) ∧ (Kn F v1 d1 ∧ TyK K d1) ∧ (Kn F v2 d2 ∧ TyK K d2) ∧ (Kn F v3 d3 ∧ TyK K d3) ∧ (Kn F v4 d4 ∧ TyK K d4) ∧
  (∀ j, badI d0 d1 d2 d3 d4 = some j → ∀ d, H d = none → E (.ref CW) (some d) (upd H d (.xd [("at", .int j)]))) ∧ (badI d0 d1 d2 d3 d4 = none → ∀ H', Wf F H' M → Q .non H')
theorem n_islen {K : PySem.W.Frag} {F : List (V × D)} {H : Hp} {M : List ME} {v : V} {d : D} {Q : VK} {E : XK} (w : Wf F H M) (hv : Rk F M v d) (ht : TyK K d) (q : Q (.bl (d.upto 1000000000000)) H) : sp_is_length K ([v] ++ []) H Q E := ⟨H, [], v, d, rfl, W.self, w.rd hv, ht, q⟩
theorem n_iswt {K : PySem.W.Frag} {F : List (V × D)} {H : Hp} {M : List ME} {v : V} {d : D} {Q : VK} {E : XK} (w : Wf F H M) (hv : Rk F M v d) (ht : TyK K d) (q : Q (.bl (d.upto 1000)) H) : sp_is_weight K ([v] ++ []) H Q E := ⟨H, [], v, d, rfl, W.self, w.rd hv, ht, q⟩
theorem TyK.rk {K : PySem.W.Frag} {F : List (V × D)} {M : List ME} {v : V} {d : D} (t : TyK K d) (h : Kn F v d) : Rk F M v d := Rk.of h fun q => by
  rcases q with ⟨n, rfl⟩ | ⟨n, rfl⟩
  · rcases t with ⟨a, e⟩ | ⟨C, fs, e, _⟩
    · cases e
    · cases e
  · rcases t with ⟨a, e⟩ | ⟨C, fs, e, _⟩
    · cases e
    · cases e
theorem Is.notNon {H : Hp} {v : V} {d : D} (h : Is H v d) (hd : d.isNon = false) (hf : ∀ φ, d ≠ .fact φ) : v ≠ .non := fun e => by
  subst e
  cases h
  · cases hd
  · exact hf _ rfl
theorem Is.isNon {H : Hp} {v : V} {d : D} (h : Is H v d) (hd : d.isNon = true) : v = .non ∧ d = .non := by
  cases d with
  | non => cases h; exact ⟨rfl, rfl⟩
  | _ => cases hd

theorem okx_Part___init__ {f : Addr} {fd : FuncData} (F : FunD K "__init__" "Part.__init__" (defArgs s_Part___init__) (defBody s_Part___init__) (defScope s_Part___init__) [.int 0, .non, .int 1, .int 1] [] f fd) (B : Bn mg) (c_is_length : Cal P wd K mg base "is_length" 2 ["thing"] [] (sp_is_length K)) (c_is_weight : Cal P wd K mg base "is_weight" 2 ["thing"] [] (sp_is_weight K)) (o_Part : OwnC K C_Part) (n_Part : ∀ f ∈ (["base", "least", "greatest", "grow", "shrink"] : List Str), NoAttr K C_Part f) (e_Wrong : ErrI P wd K mg base "Wrong" C_Wrong 1 ["self", "at"] "at") : FnOk P wd K mg base (L2.CX P wd) 3 f fd ["self", "base", "least", "greatest", "grow", "shrink"] (spx_Part___init__ K C_Part C_Wrong) := by
  refine F.okX sc_Part___init__ (fun vs H Q E h => ?_) (fun cdv A outer s H vs Q E hr h => ?_)
  · obtain ⟨F, M, x, v0, v1, v2, v3, v4, d0, d1, d2, d3, d4, rfl, w, ⟨h0, t0⟩, ⟨h1, t1⟩, ⟨h2, t2⟩, ⟨h3, t3⟩, ⟨h4, t4⟩, kb, kg⟩ := h
    all_goals rfl
  · obtain ⟨F, M, x, v0, v1, v2, v3, v4, d0, d1, d2, d3, d4, rfl, w, ⟨h0, t0⟩, ⟨h1, t1⟩, ⟨h2, t2⟩, ⟨h3, t3⟩, ⟨h4, t4⟩, kb, kg⟩ := h
    refine ⟨_, (pss_cons (ps_if (pt_not (pt_val (pe_cal c_is_length (hr.mono (by decide)) (by rfl) (pa_cons (pv 1) pa_nil)))) (pss_one (ps_raiseI e_Wrong (hr.mono (by decide)) rfl (takes_of rfl rfl rfl rfl) (by rfl) (pa_cons pe_int pa_nil))) pss_nil)
      (pss_cons (ps_if (pw_or (pt_not (pt_val (pe_cal c_is_length (hr.mono (by decide)) (by rfl) (pa_cons (pv 2) pa_nil)))) (pw_or1 (pt_cmpR op_gt (pv 2) (pv 1) (nomark _)))).pt (pss_one (ps_raiseI e_Wrong (hr.mono (by decide)) rfl (takes_of rfl rfl rfl rfl) (by rfl) (pa_cons pe_int pa_nil))) pss_nil)
      (pss_cons (ps_if (pw_and (pt_cmp (pc_notN (pv 3))) (pw_and1 (pw_or (pt_not (pt_val (pe_cal c_is_length (hr.mono (by decide)) (by rfl) (pa_cons (pv 3) pa_nil)))) (pw_or1 (pt_cmpR op_lt (pv 3) (pv 1) (nomark _)))).pt)).pt (pss_one (ps_raiseI e_Wrong (hr.mono (by decide)) rfl (takes_of rfl rfl rfl rfl) (by rfl) (pa_cons pe_int pa_nil))) pss_nil)
      (pss_cons (ps_if (pt_not (pt_val (pe_cal c_is_weight (hr.mono (by decide)) (by rfl) (pa_cons (pv 4) pa_nil)))) (pss_one (ps_raiseI e_Wrong (hr.mono (by decide)) rfl (takes_of rfl rfl rfl rfl) (by rfl) (pa_cons pe_int pa_nil))) pss_nil)
      (pss_cons (ps_if (pt_not (pt_val (pe_cal c_is_weight (hr.mono (by decide)) (by rfl) (pa_cons (pv 5) pa_nil)))) (pss_one (ps_raiseI e_Wrong (hr.mono (by decide)) rfl (takes_of rfl rfl rfl rfl) (by rfl) (pa_cons pe_int pa_nil))) pss_nil)
      (pss_cons (kps_fld (K := K) rfl (pv 0) (pv 1) rfl)
      (pss_cons (kps_fld (K := K) rfl (pv 0) (pv 2) rfl)
      (pss_cons (kps_fld (K := K) rfl (pv 0) (pv 3) rfl)
      (pss_cons (kps_fld (K := K) rfl (pv 0) (pv 4) rfl)
      (pss_one (kps_fld (K := K) rfl (pv 0) (pv 5) rfl))))))))))), ?_⟩
    try dsimp only [cxOf, Cx.nox, Cx.wish, Cx.blk]
    wtm_at "n"
    refine n_islen w (t0.rk h0) t0 ?_
    cases b0 : d0.upto 1000000000000 with
    | false =>
      wtm_at "n"
      try dsimp only
      refine s_mkO0 ?_
      wtm_at "n"
      exact s_mkO fun d hd => kb 0 (if_pos b0) d hd
    | true =>
    have n0 : ¬ d0.upto 1000000000000 = false := by rw [b0]; simp
    obtain ⟨b, rfl, b0', b1'⟩ := upto_int b0
    cases (w.int_eq h0)
    wtm_at "n"
    refine n_islen w (t1.rk h1) t1 ?_
    cases b1 : d1.upto 1000000000000 with
    | false =>
      wtm_at "n"
      try dsimp only
      refine s_mkO0 ?_
      wtm_at "n"
      exact s_mkO fun d hd => kb 1 (by rw [badI, if_neg n0, if_pos (.inl b1)]) d hd
    | true =>
    have n1 : ¬ d1.upto 1000000000000 = false := by rw [b1]; simp
    obtain ⟨l, rfl, l0', l1'⟩ := upto_int b1
    cases (w.int_eq h1)
    wtm_at "n"
    wtm_at "fork"
    · rename_i hlt
      wtm_at "n"
      try dsimp only
      refine s_mkO0 ?_
      wtm_at "n"
      exact s_mkO fun d hd => kb 1 (by rw [badI, if_neg n0, if_pos (.inr hlt)]) d hd
    rename_i hlt
    have m1 : ¬ ((D.int l).upto 1000000000000 = false ∨ (D.int l).toI > (D.int b).toI) := fun q => q.elim n1 hlt
    wtm_at "st2"
    with_reducible refine s_next ?_
    with_reducible refine s_mid (fun σ' H' => (¬ (d2.isNon = false ∧ (d2.upto 1000000000000 = false ∨ d2.toI < (D.int b).toI))) ∧ σ' = [some (.ref x), some (.int b), some (.int l), some v2, some v3, some v4] ∧ H' = H) ?_ (fun N fin => ?_)
    rotate_left
    · wtm_at "n"
      cases g : d2.isNon with
      | true =>
        obtain ⟨rfl, rfl⟩ := (w.rd (t2.rk h2)).isNon g
        wtm_at "n"
        exact fin _ _ ⟨fun q => (nomatch q.1), rfl, rfl⟩
      | false =>
        rw [decide_eq_false ((w.rd (t2.rk h2)).notNon g (fun φ e => by subst e; first | (rcases t2 with ⟨a, e⟩ | ⟨C, fs, e, _⟩ <;> cases e) | (obtain ⟨a, e⟩ := t2; cases e)))]
        wtm_at "n"
        refine n_islen w (t2.rk h2) t2 ?_
        cases b2 : d2.upto 1000000000000 with
        | false =>
          wtm_at "n"
          try dsimp only
          refine s_mkO0 ?_
          wtm_at "n"
          exact s_mkO fun d hd => kb 2 (by rw [badI, if_neg n0, if_neg m1, if_pos ⟨g, .inl b2⟩]) d hd
        | true =>
          obtain ⟨gr, rfl, g0', g1'⟩ := upto_int b2
          cases (w.int_eq h2)
          wtm_at "n"
          wtm_at "fork"
          · rename_i hl2
            wtm_at "n"
            try dsimp only
            refine s_mkO0 ?_
            wtm_at "n"
            exact s_mkO fun d hd => kb 2 (by rw [badI, if_neg n0, if_neg m1, if_pos ⟨g, .inr hl2⟩]) d hd
          · rename_i hl2
            wtm_at "n"
            exact fin _ _ ⟨fun q => q.2.elim (fun z => by rw [b2] at z; cases z) hl2, rfl, rfl⟩
    rintro σ' H' ⟨m2, rfl, rfl⟩
    wtm_at "n"
    refine n_iswt w (t3.rk h3) t3 ?_
    cases b3 : d3.upto 1000 with
    | false =>
      wtm_at "n"
      try dsimp only
      refine s_mkO0 ?_
      wtm_at "n"
      exact s_mkO fun d hd => kb 3 (by rw [badI, if_neg n0, if_neg m1, if_neg m2, if_pos b3]) d hd
    | true =>
    have n3 : ¬ d3.upto 1000 = false := by rw [b3]; simp
    wtm_at "n"
    refine n_iswt w (t4.rk h4) t4 ?_
    cases b4 : d4.upto 1000 with
    | false =>
      wtm_at "n"
      try dsimp only
      refine s_mkO0 ?_
      wtm_at "n"
      exact s_mkO fun d hd => kb 4 (by rw [badI, if_neg n0, if_neg m1, if_neg m2, if_neg n3, if_pos b4]) d hd
    | true =>
    have n4 : ¬ d4.upto 1000 = false := by rw [b4]; simp
    wtm_at "n"
    rename_i w
    rw [putD_new (by (try simp only [List.nil_append, List.cons_append, List.map_cons, List.map_nil]); decide)] at w
    wtm_at "n"
    rename_i w
    rw [putD_new (by (try simp only [List.nil_append, List.cons_append, List.map_cons, List.map_nil]); decide)] at w
    wtm_at "n"
    rename_i w
    rw [putD_new (by (try simp only [List.nil_append, List.cons_append, List.map_cons, List.map_nil]); decide)] at w
    wtm_at "n"
    rename_i w
    rw [putD_new (by (try simp only [List.nil_append, List.cons_append, List.map_cons, List.map_nil]); decide)] at w
    wtm_at "n"
    rename_i w
    rw [putD_new (by (try simp only [List.nil_append, List.cons_append, List.map_cons, List.map_nil]); decide)] at w
    exact kg (by rw [badI, if_neg n0, if_neg m1, if_neg m2, if_neg n3, if_neg n4]) _ (by wtm_at "wf")
abbrev s_Part_strain_at : Stmt := inClass (top 22) 2
theorem sc_Part_strain_at : FnScope ["self", "size", "top", "bottom", "weight", "beyond"] ["self", "size"] (defScope s_Part_strain_at) := ⟨rfl, rfl, rfl, by decide +kernel, rfl, by decide +kernel, by decide +kernel⟩
def sp_Part_strain_at (C : Addr) : Sp := fun vs H Q _ => ∃ I M u v b l g w s, ∃ q : Rat, vs = [u, v] ∧ W I H M ∧ Is I u (prt C b l g w s) ∧ Is I v (frq q) ∧ PartOk b l g w s ∧ Sz 3000 q ∧ ∀ r J H', Same I J → W J H' M → Is J r (strD b l g w s q) → Q r H'
theorem use_strain_at {C : Addr} {I H : Hp} {M : List (Addr × HO)} {u v : V} {b l w s : Int} {g : D} {q : Rat} {Q : VK} {E : XK} (ww : W I H M) (hu : Is I u (prt C b l g w s)) (hv : Is I v (frq q)) (ok : PartOk b l g w s) (hq : Sz 3000 q) (f : ∀ r J H', Same I J → W J H' M → Is J r (strD b l g w s q) → Q r H') : sp_Part_strain_at C (u :: ([v] ++ [])) H Q E := ⟨I, M, u, v, b, l, g, w, s, q, rfl, ww, hu, hv, ok, hq, f⟩

theorem ok_Part_strain_at {f : Addr} {fd : FuncData} (F : Fun K "strain_at" "Part.strain_at" s_Part_strain_at f fd) (B : Bn mg) (c_minus : Cal P wd K mg base "minus" 3 ["one", "other"] [] sp_minus) (c_is_below : Cal P wd K mg base "is_below" 1 ["one", "other"] [] sp_is_below) (c_fraction : Cal P wd K mg base "fraction" 2 ["top", "bottom"] [] sp_fraction) (o_Part : OwnC K C_Part) (n_Part : ∀ f ∈ (["base", "least", "greatest", "grow", "shrink"] : List Str), NoAttr K C_Part f)  : FnOk P wd K mg base CX0 4 f fd ["self", "size"] (sp_Part_strain_at C_Part) := by
  refine F.ok sc_Part_strain_at (fun vs H Q E h => ?_) (fun cdv A outer s H vs Q E hr h => ?_)
  · obtain ⟨I, M, u, v, b, l, g, w, s, q, rfl, ww, hu, hv, ok, hq, k⟩ := h
    all_goals rfl
  · obtain ⟨I, M, u, v, b, l, g, w, s, q, rfl, ww, hu, hv, ok, hq, k⟩ := h
    refine ⟨_, (pss_cons (ps_asg (pe_cal c_minus (hr.mono (by decide)) (by rfl) (pa_cons (pv 1) (pa_cons (pe_tup (pa_cons (kpe_fld (K := K) rfl (pv 0) rfl) (pa_cons pe_int pa_nil))) pa_nil))) (kpg_tup (K := K) (n := 2) rfl rfl (pgs_cons (pg_name (i := 2) sc_Part_strain_at.nd rfl (Or.inl rfl)) (pgs_cons (pg_name (i := 3) sc_Part_strain_at.nd rfl (Or.inl rfl)) pgs_nil))))
      (pss_cons (ps_if (pt_cmpR (k_eq (K := K) rfl hr.units) (pv 2) pe_int (nomark _)) (pss_one (ps_ret (pe_tup (pa_cons pe_int (pa_cons pe_int pa_nil))))) pss_nil)
      (pss_cons (ps_set (i := 4) sc_Part_strain_at.nd rfl (Or.inl rfl) (kpe_fld (K := K) rfl (pv 0) rfl))
      (pss_cons (ps_set (i := 5) sc_Part_strain_at.nd rfl (Or.inl rfl) (pe_and (pe_cmp (pc_notN (kpe_fld (K := K) rfl (pv 0) rfl))) (pe_one (pe_cal c_is_below (hr.mono (by decide)) (by rfl) (pa_cons (pe_tup (pa_cons (kpe_fld (K := K) rfl (pv 0) rfl) (pa_cons pe_int pa_nil))) (pa_cons (pv 1) pa_nil))))))
      (pss_cons (ps_if (pt_cmpR op_lt (pv 2) pe_int (nomark _)) (pss_cons (ps_set (i := 4) sc_Part_strain_at.nd rfl (Or.inl rfl) (kpe_fld (K := K) rfl (pv 0) rfl))
      (pss_one (ps_set (i := 5) sc_Part_strain_at.nd rfl (Or.inl rfl) (pe_cal c_is_below (hr.mono (by decide)) (by rfl) (pa_cons (pv 1) (pa_cons (pe_tup (pa_cons (kpe_fld (K := K) rfl (pv 0) rfl) (pa_cons pe_int pa_nil))) pa_nil)))))) pss_nil)
      (pss_cons (ps_if (pw_or (pt_val (pv 5)) (pw_or1 (pt_cmpR (k_eq (K := K) rfl hr.units) (pv 4) pe_int (nomark _)))).pt (pss_one (ps_ret pe_non)) pss_nil)
      (pss_one (ps_ret (pe_cal c_fraction (hr.mono (by decide)) (by rfl) (pa_cons (pe_op uo_mul (pv 2) (pv 2)) (pa_cons (pe_op uo_mul (pe_op uo_mul (pv 3) (pv 3)) (pv 4)) pa_nil))))))))))), ?_⟩
    try dsimp only [cxOf, Cx.nox, Cx.wish, Cx.blk]
    have l0 := ok.l0; have lb := ok.lb; have bm := ok.bm; have w0 := ok.w0; have w1 := ok.w1; have s0 := ok.s0; have s1 := ok.s1
    have bB : Bd 40 b := bd12 (by omega) bm
    have bL : Bd 40 l := bd12 l0 (by omega)
    have sb : Sz 40 (b : Rat) := Sz.int bB
    have sx : Sz 3041 (q - b) := hq.sub sb
    wtm_at "go"
    refine s_newT ww (by ktf_call "isa") (by simp) fun p J1 H1 e1 _ ww1 h1 => ?_
    have hu1 := hu.mono e1
    have hv1 := hv.mono e1
    wtm_at "go"
    refine use_minus ww1 hv1 (q := (b : Rat)) h1 hq sb (by decide) (by decide) (by simpa using hq.d.mono (by decide)) fun r J2 H2 e2 ww2 h2 => ?_
    have hu2 := hu1.mono e2
    have hv2 := hv1.mono e2
    refine s_gtup2 ww2 h2 fun z1 z2 hz1 hz2 => ?_
    cases hz1.int_eq
    cases hz2.int_eq
    have e12 := e1.trans e2
    wtm_at "go"
    wtm_at "fork"
    · rename_i hx
      have hqb : q = (b : Rat) := by
        have : q - b = 0 := Rat.num_eq_zero.mp hx
        grind
      wtm_at "go"
      refine s_newT ww2 (by ktf_call "isa") (by simp) fun p J3 H3 e3 _ ww3 h3 => ?_
      refine k _ J3 H3 (e12.trans e3) ww3 ?_
      rw [strD, if_pos hqb]
      exact h3
    rename_i hx
    have hqb : ¬ q = (b : Rat) := fun z => hx (by rw [z, Rat.sub_self]; rfl)
    with_reducible refine s_next ?_
    have hgt := gt_num hqb
    have hB2 : Bd 8000 ((q.den : Int)) := hq.d.mono (by decide)
    with_reducible refine s_mid (fun σ' H' => H' = H2 ∧ σ' = [some u, some v, some (.int (q - b).num), some (.int (q - b).den), some (.int w), none]) ?_ (fun N fin => ?_)
    case refine_2 =>
      wtm_at "go"
      exact fin _ _ ⟨rfl, rfl⟩
    rintro σ' H' ⟨rfl, rfl⟩
    with_reducible refine s_mid (fun σ' H' => ∃ J, Same J2 J ∧ W J H' M ∧ σ' = [some u, some v, some (.int (q - b).num), some (.int (q - b).den), some (.int w), some (.bl (gOver g q))]) ?_ (fun N fin => ?_)
    case refine_2 =>
      rcases ok.gr with rfl | ⟨n, rfl, g1, g2⟩
      · wtm_at "go"
        exact fin _ _ ⟨J2, Same.refl _, ww2, rfl⟩
      · wtm_at "go"
        refine s_newT ww2 (by ktf_call "isa") (by simp) fun p J3 H3 e3 _ ww3 h3 => ?_
        wtm_at "go"
        refine ⟨J3, M, _, _, _, _, _, _, rfl, ww3, h3, hv2.mono e3, (bd12 (by omega) g2).mono (by decide), bd1, hq.n.mono (by decide), hq.d.mono (by decide), ?_⟩
        wtm_at "go"
        refine fin _ _ ⟨J3, e3, ww3, ?_⟩
        have : decide (n * (q.den : Int) < q.num * 1) = gOver (.int n) q := by
          simp only [gOver, lt_int, Int.mul_one]
        rw [this]
        rfl
    rintro σ' H' ⟨J3, e3, ww3, rfl⟩
    have hu3 := hu2.mono e3
    have hv3 := hv2.mono e3
    with_reducible refine s_mid (fun σ' H' => ∃ J t, ∃ c : Bool, Same J3 J ∧ W J H' M ∧ σ' = [some u, some v, some (.int (q - b).num), some (.int (q - b).den), some (.int t), some (.bl c)] ∧ 0 ≤ t ∧ t ≤ 1000 ∧ strD b l g w s q = if c = true ∨ t = 0 then .non else frq ((q - b) * (q - b) / (t : Rat))) ?_ (fun N fin => ?_)
    case refine_2 =>
      wtm_at "go"
      wtm_at "fork"
      · rename_i hn
        wtm_at "go"
        refine s_newT ww3 (by ktf_call "isa") (by simp) fun p J4 H4 e4 _ ww4 h4 => ?_
        wtm_at "go"
        refine ⟨J4, M, _, _, _, _, _, _, rfl, ww4, hv3.mono e4, h4, hq.n.mono (by decide), hq.d.mono (by decide), bL.mono (by decide), bd1, ?_⟩
        wtm_at "go"
        refine fin _ _ ⟨J4, s, _, e4, ww4, rfl, s0, s1, ?_⟩
        rw [strD, if_neg hqb, if_neg (fun z => hgt.mp z hn)]
        have : (decide (q.num * 1 < l * (q.den : Int)) = true ∨ s = 0) ↔ (s = 0 ∨ q < (l : Rat)) := by
          rw [int_lt, decide_eq_true_eq, Int.mul_one]
          exact Or.comm
        simp only [this]
      · rename_i hn
        wtm_at "go"
        refine fin _ _ ⟨J3, w, _, Same.refl _, ww3, rfl, w0, w1, ?_⟩
        rw [strD, if_neg hqb, if_pos (hgt.mpr hn)]
        simp only [Or.comm]
    rintro σ' H' ⟨J4, t, c, e4, ww4, rfl, t0, t1, et⟩
    have e14 := (e12.trans e3).trans e4
    wtm_at "go"
    cases c with
    | true =>
      wtm_at "go"
      refine k _ J4 _ e14 ww4 ?_
      rw [et, if_pos (Or.inl rfl)]
      exact .non
    | false =>
      wtm_at "go"
      wtm_at "fork"
      · rename_i ht
        wtm_at "go"
        refine k _ J4 _ e14 ww4 ?_
        rw [et, if_pos (Or.inr ht)]
        exact .non
      · rename_i ht
        wtm_at "go"
        refine s_mul (sx.n.cm sx.n) ?_
        wtm_at "go"
        refine s_mul (sx.d.cm sx.d) ?_
        wtm_at "go"
        refine s_mul ((sx.d.mul sx.d).cm (bd3 t0 t1)) ?_
        wtm_at "go"
        refine use_fraction ww4 (Int.mul_ne_zero (Int.mul_ne_zero (den_ne _) (den_ne _)) ht) (((sx.d.mul sx.d).mul (bd3 t0 t1)).mono (by decide)) fun r J5 H5 e5 ww5 h5 => ?_
        refine k _ J5 _ (e14.trans e5) ww5 ?_
        rw [et, if_neg (by simp [ht]), ← sq_q]
        exact h5
/-! ### runs: like blanks between things -/
theorem floor_uni {q : Rat} {n : Int} (h1 : (n : Rat) ≤ q) (h2 : q < (n : Rat) + 1) : q.floor = n := by
  have g1 := Rat.floor_le q
  have g2 := Rat.lt_floor_add_one q
  have e1 : ((q.floor : Int) : Rat) < ((n + 1 : Int) : Rat) := by rw [Rat.intCast_add]; grind
  have e2 : ((n : Int) : Rat) < ((q.floor + 1 : Int) : Rat) := by grind
  rw [Rat.intCast_lt_intCast] at e1 e2
  omega
theorem floor_dv {a b : Int} (hb : 0 < b) : (Rat.divInt a b).floor = a / b := by
  have h1 := Int.mul_ediv_add_emod a b
  have h2 := Int.emod_nonneg a (show b ≠ 0 by omega)
  have h3 := Int.emod_lt_of_pos a hb
  have h4 : a / b * b ≤ a := by rw [Int.mul_comm]; omega
  have h5 : a < (a / b + 1) * b := by rw [Int.add_mul, Int.mul_comm (a / b)]; omega
  refine floor_uni ?_ ?_
  · refine Rat.not_lt.mp fun z => ?_
    have := (dv_lt hb).mp z
    omega
  · rw [show ((a / b : Int) : Rat) + 1 = ((a / b + 1 : Int) : Rat) by rw [Rat.intCast_add]; rfl]
    exact (dv_lt hb).mpr h5
theorem floor_addI (n : Int) (q : Rat) : ((n : Rat) + q).floor = n + q.floor := by
  have g1 := Rat.floor_le q
  have g2 := Rat.lt_floor_add_one q
  refine floor_uni ?_ ?_
  · rw [Rat.intCast_add]; grind
  · rw [Rat.intCast_add]; grind
def leanI (b l s : Int) : Int := if s = 0 then b else l
def fatD (b : Int) (g : D) (w : Int) : D := if w = 0 then .int b else g
theorem fat_or {b l w s : Int} {g : D} (ok : PartOk b l g w s) : fatD b g w = .non ∨ ∃ f, fatD b g w = .int f ∧ 0 ≤ f ∧ f ≤ 1000000000000 := by
  have h1 := ok.l0; have h2 := ok.lb; have h3 := ok.bm
  unfold fatD
  by_cases hw : w = 0
  · rw [if_pos hw]; exact .inr ⟨b, rfl, by omega, h3⟩
  · rw [if_neg hw]
    rcases ok.gr with e | ⟨n, e, n1, n2⟩
    · exact .inl e
    · exact .inr ⟨n, e, by omega, n2⟩
theorem lean_bd {b l w s : Int} {g : D} (ok : PartOk b l g w s) : 0 ≤ leanI b l s ∧ leanI b l s ≤ 1000000000000 := by
  have h1 := ok.l0; have h2 := ok.lb; have h3 := ok.bm
  unfold leanI
  split <;> omega
/-- each of m blanks that share a space -/
def shQ (sp m : Int) (fat : D) : Rat := match fat with
  | .int f => if m * f < sp then (f : Rat) else Rat.divInt sp m
  | _ => Rat.divInt sp m
/-- the size of a blank -/
def blkQ (sp m : Int) (last : Bool) (b l : Int) (g : D) (w s : Int) : Rat :=
  if last = true ∧ m * b ≤ sp then (b : Rat) else if 0 < m ∧ m * leanI b l s ≤ sp then shQ sp m (fatD b g w) else (leanI b l s : Rat)
theorem shQ_sz {sp m : Int} {fat : D} (hm : 0 < m) (hm2 : m ≤ 200) (h0 : -1000000000000000 ≤ sp) (h1 : sp ≤ 1000000000000000) (hf : fat = .non ∨ ∃ f, fat = .int f ∧ 0 ≤ f ∧ f ≤ 1000000000000) : Sz2 60 8 (shQ sp m fat) := by
  have hs : Sz2 60 8 (Rat.divInt sp m) := ⟨Bd.le (Bd.of 1000000000000000 (by omega)) (num_le (by omega)), Bd.le (Bd.of 200 (by omega)) (den_le (by omega))⟩
  rcases hf with rfl | ⟨f, rfl, f0, f1⟩
  · exact hs
  · show Sz2 60 8 (if m * f < sp then (f : Rat) else Rat.divInt sp m)
    by_cases q : m * f < sp
    · rw [if_pos q]; exact ⟨by rw [Rat.num_intCast]; exact Bd.of 1000000000000 (by omega), by rw [Rat.den_intCast]; exact bd1⟩
    · rw [if_neg q]; exact hs
theorem int_sz2 {n : Int} (h0 : 0 ≤ n) (h1 : n ≤ 1000000000000) : Sz2 60 8 (n : Rat) := ⟨by rw [Rat.num_intCast]; exact Bd.of 1000000000000 (by omega), by rw [Rat.den_intCast]; exact bd1⟩
theorem blk_sz {sp m : Int} {last : Bool} {b l w s : Int} {g : D} (ok : PartOk b l g w s) (hm2 : m ≤ 200) (h0 : -1000000000000000 ≤ sp) (h1 : sp ≤ 1000000000000000) : Sz2 60 8 (blkQ sp m last b l g w s) := by
  have q1 := ok.l0; have q2 := ok.lb; have q3 := ok.bm
  have q4 := lean_bd ok
  unfold blkQ
  split
  · exact int_sz2 (by omega) q3
  · split
    · next h => exact shQ_sz h.1 hm2 h0 h1 (fat_or ok)
    · exact int_sz2 q4.1 q4.2
/-- things with q ahead of each -/
def alt (q : Rat) (xs : List Int) : List Rat := xs.flatMap fun x : Int => [q, (x : Rat)]
theorem alt_snoc (q : Rat) (xs : List Int) (x : Int) : alt q (xs ++ [x]) = alt q xs ++ [q, (x : Rat)] := by simp [alt, List.flatMap_append]
theorem alt_len (q : Rat) (xs : List Int) : (alt q xs).length = 2 * xs.length := by
  induction xs with
  | nil => rfl
  | cons x xs ih => show ([q, (x : Rat)] ++ alt q xs).length = _; rw [List.length_append, ih]; simp; omega
theorem alt_take (q : Rat) : ∀ (xs : List Int) (k : Nat), (alt q xs).take (2 * k) = alt q (xs.take k)
  | xs, 0 => by simp [alt]
  | [], k + 1 => by simp [alt]
  | x :: xs, k + 1 => by
    show (q :: (x : Rat) :: alt q xs).take (2 * (k + 1)) = q :: (x : Rat) :: alt q (xs.take k)
    rw [show 2 * (k + 1) = 2 * k + 1 + 1 by omega, List.take_succ_cons, List.take_succ_cons, alt_take q xs k]
theorem rs_alt (q : Rat) (xs : List Int) : rs (alt q xs) = (xs.sum : Rat) + (xs.length : Rat) * q := by
  induction xs with
  | nil => show (0 : Rat) = _; simp; grind
  | cons x xs ih =>
    show rs (q :: (x : Rat) :: alt q xs) = _
    rw [rs_cons, rs_cons, ih, List.sum_cons, List.length_cons, Rat.intCast_add]
    have : ((xs.length + 1 : Nat) : Rat) = (xs.length : Rat) + 1 := by simp
    rw [this]
    grind
def rowR (q : Rat) (xs : List Int) : List Rat := (alt q xs).tail
theorem rowR_snoc (q : Rat) (xs : List Int) (x : Int) : rowR q (xs ++ [x]) = if xs.length = 0 then [(x : Rat)] else rowR q xs ++ [q, (x : Rat)] := by
  unfold rowR
  rw [alt_snoc]
  cases xs with
  | nil => rfl
  | cons y ys => rfl
theorem rowR_len (q : Rat) (xs : List Int) : (rowR q xs).length = 2 * xs.length - 1 := by unfold rowR; rw [List.length_tail, alt_len]

theorem alt_cons {q : Rat} {xs : List Int} (h : 0 < xs.length) : alt q xs = q :: rowR q xs := by
  cases xs with
  | nil => cases h
  | cons x xs => rfl
/-- the k-th thing begins .. -/
theorem rs_even {q : Rat} {xs : List Int} {k : Nat} (h : k < xs.length) : rs ((rowR q xs).take (2 * k)) = ((xs.take k).sum : Rat) + (k : Rat) * q := by
  have e1 := alt_cons (q := q) (xs := xs) (by omega)
  have e2 : (alt q xs).take (2 * k + 1) = q :: (rowR q xs).take (2 * k) := by rw [e1, List.take_succ_cons]
  have e3 : (alt q xs).take (2 * k + 1) = alt q (xs.take k) ++ [q] := by
    have h1 := alt_take q xs k
    have h2 := alt_take q xs (k + 1)
    have h3 : xs[k]? = some xs[k] := List.getElem?_eq_getElem h
    rw [take_snoc h3, alt_snoc, show 2 * (k + 1) = 2 * k + 1 + 1 by omega] at h2
    have h4 : ((alt q xs).take (2 * k + 1 + 1)).take (2 * k + 1) = (alt q xs).take (2 * k + 1) := by rw [List.take_take]; congr 1; omega
    rw [← h4, h2, show alt q (xs.take k) ++ [q, (xs[k] : Rat)] = (alt q (xs.take k) ++ [q]) ++ [(xs[k] : Rat)] by simp]
    rw [List.take_left' (by rw [List.length_append, alt_len, List.length_take]; simp; omega)]
  have e4 : rs (q :: (rowR q xs).take (2 * k)) = ((xs.take k).sum : Rat) + ((xs.take k).length : Rat) * q + q := by rw [← e2, e3, rs_snoc, rs_alt]
  rw [rs_cons] at e4
  have e5 : (xs.take k).length = k := by rw [List.length_take]; omega
  rw [e5] at e4
  grind
theorem rs_odd {q : Rat} {xs : List Int} {k : Nat} (h : k < xs.length) : rs ((rowR q xs).take (2 * k + 1)) = ((xs.take (k + 1)).sum : Rat) + (k : Rat) * q := by
  have e1 := alt_cons (q := q) (xs := xs) (by omega)
  have e2 : (alt q xs).take (2 * (k + 1)) = q :: (rowR q xs).take (2 * k + 1) := by rw [e1, show 2 * (k + 1) = 2 * k + 1 + 1 by omega, List.take_succ_cons]
  have e4 : rs (q :: (rowR q xs).take (2 * k + 1)) = ((xs.take (k + 1)).sum : Rat) + ((xs.take (k + 1)).length : Rat) * q := by rw [← e2, alt_take, rs_alt]
  rw [rs_cons] at e4
  have e5 : (xs.take (k + 1)).length = k + 1 := by rw [List.length_take]; omega
  have e6 : ((k + 1 : Nat) : Rat) = (k : Rat) + 1 := by simp
  rw [e5, e6] at e4
  grind
theorem natR (k : Nat) : ((k : Nat) : Rat) = ((k : Int) : Rat) := rfl
/-- where things begin and end: told by a size that is worth t over d -/
def sprD (xs : List Int) (t d : Int) : List D := (List.range xs.length).map fun k => .tup [.int ((xs.take k).sum + (k : Int) * t / d), .int ((xs.take k).sum + (k : Int) * t / d + xs.getD k 0)]
theorem spr_at {q : Rat} {xs : List Int} {t d : Int} (hd : 0 < d) (hq : Rat.divInt t d = q) {k : Nat} (h : k < xs.length) :
    (rs ((rowR q xs).take (2 * k))).floor = (xs.take k).sum + (k : Int) * t / d ∧ (rs ((rowR q xs).take (2 * k + 1))).floor = (xs.take k).sum + (k : Int) * t / d + xs.getD k 0 := by
  have e : (k : Rat) * q = Rat.divInt ((k : Int) * t) d := by
    rw [← hq, natR, Rat.divInt_eq_div, Rat.divInt_eq_div, Rat.intCast_mul, Rat.div_def, Rat.div_def, Rat.mul_assoc]
  have h3 : xs[k]? = some xs[k] := List.getElem?_eq_getElem h
  have e2 : (xs.take (k + 1)).sum = (xs.take k).sum + xs.getD k 0 := by
    rw [take_snoc h3, List.sum_append, List.getD_eq_getElem?_getD, h3]; simp
  constructor
  · rw [rs_even h, e, floor_addI, floor_dv hd]
  · rw [rs_odd h, e, floor_addI, floor_dv hd, e2]; omega

abbrev s_leanest : Stmt := top 25
theorem sc_leanest : FnScope ["blank"] ["blank"] (defScope s_leanest) := ⟨rfl, rfl, rfl, by decide +kernel, rfl, by decide +kernel, by decide +kernel⟩
def sp_leanest (C : Addr) : Sp := fun vs H Q _ => ∃ F M u, ∃ b l g w s, vs = [u] ∧ Wf F H M ∧ Rk F M u (prt C b l g w s) ∧ Q (.int (leanI b l s)) H
theorem n_leanest {C : Addr} {F : List (V × D)} {H : Hp} {M : List ME} {u : V} {b l w s : Int} {g : D} {Q : VK} {E : XK} (ww : Wf F H M) (hu : Rk F M u (prt C b l g w s)) (q : Q (.int (leanI b l s)) H) : sp_leanest C ([u] ++ []) H Q E := ⟨F, M, u, b, l, g, w, s, rfl, ww, hu, q⟩

theorem ok_leanest {f : Addr} {fd : FuncData} (F : Fun K "leanest" "leanest" s_leanest f fd) (B : Bn mg) (o_Part : OwnC K C_Part) (n_Part : ∀ f ∈ (["base", "least", "greatest", "grow", "shrink"] : List Str), NoAttr K C_Part f)  : FnOk P wd K mg base CX0 1 f fd ["blank"] (sp_leanest C_Part) := by
  refine F.ok sc_leanest (fun vs H Q E h => ?_) (fun cdv A outer s H vs Q E hr h => ?_)
  · obtain ⟨F, M, u, b, l, g, w, s, rfl, ww, hu, k⟩ := h
    all_goals rfl
  · obtain ⟨F, M, u, b, l, g, w, s, rfl, ww, hu, k⟩ := h
    refine ⟨_, (pss_cons (ps_if (pt_cmpR (k_eq (K := K) rfl hr.units) (kpe_fld (K := K) rfl (pv 0) rfl) pe_int (nomark _)) (pss_one (ps_ret (kpe_fld (K := K) rfl (pv 0) rfl))) pss_nil)
      (pss_one (ps_ret (kpe_fld (K := K) rfl (pv 0) rfl)))), ?_⟩
    try dsimp only [cxOf, Cx.nox, Cx.wish, Cx.blk]
    wtm_at "n"
    wtm_at "fork"
    · rename_i hs
      wtm_at "n"
      rw [leanI, if_pos hs] at k
      exact k
    · rename_i hs
      wtm_at "n"
      rw [leanI, if_neg hs] at k
      exact k
abbrev s_fattest : Stmt := top 26
theorem sc_fattest : FnScope ["blank"] ["blank"] (defScope s_fattest) := ⟨rfl, rfl, rfl, by decide +kernel, rfl, by decide +kernel, by decide +kernel⟩
def sp_fattest (C : Addr) : Sp := fun vs H Q _ => ∃ F M u, ∃ b l g w s, vs = [u] ∧ Wf F H M ∧ Rk F M u (prt C b l g w s) ∧ PartOk b l g w s ∧ (fatD b g w = .non → Q .non H) ∧ ∀ f, fatD b g w = .int f → 0 ≤ f → f ≤ 1000000000000 → Q (.int f) H
theorem n_fattest {C : Addr} {F : List (V × D)} {H : Hp} {M : List ME} {u : V} {b l w s : Int} {g : D} {Q : VK} {E : XK} (ww : Wf F H M) (hu : Rk F M u (prt C b l g w s)) (ok : PartOk b l g w s) (q1 : fatD b g w = .non → Q .non H) (q2 : ∀ f, fatD b g w = .int f → 0 ≤ f → f ≤ 1000000000000 → Q (.int f) H) : sp_fattest C ([u] ++ []) H Q E := ⟨F, M, u, b, l, g, w, s, rfl, ww, hu, ok, q1, q2⟩

theorem ok_fattest {f : Addr} {fd : FuncData} (F : Fun K "fattest" "fattest" s_fattest f fd) (B : Bn mg) (o_Part : OwnC K C_Part) (n_Part : ∀ f ∈ (["base", "least", "greatest", "grow", "shrink"] : List Str), NoAttr K C_Part f)  : FnOk P wd K mg base CX0 1 f fd ["blank"] (sp_fattest C_Part) := by
  refine F.ok sc_fattest (fun vs H Q E h => ?_) (fun cdv A outer s H vs Q E hr h => ?_)
  · obtain ⟨F, M, u, b, l, g, w, s, rfl, ww, hu, ok, k1, k2⟩ := h
    all_goals rfl
  · obtain ⟨F, M, u, b, l, g, w, s, rfl, ww, hu, ok, k1, k2⟩ := h
    refine ⟨_, (pss_cons (ps_if (pt_cmpR (k_eq (K := K) rfl hr.units) (kpe_fld (K := K) rfl (pv 0) rfl) pe_int (nomark _)) (pss_one (ps_ret (kpe_fld (K := K) rfl (pv 0) rfl))) pss_nil)
      (pss_one (ps_ret (kpe_fld (K := K) rfl (pv 0) rfl)))), ?_⟩
    try dsimp only [cxOf, Cx.nox, Cx.wish, Cx.blk]
    have h1 := ok.l0; have h2 := ok.lb; have h3 := ok.bm
    wtm_at "n"
    wtm_at "fork"
    · rename_i hs
      wtm_at "n"
      exact k2 b (by rw [fatD, if_pos hs]) (by omega) h3
    · rename_i hs
      have e : fatD b g w = g := by rw [fatD, if_neg hs]
      rcases ok.gr with rfl | ⟨n, rfl, n1, n2⟩
      · wtm_at "n"
        exact k1 e
      · wtm_at "n"
        exact k2 n e (by omega) n2
abbrev s_blank_size : Stmt := top 27
theorem sc_blank_size : FnScope ["space", "many", "blank", "most"] ["space", "many", "blank"] (defScope s_blank_size) := ⟨rfl, rfl, rfl, by decide +kernel, rfl, by decide +kernel, by decide +kernel⟩
def sp_blank_size (C : Addr) : Sp := fun vs H Q _ => ∃ F M u, ∃ sp m b l g w s, vs = [.int sp, .int m, u] ∧ Wf F H M ∧ Rk F M u (prt C b l g w s) ∧ PartOk b l g w s ∧ 0 < m ∧ m ≤ 200 ∧ ∀ r H', Wf ((r, frq (shQ sp m (fatD b g w))) :: F) H' M → Q r H'
theorem n_blank_size {C : Addr} {F : List (V × D)} {H : Hp} {M : List ME} {u : V} {sp m b l w s : Int} {g : D} {Q : VK} {E : XK} (ww : Wf F H M) (hu : Rk F M u (prt C b l g w s)) (ok : PartOk b l g w s) (m0 : 0 < m) (m1 : m ≤ 200) (q : ∀ r H', Wf ((r, frq (shQ sp m (fatD b g w))) :: F) H' M → Q r H') : sp_blank_size C ([.int sp, .int m, u] ++ []) H Q E := ⟨F, M, u, sp, m, b, l, g, w, s, rfl, ww, hu, ok, m0, m1, q⟩

theorem ok_blank_size {f : Addr} {fd : FuncData} (F : Fun K "blank_size" "blank_size" s_blank_size f fd) (B : Bn mg) (c_fattest : Cal P wd K mg base "fattest" 1 ["blank"] [] (sp_fattest C_Part)) (c_fraction : Cal P wd K mg base "fraction" 2 ["top", "bottom"] [] sp_fraction) (o_Part : OwnC K C_Part) (n_Part : ∀ f ∈ (["base", "least", "greatest", "grow", "shrink"] : List Str), NoAttr K C_Part f)  : FnOk P wd K mg base CX0 3 f fd ["space", "many", "blank"] (sp_blank_size C_Part) := by
  refine F.ok sc_blank_size (fun vs H Q E h => ?_) (fun cdv A outer s H vs Q E hr h => ?_)
  · obtain ⟨F, M, u, sp, m, b, l, g, w, s, rfl, ww, hu, ok, m0, m1, k⟩ := h
    all_goals rfl
  · obtain ⟨F, M, u, sp, m, b, l, g, w, s, rfl, ww, hu, ok, m0, m1, k⟩ := h
    refine ⟨_, (pss_cons (ps_set (i := 3) sc_blank_size.nd rfl (Or.inl rfl) (pe_cal c_fattest (hr.mono (by decide)) (by rfl) (pa_cons (pv 2) pa_nil)))
      (pss_cons (ps_if (pw_and (pt_cmp (pc_notN (pv 3))) (pw_and1 (pt_cmpR op_lt (pe_op uo_mul (pv 1) (pv 3)) (pv 0) (nomark _)))).pt (pss_one (ps_ret (pe_tup (pa_cons (pv 3) (pa_cons pe_int pa_nil))))) pss_nil)
      (pss_one (ps_ret (pe_cal c_fraction (hr.mono (by decide)) (by rfl) (pa_cons (pv 0) (pa_cons (pv 1) pa_nil))))))), ?_⟩
    try dsimp only [cxOf, Cx.nox, Cx.wish, Cx.blk]
    wtm_at "n"
    refine n_fattest ww hu ok (fun e => ?_) fun f e f0 f1 => ?_
    · wtm_at "n"
      refine n_fraction ww (by omega) (Bd.of 200 (by omega) (by decide)) fun r H1 ww => ?_
      refine k r _ ?_
      rw [e]
      exact ww
    · rw [e] at k
      wtm_at "no"
      wtm_at "fork"
      · rename_i hlt
        have e2 : shQ sp m (.int f) = (f : Rat) := if_pos hlt
        rw [e2] at k
        wtm_at "n"
        exact k _ _ (by assumption)
      · rename_i hlt
        have e2 : shQ sp m (.int f) = Rat.divInt sp m := if_neg hlt
        rw [e2] at k
        wtm_at "n"
        refine n_fraction ww (by omega) (Bd.of 200 (by omega) (by decide)) fun r H1 ww => ?_
        exact k r _ ww
/-! ### parts that share a room: prices -/
structure Row where
  b : Int
  l : Int
  g : Option Int
  w : Int
  s : Int
abbrev prtR (C : Addr) (r : Row) : D := prt C r.b r.l (oD r.g) r.w r.s
abbrev rowR' (r : Row) : D := rowD r.b r.l (oD r.g) r.w r.s
def ROk (r : Row) : Prop := PartOk r.b r.l (oD r.g) r.w r.s
def sizR (r : Row) (p : Rat) : Rat := sizQ r.b r.l (oD r.g) r.w r.s p
theorem row_of {b l w s : Int} {g : D} (ok : PartOk b l g w s) : ∃ r : Row, ROk r ∧ rowD b l g w s = rowR' r ∧ r.b = b ∧ r.l = l ∧ r.w = w ∧ r.s = s ∧ oD r.g = g := by
  rcases ok.gr with rfl | ⟨n, rfl, _, _⟩
  · exact ⟨⟨b, l, none, w, s⟩, ok, rfl, rfl, rfl, rfl, rfl, rfl⟩
  · exact ⟨⟨b, l, some n, w, s⟩, ok, rfl, rfl, rfl, rfl, rfl, rfl⟩
/-- a way: a weight and an end -/
abbrev Way := Int × Option Int
abbrev wyD (x : Way) : D := .tup [.int x.1, oD x.2]
structure WyOk (x : Way) : Prop where
  w0 : 0 ≤ x.1
  w1 : x.1 ≤ 1000
  e0 : ∀ e, x.2 = some e → 0 ≤ e ∧ e ≤ 1000000000000
/-- what a way gives at a price -/
def gvQ (p : Rat) (x : Way) : Rat := if 0 < x.1 then (match x.2 with | none => (x.1 : Rat) * p | some e => if (e : Rat) < (x.1 : Rat) * p then (e : Rat) else (x.1 : Rat) * p) else 0
def edQ (x : Way) : Rat := if 0 < x.1 then ((x.2.getD 0 : Int) : Rat) else 0
/-- what price_for tells -/
def PriceR (ws : List Way) (A : Rat) : Option Rat → Prop
  | some p => 0 < p ∧ rs (ws.map (gvQ p)) = A ∧ ∃ x ∈ ws, 0 < x.1 ∧ ∀ e, x.2 = some e → (x.1 : Rat) * p ≤ e
  | none => (∀ x ∈ ws, 0 < x.1 → x.2 ≠ none) ∧ rs (ws.map edQ) < A
def stayB (p : Rat) (x : Way) : Bool := match x.2 with | none => true | some e => decide (x.1 * p.num ≤ e * p.den)
theorem stay_iff {p : Rat} {w e : Int} : w * p.num ≤ e * p.den ↔ (w : Rat) * p ≤ e := by
  have h := @int_lt e ((w : Rat) * p)
  have h2 : ¬ ((e : Rat) < (w : Rat) * p) ↔ (w : Rat) * p ≤ e := by grind
  rw [← h2]
  have hd0 : (0 : Int) < (p.den : Int) := Int.natCast_pos.mpr p.den_pos
  have hd : (0 : Rat) < ((p.den : Int) : Rat) := by exact Rat.intCast_lt_intCast.mpr hd0
  have e1 : (p.num : Rat) = p * ((p.den : Int) : Rat) := by
    have q := Rat.num_divInt_den p
    rw [Rat.divInt_eq_div] at q
    have q2 := congrArg (· * ((p.den : Int) : Rat)) q
    have hne : ((p.den : Int) : Rat) ≠ 0 := by grind
    simp only [Rat.div_mul_cancel hne] at q2
    exact q2
  constructor
  · intro h1 h3
    have h4 : ((w * p.num : Int) : Rat) ≤ ((e * p.den : Int) : Rat) := Rat.intCast_le_intCast.mpr h1
    rw [Rat.intCast_mul, Rat.intCast_mul, e1] at h4
    have h5 := Rat.mul_lt_mul_of_pos_right h3 hd
    grind
  · intro h1
    apply Rat.intCast_le_intCast.mp
    rw [Rat.intCast_mul, Rat.intCast_mul, e1]
    have h5 : (w : Rat) * p ≤ e := by grind
    have h6 := Rat.mul_le_mul_of_nonneg_right h5 (Rat.le_of_lt hd)
    grind
def wyS (xs : List Way) : Int := (xs.map (·.1)).sum
def edS (xs : List Way) : Int := (xs.map fun x => x.2.getD 0).sum
theorem wyS_cons (x : Way) (xs : List Way) : wyS (x :: xs) = x.1 + wyS xs := rfl
theorem edS_cons (x : Way) (xs : List Way) : edS (x :: xs) = x.2.getD 0 + edS xs := rfl
theorem wyS_app (xs ys : List Way) : wyS (xs ++ ys) = wyS xs + wyS ys := by
  induction xs with
  | nil => simp [wyS]
  | cons x xs ih => rw [List.cons_append, wyS_cons, wyS_cons, ih]; omega
theorem edS_app (xs ys : List Way) : edS (xs ++ ys) = edS xs + edS ys := by
  induction xs with
  | nil => simp [edS]
  | cons x xs ih => rw [List.cons_append, edS_cons, edS_cons, ih]; omega
theorem wyS_pos {xs : List Way} (h : ∀ x ∈ xs, 0 < x.1) (hn : xs ≠ []) : 0 < wyS xs := by
  induction xs with
  | nil => exact absurd rfl hn
  | cons x xs ih =>
    have h1 := h x List.mem_cons_self
    rw [wyS_cons]
    by_cases e : xs = []
    · subst e; simp [wyS]; exact h1
    · have := ih (fun y hy => h y (List.mem_cons_of_mem _ hy)) e
      omega
theorem wyS_le {xs : List Way} (h : ∀ x ∈ xs, x.1 ≤ 1000) : wyS xs ≤ 1000 * xs.length := by
  induction xs with
  | nil => simp [wyS]
  | cons x xs ih =>
    have h1 := h x List.mem_cons_self
    have := ih fun y hy => h y (List.mem_cons_of_mem _ hy)
    rw [wyS_cons, List.length_cons]
    omega
theorem wyS_nn {xs : List Way} (h : ∀ x ∈ xs, 0 < x.1) : 0 ≤ wyS xs := by
  by_cases e : xs = []
  · subst e; simp [wyS]
  · exact Int.le_of_lt (wyS_pos h e)
theorem edS_nn {xs : List Way} (h : ∀ x ∈ xs, WyOk x) : 0 ≤ edS xs := by
  induction xs with
  | nil => simp [edS]
  | cons x xs ih =>
    have h1 := (h x List.mem_cons_self).e0
    have := ih fun y hy => h y (List.mem_cons_of_mem _ hy)
    rw [edS_cons]
    cases e : x.2 with
    | none => simp; omega
    | some z => have := h1 z e; simp; omega
theorem filter_perm {α : Type} (P : α → Bool) : ∀ (l : List α), List.Perm (l.filter P ++ l.filter (fun x => !P x)) l
  | [] => .nil
  | x :: l => by
    cases h : P x with
    | true =>
      rw [List.filter_cons_of_pos h, List.filter_cons_of_neg (by simp [h])]
      exact (filter_perm P l).cons x
    | false =>
      rw [List.filter_cons_of_neg (by simp [h]), List.filter_cons_of_pos (by simp [h])]
      exact (List.perm_middle).trans ((filter_perm P l).cons x)
theorem wyS_perm {xs ys : List Way} (h : List.Perm xs ys) : wyS xs = wyS ys := by
  induction h with
  | nil => rfl
  | cons x _ ih => rw [wyS_cons, wyS_cons, ih]
  | swap x y l => rw [wyS_cons, wyS_cons, wyS_cons, wyS_cons]; omega
  | trans _ _ h1 h2 => exact h1.trans h2
theorem rs_perm {α : Type} {f : α → Rat} {xs ys : List α} (h : List.Perm xs ys) : rs (xs.map f) = rs (ys.map f) := by
  induction h with
  | nil => rfl
  | cons x _ ih => rw [List.map_cons, List.map_cons, rs_cons, rs_cons, ih]
  | swap x y l => rw [List.map_cons, List.map_cons, List.map_cons, List.map_cons, rs_cons, rs_cons, rs_cons, rs_cons]; grind
  | trans _ _ h1 h2 => exact h1.trans h2
/-- the free ways, and those at their ends -/
structure PfI (ws : List Way) (A : Rat) (fs : List Way) (L : Rat) : Prop where
  ex : ∃ gone : List Way, List.Perm (fs ++ gone) (ws.filter fun x => decide (0 < x.1)) ∧ (∀ g ∈ gone, ∃ e, g.2 = some e ∧ (e : Rat) * wyS fs < (g.1 : Rat) * L) ∧ L = A - edS gone
  pos : 0 < L
theorem PfI.start {ws : List Way} {A : Rat} (h : 0 < A) : PfI ws A (ws.filter fun x => decide (0 < x.1)) A :=
  ⟨⟨[], by rw [List.append_nil], fun _ h => (nomatch h), by show A = A - ((0 : Int) : Rat); grind⟩, h⟩
theorem PfI.mem {ws fs : List Way} {A L : Rat} (h : PfI ws A fs L) {x : Way} (hx : x ∈ fs) : x ∈ ws ∧ 0 < x.1 := by
  obtain ⟨gone, hp, _⟩ := h.ex
  have := hp.mem_iff.mp (List.mem_append_left gone hx)
  simpa using List.mem_filter.mp this
/-- ends below what the ways would give -/
theorem gone_sum {p : Rat} {gs : List Way} (h : ∀ g ∈ gs, ∃ e, g.2 = some e ∧ (e : Rat) < (g.1 : Rat) * p) : (edS gs : Rat) ≤ p * wyS gs ∧ (gs ≠ [] → (edS gs : Rat) < p * wyS gs) := by
  induction gs with
  | nil => simp [edS, wyS]
  | cons g gs ih =>
    obtain ⟨e, he, h1⟩ := h g List.mem_cons_self
    have ⟨i1, _⟩ := ih fun y hy => h y (List.mem_cons_of_mem _ hy)
    rw [edS_cons, wyS_cons, he, Option.getD_some, Rat.intCast_add, Rat.intCast_add]
    constructor
    · grind
    · intro _; grind
theorem rat_pos_mul {a b : Rat} (ha : 0 < a) (hb : 0 < b) : 0 < a * b := Rat.mul_pos ha hb
theorem pf_lin1 {x y s L : Rat} (h : x + y = L) (h1 : s ≤ y) : x ≤ L - s := by grind
theorem pf_lin2 {x y s L : Rat} (h : x + y = L) (h1 : s < y) : x < L - s := by grind
theorem pf_lin3 {x y z : Rat} (h : x ≤ y) (h1 : y < z) : x < z := by grind
theorem pf_lin4 {x y : Rat} (h : 0 ≤ x) (h1 : x < y) : 0 < y := by grind
theorem pf_lin5 {A x y : Rat} : A - x - y = A - (y + x) := by grind
theorem pf_lin6 {A L g : Rat} (h : L = A - g) : L + g = A := by grind
theorem pf_lin7 {A L g : Rat} (h : L = A - g) (h1 : 0 < L) : g < A := by grind
/-- a turn of the while -/
theorem PfI.turn {ws fs : List Way} {A L p : Rat} (h : PfI ws A fs L) (hn : fs ≠ []) (hp : p = L / (wyS fs : Rat)) :
    0 < p ∧ L - edS (fs.filter fun x => !stayB p x) ≥ 0 ∧ ((fs.filter fun x => !stayB p x) ≠ [] → PfI ws A (fs.filter (stayB p)) (L - edS (fs.filter fun x => !stayB p x))) := by
  have hpos : ∀ x ∈ fs, 0 < x.1 := fun x hx => (h.mem hx).2
  have hW : (0 : Rat) < (wyS fs : Rat) := Rat.intCast_lt_intCast.mpr (wyS_pos hpos hn)
  have hWn : (wyS fs : Rat) ≠ 0 := by grind
  have hL := h.pos
  have epW : p * (wyS fs : Rat) = L := by rw [hp, Rat.div_mul_cancel hWn]
  have p0 : 0 < p := by
    rw [hp, Rat.div_def]
    exact Rat.mul_pos hL (Rat.inv_pos.mpr hW)
  have hg : ∀ g ∈ (fs.filter fun x => !stayB p x), ∃ e, g.2 = some e ∧ (e : Rat) < (g.1 : Rat) * p := by
    intro g hg
    obtain ⟨_, h2⟩ := List.mem_filter.mp hg
    unfold stayB at h2
    cases e : g.2 with
    | none => rw [e] at h2; simp at h2
    | some z =>
      rw [e] at h2
      refine ⟨z, rfl, ?_⟩
      have h3 : ¬ (g.1 * p.num ≤ z * p.den) := by simpa using h2
      rw [stay_iff] at h3
      grind
  have ⟨g1, g2⟩ := gone_sum hg
  have hper := filter_perm (stayB p) fs
  have ew : wyS (fs.filter (stayB p)) + wyS (fs.filter fun x => !stayB p x) = wyS fs := by
    rw [← wyS_app]
    exact wyS_perm hper
  have ewr : (wyS (fs.filter (stayB p)) : Rat) + (wyS (fs.filter fun x => !stayB p x) : Rat) = (wyS fs : Rat) := by rw [← Rat.intCast_add, ew]
  have hW' : (0 : Rat) ≤ (wyS (fs.filter (stayB p)) : Rat) := Rat.intCast_le_intCast.mpr (wyS_nn fun x hx => hpos x (List.mem_filter.mp hx).1)
  have hpW' : 0 ≤ p * (wyS (fs.filter (stayB p)) : Rat) := Rat.mul_nonneg (Rat.le_of_lt p0) hW'
  have em : p * (wyS (fs.filter (stayB p)) : Rat) + p * (wyS (fs.filter fun x => !stayB p x) : Rat) = L := by rw [← Rat.mul_add, ewr, epW]
  have key : p * (wyS (fs.filter (stayB p)) : Rat) ≤ L - (edS (fs.filter fun x => !stayB p x) : Rat) := pf_lin1 em g1
  refine ⟨p0, Rat.le_trans hpW' key, fun hne => ?_⟩
  have g3 := g2 hne
  have key2 : p * (wyS (fs.filter (stayB p)) : Rat) < L - (edS (fs.filter fun x => !stayB p x) : Rat) := pf_lin2 em g3
  obtain ⟨gone, hp1, hp2, hp3⟩ := h.ex
  refine ⟨⟨(fs.filter fun x => !stayB p x) ++ gone, ?_, fun g hgm => ?_, ?_⟩, pf_lin4 hpW' key2⟩
  · rw [← List.append_assoc]
    exact (hper.append_right gone).trans hp1
  · have fin : ∀ e : Int, (e : Rat) < (g.1 : Rat) * p → 0 < g.1 → (e : Rat) * (wyS (fs.filter (stayB p)) : Rat) < (g.1 : Rat) * (L - (edS (fs.filter fun x => !stayB p x) : Rat)) := by
      intro e he hg0
      have hg0' : (0 : Rat) < (g.1 : Rat) := Rat.intCast_lt_intCast.mpr hg0
      have s1 : (e : Rat) * (wyS (fs.filter (stayB p)) : Rat) ≤ ((g.1 : Rat) * p) * (wyS (fs.filter (stayB p)) : Rat) := Rat.mul_le_mul_of_nonneg_right (Rat.le_of_lt he) hW'
      have s2 : (g.1 : Rat) * (p * (wyS (fs.filter (stayB p)) : Rat)) < (g.1 : Rat) * (L - (edS (fs.filter fun x => !stayB p x) : Rat)) := Rat.mul_lt_mul_of_pos_left key2 hg0'
      rw [Rat.mul_assoc] at s1
      exact pf_lin3 s1 s2
    rcases List.mem_append.mp hgm with hg' | hg'
    · obtain ⟨e, he, h1⟩ := hg g hg'
      exact ⟨e, he, fin e h1 (hpos g (List.mem_filter.mp hg').1)⟩
    · obtain ⟨e, he, h1⟩ := hp2 g hg'
      refine ⟨e, he, fin e ?_ ?_⟩
      · have h2 : (e : Rat) * (wyS fs : Rat) < ((g.1 : Rat) * p) * (wyS fs : Rat) := by rw [Rat.mul_assoc, epW]; exact h1
        exact (Rat.mul_lt_mul_right hW).mp h2
      · have := hp1.mem_iff.mp (List.mem_append_right fs hg')
        simpa using (List.mem_filter.mp this).2
  · rw [edS_app, hp3, Rat.intCast_add]
    exact pf_lin5
theorem gv_free {p : Rat} {fs : List Way} (h : ∀ x ∈ fs, 0 < x.1 ∧ stayB p x = true) : rs (fs.map (gvQ p)) = p * (wyS fs : Rat) := by
  induction fs with
  | nil => simp [rs_nil, wyS]
  | cons x fs ih =>
    obtain ⟨h1, h2⟩ := h x List.mem_cons_self
    rw [List.map_cons, rs_cons, ih fun y hy => h y (List.mem_cons_of_mem _ hy), wyS_cons, Rat.intCast_add, gvQ, if_pos h1]
    cases e : x.2 with
    | none => grind
    | some z =>
      unfold stayB at h2
      rw [e] at h2
      have h3 : x.1 * p.num ≤ z * p.den := by simpa using h2
      rw [stay_iff] at h3
      dsimp only
      rw [if_neg (by grind)]
      grind
theorem gv_gone {p : Rat} {gs : List Way} (h : ∀ x ∈ gs, 0 < x.1 ∧ ∃ e, x.2 = some e ∧ (e : Rat) < (x.1 : Rat) * p) : rs (gs.map (gvQ p)) = (edS gs : Rat) := by
  induction gs with
  | nil => simp [rs_nil, edS]
  | cons x gs ih =>
    obtain ⟨h1, e, he, h2⟩ := h x List.mem_cons_self
    rw [List.map_cons, rs_cons, ih fun y hy => h y (List.mem_cons_of_mem _ hy), edS_cons, Rat.intCast_add, gvQ, if_pos h1, he]
    dsimp only
    rw [if_pos h2, Option.getD_some]
theorem ed_gone {gs : List Way} (h : ∀ x ∈ gs, 0 < x.1) : rs (gs.map edQ) = (edS gs : Rat) := by
  induction gs with
  | nil => simp [rs_nil, edS]
  | cons x gs ih =>
    have h1 := h x List.mem_cons_self
    rw [List.map_cons, rs_cons, ih fun y hy => h y (List.mem_cons_of_mem _ hy), edS_cons, Rat.intCast_add, edQ, if_pos h1]
theorem rs_filter {f : Way → Rat} (hf : ∀ x : Way, ¬ 0 < x.1 → f x = 0) (ws : List Way) : rs ((ws.filter fun x => decide (0 < x.1)).map f) = rs (ws.map f) := by
  induction ws with
  | nil => rfl
  | cons x ws ih =>
    by_cases h : 0 < x.1
    · rw [List.filter_cons_of_pos (by simpa using h), List.map_cons, List.map_cons, rs_cons, rs_cons, ih]
    · rw [List.filter_cons_of_neg (by simpa using h), List.map_cons, rs_cons, ih, hf x h]
      grind
/-- all stay: this is the price -/
theorem PfI.done {ws fs : List Way} {A L p : Rat} (h : PfI ws A fs L) (hn : fs ≠ []) (hp : p = L / (wyS fs : Rat)) (hs : (fs.filter (stayB p)).length = fs.length) : PriceR ws A (some p) := by
  have hpos : ∀ x ∈ fs, 0 < x.1 := fun x hx => (h.mem hx).2
  have hW : (0 : Rat) < (wyS fs : Rat) := Rat.intCast_lt_intCast.mpr (wyS_pos hpos hn)
  have hWn : (wyS fs : Rat) ≠ 0 := by grind
  have epW : p * (wyS fs : Rat) = L := by rw [hp, Rat.div_mul_cancel hWn]
  have hall : ∀ x ∈ fs, stayB p x = true := by
    have := List.length_filter_eq_length_iff.mp hs
    exact this
  obtain ⟨gone, hp1, hp2, hp3⟩ := h.ex
  have p0 := (h.turn hn hp).1
  have hgone : ∀ x ∈ gone, 0 < x.1 ∧ ∃ e, x.2 = some e ∧ (e : Rat) < (x.1 : Rat) * p := fun g hg => by
    obtain ⟨e, he, h1⟩ := hp2 g hg
    refine ⟨?_, e, he, ?_⟩
    · have := hp1.mem_iff.mp (List.mem_append_right fs hg)
      simpa using (List.mem_filter.mp this).2
    · have h2 : (e : Rat) * (wyS fs : Rat) < ((g.1 : Rat) * p) * (wyS fs : Rat) := by rw [Rat.mul_assoc, epW]; exact h1
      exact (Rat.mul_lt_mul_right hW).mp h2
  refine ⟨p0, ?_, ?_⟩
  · rw [← rs_filter (f := gvQ p) (fun x hx => by rw [gvQ, if_neg hx]) ws, ← rs_perm hp1, List.map_append, rs_app, gv_free fun x hx => ⟨hpos x hx, hall x hx⟩, gv_gone hgone, epW]
    exact pf_lin6 hp3
  · cases fs with
    | nil => exact absurd rfl hn
    | cons x fs =>
      have hx := h.mem (x := x) List.mem_cons_self
      refine ⟨x, hx.1, hx.2, fun e he => ?_⟩
      have h2 := hall x List.mem_cons_self
      unfold stayB at h2
      rw [he] at h2
      exact stay_iff.mp (by simpa using h2)
/-- none is left -/
theorem PfI.none {ws : List Way} {A L : Rat} (h : PfI ws A [] L) : PriceR ws A none := by
  obtain ⟨gone, hp1, hp2, hp3⟩ := h.ex
  rw [List.nil_append] at hp1
  have hL := h.pos
  refine ⟨fun x hx h0 => ?_, ?_⟩
  · have : x ∈ gone := hp1.mem_iff.mpr (List.mem_filter.mpr ⟨hx, by simpa using h0⟩)
    obtain ⟨e, he, _⟩ := hp2 x this
    rw [he]
    simp
  · rw [← rs_filter (f := edQ) (fun x hx => by rw [edQ, if_neg hx]) ws, ← rs_perm hp1, ed_gone fun x hx => by simpa using (List.mem_filter.mp (hp1.mem_iff.mp hx)).2]
    exact pf_lin7 hp3 hL
/-- an amount less a whole number, not below nought: no longer than it was -/
theorem sub_int_sz {k : Nat} {A : Rat} {n : Int} (hA : Sz k A) (h0 : 0 ≤ n) (h1 : 0 ≤ A - (n : Rat)) : Sz k (A - (n : Rat)) := by
  have e := sub_int A n
  have hd : A.den ≠ 0 := A.den_nz
  have hc : Int.gcd (A.num - n * A.den) A.den = 1 := by
    have h := A.reduced
    have h2 : Int.gcd (A.num - n * A.den) (A.den : Int) = Int.gcd A.num (A.den : Int) := by
      simpa [Int.mul_comm] using Int.gcd_sub_mul_right_left (A.den : Int) A.num n
    rw [h2]
    exact h
  have e2 : A - (n : Rat) = ⟨A.num - n * A.den, A.den, hd, hc⟩ := by
    rw [e, ← Rat.mk_eq_divInt (nz := hd) (c := hc)]
  rw [e2] at h1 ⊢
  refine ⟨?_, hA.d⟩
  show Bd k (A.num - n * A.den)
  have h3 : 0 ≤ A.num - n * A.den := Rat.num_nonneg.mpr h1
  have h4 : 0 ≤ n * (A.den : Int) := Int.mul_nonneg h0 (by omega)
  exact hA.n.le (by omega)
theorem frac_div {L : Rat} {W : Int} (hW : W ≠ 0) : Rat.divInt L.num (L.den * W) = L / (W : Rat) := by
  rw [Rat.divInt_eq_div, Rat.intCast_mul, Rat.div_def, Rat.inv_mul_rev]
  have e := Rat.num_divInt_den L
  rw [Rat.divInt_eq_div, Rat.div_def] at e
  rw [Rat.div_def]
  conv => rhs; rw [← e]
  grind
theorem edS_take_le {fs : List Way} {P : Way → Bool} (ok : ∀ x ∈ fs, WyOk x) (i : Nat) : 0 ≤ edS ((fs.take i).filter P) ∧ edS ((fs.take i).filter P) ≤ edS (fs.filter P) := by
  have h : fs.filter P = (fs.take i).filter P ++ (fs.drop i).filter P := by rw [← List.filter_append, List.take_append_drop]
  have h1 : 0 ≤ edS ((fs.drop i).filter P) := edS_nn fun x hx => ok x (List.mem_of_mem_drop (List.mem_filter.mp hx).1)
  have h2 : 0 ≤ edS ((fs.take i).filter P) := edS_nn fun x hx => ok x (List.mem_of_mem_take (List.mem_filter.mp hx).1)
  rw [h, edS_app]
  omega

structure EdgOk (qs : List Rat) : Prop where
  ln : qs.length ≤ 10000
  ok : ∀ (i : Nat) q, qs[i]? = some q → Sz 100000 (rs (qs.take i)) ∧ Sz 100000 q ∧ Bd 8000 ((rs (qs.take i)).den * q.den : Int) ∧ Bd 8000 ((rs (qs.take (i + 1))).den : Int)
def edg (qs : List Rat) : List Int := (List.range (qs.length + 1)).map fun i => (rs (qs.take i)).floor
theorem edg_len (qs : List Rat) : (edg qs).length = qs.length + 1 := by simp [edg]
theorem edg_at {qs : List Rat} {i : Nat} (h : i ≤ qs.length) : (edg qs)[i]? = some (rs (qs.take i)).floor := by
  unfold edg
  rw [List.getElem?_map, List.getElem?_range (by omega)]
  rfl
theorem EdgOk.of {j k : Nat} {qs : List Rat} (h : ∀ q ∈ qs, Sz2 j k q) (h1 : (k + 1) * (qs.length + 2) ≤ 7000) (h2 : j ≤ 5000) (hl : qs.length ≤ 6000) : EdgOk qs where
  ln := by omega
  ok := fun i q hq => by
    have hi : i < qs.length := (List.getElem?_eq_some_iff.mp hq).1
    have s1 := Sz2.rs h i (by omega)
    have s2 := Sz2.rs h (i + 1) (by omega)
    have s3 := h q (List.mem_of_getElem? hq)
    have e1 : (k + 1) * i + (k + 1) * 2 ≤ (k + 1) * (qs.length + 2) := by rw [← Nat.mul_add]; exact Nat.mul_le_mul_left _ (by omega)
    have e2 : k * i ≤ (k + 1) * i := Nat.mul_le_mul_right _ (by omega)
    have e3 : k * (i + 1) = k * i + k := by rw [Nat.mul_add]; omega
    exact ⟨s1.sz (by omega) (by omega), s3.sz (by omega) (by omega), (s1.d.mul s3.d).mono (by omega), s2.d.mono (by omega)⟩

theorem sum_take_le : ∀ (l : List Nat) (i : Nat), (l.take i).sum ≤ l.sum
  | [], i => by simp
  | x :: r, 0 => by simp
  | x :: r, i + 1 => by
    have := sum_take_le r i
    simp only [List.take_succ_cons, List.sum_cons]
    omega
theorem Sz2.rsK {J : Nat} {l : List (Rat × Nat)} (h : ∀ p ∈ l, Sz2 J p.2 p.1) : ∀ i, i ≤ l.length → Sz2 (J + ((l.map (·.2)).take i).sum + i + 1) (((l.map (·.2)).take i).sum + 1) (Fs.rs ((l.map (·.1)).take i))
  | 0, _ => ⟨Bd.of 0 (by simp [rs_nil]) (Nat.pow_pos (by decide)), Bd.of 1 (by simp [rs_nil]) (by simp)⟩
  | i + 1, hi => by
    have hi' : i < l.length := hi
    have e : (l.map (·.1))[i]? = some l[i].1 := by rw [List.getElem?_map, List.getElem?_eq_getElem hi']; rfl
    have e2 : (l.map (·.2))[i]? = some l[i].2 := by rw [List.getElem?_map, List.getElem?_eq_getElem hi']; rfl
    rw [rs_take e, List.take_add_one, e2, Option.toList_some, List.sum_append, List.sum_singleton]
    have ih := Sz2.rsK h i (by omega)
    have hq := h _ (List.getElem_mem hi')
    exact (ih.add hq (J + (((l.map (·.2)).take i).sum + l[i].2) + (i + 1) + 1) (by omega) (by omega)).mono (Nat.le_refl _) (by omega)
theorem EdgOk.ofK {J : Nat} {l : List (Rat × Nat)} (h : ∀ p ∈ l, Sz2 J p.2 p.1) (h1 : (l.map (·.2)).sum ≤ 7000) (h2 : J ≤ 5000) (hl : l.length ≤ 6000) : EdgOk (l.map (·.1)) where
  ln := by rw [List.length_map]; omega
  ok := fun i q hq => by
    have hi : i < l.length := by
      have := (List.getElem?_eq_some_iff.mp hq).1
      rw [List.length_map] at this
      exact this
    have e : (l.map (·.1))[i]? = some l[i].1 := by rw [List.getElem?_map, List.getElem?_eq_getElem hi]; rfl
    rw [e] at hq
    cases hq
    have s1 := Sz2.rsK h i (by omega)
    have s2 := Sz2.rsK h (i + 1) (by omega)
    have s3 := h _ (List.getElem_mem hi)
    have e2 : (l.map (·.2))[i]? = some l[i].2 := by rw [List.getElem?_map, List.getElem?_eq_getElem hi]; rfl
    have l1 := sum_take_le (l.map (·.2)) i
    have l2 := sum_take_le (l.map (·.2)) (i + 1)
    have e3 : ((l.map (·.2)).take (i + 1)).sum = ((l.map (·.2)).take i).sum + l[i].2 := by rw [List.take_add_one, e2, Option.toList_some, List.sum_append, List.sum_singleton]
    exact ⟨s1.sz (by omega) (by omega), s3.sz (by omega) (by omega), (s1.d.mul s3.d).mono (by omega), s2.d.mono (by omega)⟩

/-! ### sizes and prices of a room -/
def upW (r : Row) : Way := (r.w, r.g.map (· - r.b))
def dnW (r : Row) : Way := (r.s, some (r.b - r.l))
def bsum (rows : List Row) : Int := (rows.map (·.b)).sum
/-- the size at any price, of the last ones -/
def endI (up : Bool) (r : Row) : Int := if up then (if 0 < r.w then r.g.getD 0 else r.b) else (if 0 < r.s then r.l else r.b)
def ShR (rows : List Row) (R : Rat) : Option Rat → Prop
  | some p => rs (rows.map (sizR · p)) = R ∧ (p = 0 ∨ (0 < p ∧ ∃ r ∈ rows, 0 < r.w ∧ ∀ g, r.g = some g → (r.b : Rat) + (r.w : Rat) * p ≤ (g : Rat)) ∨ (p < 0 ∧ ∃ r ∈ rows, 0 < r.s ∧ (r.l : Rat) ≤ (r.b : Rat) + (r.s : Rat) * p))
  | none => ((bsum rows : Rat) < R ∧ (∀ r ∈ rows, 0 < r.w → r.g ≠ none) ∧ rs (rows.map fun r => (endI true r : Rat)) < R) ∨ (R < (bsum rows : Rat) ∧ R < rs (rows.map fun r => (endI false r : Rat)))
def shUp (rows : List Row) (R : Rat) : Bool := decide ((bsum rows : Rat) < R)
def shL (rows : List Row) (R : Rat) : Option Rat → List Rat
  | some p => rows.map (sizR · p)
  | none => rows.map fun r => (endI (shUp rows R) r : Rat)
def shD : Option Rat → D
  | some p => frq p
  | none => .non
theorem bsum_cons (r : Row) (rows : List Row) : bsum (r :: rows) = r.b + bsum rows := rfl
theorem ROk.g0 {r : Row} {g : Int} (h : ROk r) (e : r.g = some g) : r.b ≤ g ∧ g ≤ 1000000000000 := by
  rcases h.gr with h1 | ⟨n, h1, h2, h3⟩
  · rw [e] at h1; cases h1
  · rw [e] at h1
    cases h1
    exact ⟨h2, h3⟩
theorem upW_ok {r : Row} (h : ROk r) : WyOk (upW r) := ⟨h.w0, h.w1, fun e he => by
  have hb := h.lb
  have hl := h.l0
  unfold upW at he
  cases hg : r.g with
  | none => rw [hg] at he; cases he
  | some g =>
    rw [hg] at he
    obtain ⟨h1, h2⟩ := h.g0 hg
    have : g - r.b = e := by simpa using he
    omega⟩
theorem dnW_ok {r : Row} (h : ROk r) : WyOk (dnW r) := ⟨h.s0, h.s1, fun e he => by
  have hb := h.lb
  have hl := h.l0
  have hm := h.bm
  have : r.b - r.l = e := by simpa [dnW] using he
  omega⟩
theorem siz_up {r : Row} (h : ROk r) {p : Rat} (hp : 0 < p) : sizR r p = (r.b : Rat) + gvQ p (upW r) := by
  unfold sizR sizQ gvQ upW
  rw [if_neg (by grind)]
  have w0 := h.w0
  by_cases hw : 0 < r.w
  · rw [if_pos hw]
    cases hg : r.g with
    | none => rfl
    | some g =>
      obtain ⟨h1, h2⟩ := h.g0 hg
      show capG (.int g) _ = _
      unfold capG
      dsimp only [Option.map_some]
      rw [Rat.intCast_sub]
      by_cases hc : (g : Rat) < (r.b : Rat) + (r.w : Rat) * p
      · rw [if_pos hc, if_pos (by grind)]; grind
      · rw [if_neg hc, if_neg (by grind)]
  · rw [if_neg hw]
    have e : r.w = 0 := by omega
    rw [e]
    cases hg : r.g with
    | none =>
      show capG .non _ = _
      unfold capG
      simp
    | some g =>
      obtain ⟨h1, h2⟩ := h.g0 hg
      show capG (.int g) _ = _
      unfold capG
      have h3 : (r.b : Rat) ≤ (g : Rat) := Rat.intCast_le_intCast.mpr h1
      simp
      intro hc
      grind
theorem siz_dn {r : Row} (h : ROk r) {p : Rat} (hp : p < 0) : sizR r p = (r.b : Rat) - gvQ (-p) (dnW r) := by
  unfold sizR sizQ gvQ dnW
  rw [if_pos hp]
  have s0 := h.s0
  have lb : (r.l : Rat) ≤ (r.b : Rat) := Rat.intCast_le_intCast.mpr h.lb
  dsimp only
  by_cases hw : 0 < r.s
  · rw [if_pos hw, Rat.intCast_sub]
    by_cases hc : (r.b : Rat) + (r.s : Rat) * p < (r.l : Rat)
    · rw [if_pos hc, if_pos (by grind)]; grind
    · rw [if_neg hc, if_neg (by grind)]; grind
  · rw [if_neg hw]
    have e : r.s = 0 := by omega
    rw [e]
    split <;> grind
theorem siz_zero {r : Row} (h : ROk r) : sizR r 0 = (r.b : Rat) := by
  unfold sizR sizQ
  rw [if_neg (by decide)]
  cases hg : r.g with
  | none =>
    show capG .non _ = _
    unfold capG
    dsimp only
    grind
  | some g =>
    obtain ⟨h1, h2⟩ := h.g0 hg
    show capG (.int g) _ = _
    unfold capG
    have h3 : (r.b : Rat) ≤ (g : Rat) := Rat.intCast_le_intCast.mpr h1
    dsimp only
    split <;> grind
theorem rs_add {α : Type} {f g h : α → Rat} {xs : List α} (e : ∀ x ∈ xs, f x = g x + h x) : rs (xs.map f) = rs (xs.map g) + rs (xs.map h) := by
  induction xs with
  | nil => simp only [List.map_nil, rs_nil]; grind
  | cons x xs ih =>
    rw [List.map_cons, List.map_cons, List.map_cons, rs_cons, rs_cons, rs_cons, ih fun y hy => e y (List.mem_cons_of_mem _ hy), e x List.mem_cons_self]
    grind
theorem rs_sub {α : Type} {f g h : α → Rat} {xs : List α} (e : ∀ x ∈ xs, f x = g x - h x) : rs (xs.map f) = rs (xs.map g) - rs (xs.map h) := by
  induction xs with
  | nil => simp only [List.map_nil, rs_nil]; grind
  | cons x xs ih =>
    rw [List.map_cons, List.map_cons, List.map_cons, rs_cons, rs_cons, rs_cons, ih fun y hy => e y (List.mem_cons_of_mem _ hy), e x List.mem_cons_self]
    grind
theorem rs_congr {α : Type} {f g : α → Rat} {xs : List α} (e : ∀ x ∈ xs, f x = g x) : rs (xs.map f) = rs (xs.map g) := by rw [List.map_congr_left e]
theorem rs_int {α : Type} {f : α → Int} (xs : List α) : rs (xs.map fun x => ((f x : Int) : Rat)) = (((xs.map f).sum : Int) : Rat) := by
  induction xs with
  | nil => rfl
  | cons x xs ih => rw [List.map_cons, List.map_cons, rs_cons, ih, List.sum_cons, Rat.intCast_add]
theorem rs_b (rows : List Row) : rs (rows.map fun r => (r.b : Rat)) = (bsum rows : Rat) := rs_int rows
/-- from price_for, more room than the bases -/
theorem shr_up {rows : List Row} (ok : ∀ r ∈ rows, ROk r) {R : Rat} (hR : (bsum rows : Rat) < R) {o : Option Rat} (h : PriceR (rows.map upW) (R - (bsum rows : Rat)) o) : ShR rows R o := by
  cases o with
  | some p =>
    obtain ⟨h0, h1, x, hx, hx0, hx1⟩ := h
    refine ⟨?_, .inr (.inl ⟨h0, ?_⟩)⟩
    · rw [rs_add (fun r hr => siz_up (ok r hr) h0), rs_b]
      rw [List.map_map] at h1
      change rs (rows.map fun r => gvQ p (upW r)) = _ at h1
      rw [h1]
      grind
    · obtain ⟨r, hr, rfl⟩ := List.mem_map.mp hx
      refine ⟨r, hr, hx0, fun g hg => ?_⟩
      have := hx1 (g - r.b) (by simp [upW, hg])
      rw [Rat.intCast_sub] at this
      change (r.w : Rat) * p ≤ _ at this
      grind
  | none =>
    obtain ⟨h1, h2⟩ := h
    have hall : ∀ r ∈ rows, 0 < r.w → r.g ≠ none := fun r hr hw e => by
      have := h1 (upW r) (List.mem_map_of_mem hr) hw
      simp [upW, e] at this
    refine .inl ⟨hR, hall, ?_⟩
    rw [rs_add (g := fun r => (r.b : Rat)) (h := fun r => edQ (upW r)) (fun r hr => ?_), rs_b]
    · rw [List.map_map] at h2
      change rs (rows.map fun r => edQ (upW r)) < _ at h2
      grind
    · unfold endI edQ upW
      rw [if_pos rfl]
      by_cases hw : 0 < r.w
      · rw [if_pos hw, if_pos hw]
        cases e : r.g with
        | none => exact absurd e (hall r hr hw)
        | some g =>
          simp only [Option.map_some, Option.getD_some]
          rw [Rat.intCast_sub]
          grind
      · rw [if_neg hw, if_neg hw]
        grind
theorem shr_dn {rows : List Row} (ok : ∀ r ∈ rows, ROk r) {R : Rat} (hR : R < (bsum rows : Rat)) {o : Option Rat} (h : PriceR (rows.map dnW) ((bsum rows : Rat) - R) o) : ShR rows R (o.map fun p => -p) := by
  cases o with
  | some p =>
    obtain ⟨h0, h1, x, hx, hx0, hx1⟩ := h
    have hn : -p < 0 := by grind
    refine ⟨?_, .inr (.inr ⟨hn, ?_⟩)⟩
    · rw [rs_sub (fun r hr => siz_dn (ok r hr) hn), rs_b]
      rw [List.map_map] at h1
      change rs (rows.map fun r => gvQ p (dnW r)) = _ at h1
      rw [show (- -p) = p by grind, h1]
      grind
    · obtain ⟨r, hr, rfl⟩ := List.mem_map.mp hx
      refine ⟨r, hr, hx0, ?_⟩
      have := hx1 (r.b - r.l) rfl
      rw [Rat.intCast_sub] at this
      change (r.s : Rat) * p ≤ _ at this
      grind
  | none =>
    obtain ⟨h1, h2⟩ := h
    refine .inr ⟨hR, ?_⟩
    rw [rs_sub (g := fun r => (r.b : Rat)) (h := fun r => edQ (dnW r)) (fun r hr => ?_), rs_b]
    · rw [List.map_map] at h2
      change rs (rows.map fun r => edQ (dnW r)) < _ at h2
      grind
    · unfold endI edQ dnW
      rw [if_neg (by simp)]
      by_cases hw : 0 < r.s
      · rw [if_pos hw, if_pos hw]
        simp only [Option.getD_some]
        rw [Rat.intCast_sub]
        grind
      · rw [if_neg hw, if_neg hw]
        grind
theorem shr_zero {rows : List Row} (ok : ∀ r ∈ rows, ROk r) {R : Rat} (hR : R = (bsum rows : Rat)) : ShR rows R (some 0) := by
  refine ⟨?_, .inl rfl⟩
  rw [rs_congr (fun r hr => siz_zero (ok r hr)), rs_b, hR]
/-! sums over one bottom -/
theorem dv_add {s t N : Int} : Rat.divInt s N + Rat.divInt t N = Rat.divInt (s + t) N := by
  rw [Rat.divInt_eq_div, Rat.divInt_eq_div, Rat.divInt_eq_div, Rat.intCast_add, Rat.div_def, Rat.div_def, Rat.div_def, Rat.add_mul]
theorem rs_dv {N : Int} {B : Nat} {qs : List Rat} (h : ∀ q ∈ qs, ∃ t : Int, q = Rat.divInt t N ∧ t.natAbs ≤ B) : ∃ T : Int, rs qs = Rat.divInt T N ∧ T.natAbs ≤ qs.length * B := by
  induction qs with
  | nil => exact ⟨0, by rw [Rat.zero_divInt]; rfl, by simp⟩
  | cons q qs ih =>
    obtain ⟨t, rfl, ht⟩ := h q List.mem_cons_self
    obtain ⟨T, e, hT⟩ := ih fun y hy => h y (List.mem_cons_of_mem _ hy)
    refine ⟨t + T, by rw [rs_cons, e, dv_add], ?_⟩
    rw [List.length_cons, Nat.succ_mul]
    omega
theorem dv_int {n N : Int} (hN : N ≠ 0) : (n : Rat) = Rat.divInt (n * N) N := by
  have h : ((N : Int) : Rat) ≠ 0 := fun z => hN (Rat.intCast_inj.mp z)
  rw [Rat.divInt_eq_div, Rat.intCast_mul, Rat.mul_div_cancel h]
/-- partial sums of sizes over one bottom -/
theorem EdgOk.ofN {j k : Nat} {N : Int} {qs : List Rat} (hN : N ≠ 0) (bN : Bd j N) (h : ∀ q ∈ qs, ∃ t : Int, q = Rat.divInt t N ∧ Bd k t) (hl : qs.length ≤ 1000) (hj : j ≤ 3900) (hk : k ≤ 5000) : EdgOk qs where
  ln := by omega
  ok := fun i q hq => by
    have hB : ∀ m, ∃ T : Int, rs (qs.take m) = Rat.divInt T N ∧ Bd (k + 10) T := fun m => by
      obtain ⟨T, e, hT⟩ := rs_dv (B := 2 ^ k) (qs := qs.take m) (N := N) fun q hq => by
        obtain ⟨t, e, ht⟩ := h q (List.mem_of_mem_take hq)
        exact ⟨t, e, Nat.le_of_lt ht⟩
      refine ⟨T, e, Nat.lt_of_le_of_lt hT ?_⟩
      have h1 := List.length_take_le' m qs
      have h2 : (qs.take m).length * 2 ^ k ≤ 1000 * 2 ^ k := Nat.mul_le_mul_right _ (by omega)
      have h3 : 2 ^ (k + 10) = 2 ^ k * 1024 := by rw [Nat.pow_add]
      have h4 : 0 < 2 ^ k := Nat.pow_pos (by decide)
      omega
    obtain ⟨T1, e1, b1⟩ := hB i
    obtain ⟨T2, e2, b2⟩ := hB (i + 1)
    obtain ⟨t, e3, b3⟩ := h q (List.mem_of_getElem? hq)
    rw [e1, e2, e3]
    exact ⟨Sz.divInt hN b1 bN 100000, Sz.divInt hN b3 bN 100000, (((bN.le (den_le hN)).mul (bN.le (den_le hN)))).mono (by omega), (bN.le (den_le hN)).mono (by omega)⟩
theorem rs_szN {j k : Nat} {N : Int} {qs : List Rat} (hN : N ≠ 0) (bN : Bd j N) (h : ∀ q ∈ qs, ∃ t : Int, q = Rat.divInt t N ∧ Bd k t) (hl : qs.length ≤ 1000) : Sz2 (k + 10) j (rs qs) := by
  obtain ⟨T, e, hT⟩ := rs_dv (B := 2 ^ k) (qs := qs) (N := N) fun q hq => by
    obtain ⟨t, e, ht⟩ := h q hq
    exact ⟨t, e, Nat.le_of_lt ht⟩
  rw [e]
  refine ⟨Bd.le (show Bd (k + 10) T from Nat.lt_of_le_of_lt hT ?_) (num_le hN), bN.le (den_le hN)⟩
  have h2 : qs.length * 2 ^ k ≤ 1000 * 2 ^ k := Nat.mul_le_mul_right _ (by omega)
  have h3 : 2 ^ (k + 10) = 2 ^ k * 1024 := by rw [Nat.pow_add]
  have h4 : 0 < 2 ^ k := Nat.pow_pos (by decide)
  omega
/-- a size over the price's bottom -/
theorem siz_dv {r : Row} (h : ROk r) {k : Nat} {p : Rat} (hp : Sz k p) : ∃ t : Int, sizR r p = Rat.divInt t p.den ∧ Bd (k + 41) t := by
  have l0 := h.l0; have lb := h.lb; have bm := h.bm
  have bB : Bd 40 r.b := bd12 (by omega) bm
  have bL : Bd 40 r.l := bd12 l0 (by omega)
  have bW : Bd 40 r.w := (bd3 h.w0 h.w1).mono (by decide)
  have bS : Bd 40 r.s := (bd3 h.s0 h.s1).mono (by decide)
  have hd := den_ne p
  have lin : ∀ s : Int, Bd 40 s → Bd (k + 41) (r.b * p.den + s * p.num) := fun s bs => (Bd.add (k := k + 40) ((bB.mul hp.d).mono (by omega)) ((bs.mul hp.n).mono (by omega)))
  unfold sizR sizQ
  split
  · split
    · exact ⟨r.l * p.den, dv_int hd, (bL.mul hp.d).mono (by omega)⟩
    · exact ⟨_, (lin_dv r.b r.s p).symm, lin _ bS⟩
  · cases hg : r.g with
    | none => exact ⟨_, (lin_dv r.b r.w p).symm, lin _ bW⟩
    | some g =>
      obtain ⟨h1, h2⟩ := h.g0 hg
      show ∃ t : Int, capG (.int g) _ = _ ∧ _
      unfold capG
      dsimp only
      split
      · exact ⟨g * p.den, dv_int hd, ((bd12 (by omega) h2).mul hp.d).mono (by omega)⟩
      · exact ⟨_, (lin_dv r.b r.w p).symm, lin _ bW⟩
theorem end_bd {r : Row} (h : ROk r) {up : Bool} (hg : up = true → 0 < r.w → r.g ≠ none) : 0 ≤ endI up r ∧ endI up r ≤ 1000000000000 := by
  have l0 := h.l0; have lb := h.lb; have bm := h.bm
  unfold endI
  cases up with
  | true =>
    rw [if_pos rfl]
    split
    · rename_i hw
      cases e : r.g with
      | none => exact absurd e (hg rfl hw)
      | some g => have := h.g0 e; simp; omega
    · omega
  | false =>
    rw [if_neg (by simp)]
    split <;> omega
/-- what share tells, its sums within bounds -/
theorem shL_dv {rows : List Row} (ok : ∀ r ∈ rows, ROk r) {R : Rat} {o : Option Rat} (h : ShR rows R o) {k : Nat} (hp : ∀ p, o = some p → Sz k p) (hk : 1 ≤ k) : ∃ N : Int, N ≠ 0 ∧ Bd k N ∧ ∀ q ∈ shL rows R o, ∃ t : Int, q = Rat.divInt t N ∧ Bd (k + 41) t := by
  cases o with
  | some p =>
    refine ⟨p.den, den_ne p, (hp p rfl).d, fun q hq => ?_⟩
    obtain ⟨r, hr, rfl⟩ := List.mem_map.mp hq
    exact siz_dv (ok r hr) (hp p rfl)
  | none =>
    refine ⟨1, by decide, bd1 (by omega), fun q hq => ?_⟩
    obtain ⟨r, hr, rfl⟩ := List.mem_map.mp hq
    have hg : shUp rows R = true → 0 < r.w → r.g ≠ none := fun hu hw => by
      rcases h with ⟨_, h2, _⟩ | ⟨h2, _⟩
      · exact h2 r hr hw
      · unfold shUp at hu
        have := of_decide_eq_true hu
        grind
    obtain ⟨h1, h2⟩ := end_bd (ok r hr) hg
    exact ⟨endI (shUp rows R) r * 1, dv_int (by decide), by rw [Int.mul_one]; exact (bd12 h1 h2).mono (by omega)⟩
theorem bsum_bd {rows : List Row} (ok : ∀ r ∈ rows, ROk r) (hl : rows.length ≤ 120) : 0 ≤ bsum rows ∧ bsum rows ≤ 120000000000000 := by
  have h : 0 ≤ bsum rows ∧ bsum rows ≤ 1000000000000 * rows.length := by
    clear hl
    induction rows with
    | nil => simp [bsum]
    | cons r rows ih =>
      have h1 := ok r List.mem_cons_self
      have l0 := h1.l0; have lb := h1.lb; have bm := h1.bm
      have := ih fun x hx => ok x (List.mem_cons_of_mem _ hx)
      rw [bsum_cons, List.length_cons]
      omega
  omega
theorem frq_neg (p : Rat) : frq (-p) = fr (-p.num) p.den := rfl

/-! ### rooms beyond what parts can have -/
theorem rs_le {α : Type} {f g : α → Rat} {xs : List α} (e : ∀ x ∈ xs, f x ≤ g x) : rs (xs.map f) ≤ rs (xs.map g) := by
  induction xs with
  | nil => simp [rs_nil]
  | cons x xs ih =>
    rw [List.map_cons, List.map_cons, rs_cons, rs_cons]
    have h1 := ih fun y hy => e y (List.mem_cons_of_mem _ hy)
    have h2 := e x List.mem_cons_self
    grind
theorem mul_nn {w : Int} {p : Rat} (hw : 0 ≤ w) (hp : 0 ≤ p) : 0 ≤ (w : Rat) * p := Rat.mul_nonneg (by exact Rat.intCast_le_intCast.mpr hw) hp
theorem siz_neg {r : Row} {p : Rat} (hp : p < 0) : sizR r p = if (r.b : Rat) + r.s * p < r.l then (r.l : Rat) else (r.b : Rat) + r.s * p := by
  unfold sizR sizQ
  rw [if_pos hp]
theorem siz_pos_none {r : Row} {p : Rat} (hp : ¬ p < 0) (hg : r.g = none) : sizR r p = (r.b : Rat) + r.w * p := by
  unfold sizR sizQ
  rw [if_neg hp, hg]
  rfl
theorem siz_pos_some {r : Row} {p : Rat} {g : Int} (hp : ¬ p < 0) (hg : r.g = some g) : sizR r p = if (g : Rat) < (r.b : Rat) + r.w * p then (g : Rat) else (r.b : Rat) + r.w * p := by
  unfold sizR sizQ
  rw [if_neg hp, hg]
  rfl
/-- below the base with prices below nought, not below it else -/
theorem siz_le_b {r : Row} (h : ROk r) {p : Rat} (hp : p < 0) : sizR r p ≤ (r.b : Rat) := by
  rw [siz_neg hp]
  have lb : (r.l : Rat) ≤ (r.b : Rat) := Rat.intCast_le_intCast.mpr h.lb
  have hm := mul_nn h.s0 (p := -p) (by grind)
  split <;> grind
theorem b_le_siz {r : Row} (h : ROk r) {p : Rat} (hp : ¬ p < 0) : (r.b : Rat) ≤ sizR r p := by
  have hm := mul_nn h.w0 (p := p) (by grind)
  cases hg : r.g with
  | none => rw [siz_pos_none hp hg]; grind
  | some g =>
    have hb : (r.b : Rat) ≤ (g : Rat) := Rat.intCast_le_intCast.mpr (h.g0 hg).1
    rw [siz_pos_some hp hg]
    split <;> grind
theorem siz_le_end {r : Row} (h : ROk r) (hg : 0 < r.w → r.g ≠ none) (p : Rat) : sizR r p ≤ (endI true r : Rat) := by
  have w0 := h.w0
  unfold endI
  rw [if_pos rfl]
  by_cases hp : p < 0
  · refine Rat.le_trans (siz_le_b h hp) ?_
    split
    · rename_i hw
      cases e : r.g with
      | none => exact absurd e (hg hw)
      | some g => exact Rat.intCast_le_intCast.mpr (h.g0 e).1
    · exact Rat.le_refl
  · split
    · rename_i hw
      cases e : r.g with
      | none => exact absurd e (hg hw)
      | some g =>
        rw [siz_pos_some hp e]
        simp only [Option.getD_some]
        split <;> grind
    · rename_i hw
      have e0 : r.w = 0 := by omega
      cases e : r.g with
      | none => rw [siz_pos_none hp e, e0]; grind
      | some g =>
        have hb : (r.b : Rat) ≤ (g : Rat) := Rat.intCast_le_intCast.mpr (h.g0 e).1
        rw [siz_pos_some hp e, e0]
        split <;> grind
theorem end_le_siz {r : Row} (h : ROk r) (p : Rat) : (endI false r : Rat) ≤ sizR r p := by
  have s0 := h.s0
  have lb : (r.l : Rat) ≤ (r.b : Rat) := Rat.intCast_le_intCast.mpr h.lb
  unfold endI
  rw [if_neg (by simp)]
  by_cases hp : p < 0
  · rw [siz_neg hp]
    split
    · split <;> grind
    · rename_i hw
      have e0 : r.s = 0 := by omega
      rw [e0]
      split <;> grind
  · refine Rat.le_trans ?_ (b_le_siz h hp)
    split
    · exact lb
    · exact Rat.le_refl
theorem unmet_up {rows : List Row} (ok : ∀ r ∈ rows, ROk r) (hg : ∀ r ∈ rows, 0 < r.w → r.g ≠ none) {R : Rat} (h : rs (rows.map fun r => (endI true r : Rat)) < R) : (∀ o, ShR rows R o → o = none) ∧ shUp rows R = true := by
  have hb : (bsum rows : Rat) ≤ rs (rows.map fun r => (endI true r : Rat)) := by
    rw [← rs_b, ← rs_congr (f := fun r => sizR r 0) (g := fun r => (r.b : Rat)) fun r hr => siz_zero (ok r hr)]
    exact rs_le fun r hr => siz_le_end (ok r hr) (hg r hr) 0
  refine ⟨fun o ho => ?_, decide_eq_true (by grind)⟩
  cases o with
  | none => rfl
  | some p =>
    have h1 := ho.1
    have h2 := rs_le (xs := rows) (f := fun r => sizR r p) (g := fun r => (endI true r : Rat)) fun r hr => siz_le_end (ok r hr) (hg r hr) p
    rw [h1] at h2
    grind
theorem unmet_dn {rows : List Row} (ok : ∀ r ∈ rows, ROk r) {R : Rat} (h : R < rs (rows.map fun r => (endI false r : Rat))) : (∀ o, ShR rows R o → o = none) ∧ shUp rows R = false := by
  have hb : rs (rows.map fun r => (endI false r : Rat)) ≤ (bsum rows : Rat) := by
    rw [← rs_b, ← rs_congr (f := fun r => sizR r 0) (g := fun r => (r.b : Rat)) fun r hr => siz_zero (ok r hr)]
    exact rs_le fun r hr => end_le_siz (ok r hr) 0
  refine ⟨fun o ho => ?_, decide_eq_false (by grind)⟩
  cases o with
  | none => rfl
  | some p =>
    have h1 := ho.1
    have h2 := rs_le (xs := rows) (f := fun r => (endI false r : Rat)) (g := fun r => sizR r p) fun r hr => end_le_siz (ok r hr) p
    rw [h1] at h2
    grind
theorem endsum_bd {rows : List Row} {up : Bool} (ok : ∀ r ∈ rows, ROk r) (hg : ∀ r ∈ rows, up = true → 0 < r.w → r.g ≠ none) (hl : rows.length ≤ 60) : 0 ≤ (rows.map (endI up)).sum ∧ (rows.map (endI up)).sum ≤ 60000000000000 := by
  have h : 0 ≤ (rows.map (endI up)).sum ∧ (rows.map (endI up)).sum ≤ 1000000000000 * rows.length := by
    clear hl
    induction rows with
    | nil => simp
    | cons r rows ih =>
      have h1 := end_bd (ok r List.mem_cons_self) (up := up) (hg r List.mem_cons_self)
      have := ih (fun x hx => ok x (List.mem_cons_of_mem _ hx)) (fun x hx => hg x (List.mem_cons_of_mem _ hx))
      rw [List.map_cons, List.sum_cons, List.length_cons]
      omega
  omega
theorem siz_nn {r : Row} (h : ROk r) (p : Rat) : 0 ≤ sizR r p := by
  have h1 := (end_bd h (up := false) (fun z => by cases z)).1
  have h2 : ((0 : Int) : Rat) ≤ (endI false r : Rat) := Rat.intCast_le_intCast.mpr h1
  have h3 := end_le_siz h p
  have h4 : ((0 : Int) : Rat) = 0 := rfl
  grind
theorem rs_nn {qs : List Rat} (h : ∀ q ∈ qs, 0 ≤ q) : 0 ≤ rs qs := by
  induction qs with
  | nil => simp [rs_nil]
  | cons q qs ih =>
    rw [rs_cons]
    have h1 := h q List.mem_cons_self
    have h2 := ih fun x hx => h x (List.mem_cons_of_mem _ hx)
    grind
theorem dv_nn {t b : Int} (ht : 0 ≤ t) (hb : 0 < b) : 0 ≤ Rat.divInt t b := by
  have := @dv_lt 0 t b hb
  rw [Int.zero_mul] at this
  have h2 : ¬ (Rat.divInt t b < ((0 : Int) : Rat)) := fun z => by have := this.mp z; omega
  have h3 : ((0 : Int) : Rat) = 0 := rfl
  grind
/-- sizes at one price: within bounds, and so are their sums -/
theorem sizes_ok {rows : List Row} (ok : ∀ r ∈ rows, ROk r) (hl : rows.length ≤ 60) {k : Nat} {p : Rat} (hp : Sz k p) (hk : k ≤ 3900) : EdgOk (rows.map (sizR · p)) ∧ Sz2 (k + 51) k (rs (rows.map (sizR · p))) ∧ 0 ≤ rs (rows.map (sizR · p)) := by
  have h : ∀ q ∈ rows.map (sizR · p), ∃ t : Int, q = Rat.divInt t p.den ∧ Bd (k + 41) t := fun q hq => by
    obtain ⟨r, hr, rfl⟩ := List.mem_map.mp hq
    exact siz_dv (ok r hr) hp
  have hl' : (rows.map (sizR · p)).length ≤ 1000 := by rw [List.length_map]; omega
  refine ⟨EdgOk.ofN (den_ne p) hp.d h hl' hk (by omega), rs_szN (den_ne p) hp.d h hl', rs_nn fun q hq => ?_⟩
  obtain ⟨r, hr, rfl⟩ := List.mem_map.mp hq
  exact siz_nn (ok r hr) p

/-! ### more room: no size less, no price less; one room, one answer -/
theorem siz_mono {r : Row} (h : ROk r) {p q : Rat} (hpq : p ≤ q) : sizR r p ≤ sizR r q := by
  by_cases hq : q < 0
  · have hp : p < 0 := by grind
    rw [siz_neg hp, siz_neg hq]
    have hm := mul_nn h.s0 (p := q - p) (by grind)
    split <;> split <;> grind
  · by_cases hp : p < 0
    · exact Rat.le_trans (siz_le_b h hp) (b_le_siz h hq)
    · have hm := mul_nn h.w0 (p := q - p) (by grind)
      cases hg : r.g with
      | none => rw [siz_pos_none hp hg, siz_pos_none hq hg]; grind
      | some g =>
        rw [siz_pos_some hp hg, siz_pos_some hq hg]
        split <;> split <;> grind
/-- a price as near to nought as can be -/
def NearP (rows : List Row) (p : Rat) : Prop := p = 0 ∨ (0 < p ∧ ∃ r ∈ rows, 0 < r.w ∧ ∀ g, r.g = some g → (r.b : Rat) + (r.w : Rat) * p ≤ (g : Rat)) ∨ (p < 0 ∧ ∃ r ∈ rows, 0 < r.s ∧ (r.l : Rat) ≤ (r.b : Rat) + (r.s : Rat) * p)
theorem rs_lt {α : Type} {f g : α → Rat} {xs : List α} (e : ∀ x ∈ xs, f x ≤ g x) (h : ∃ x ∈ xs, f x < g x) : rs (xs.map f) < rs (xs.map g) := by
  induction xs with
  | nil => obtain ⟨x, hx, _⟩ := h; cases hx
  | cons x xs ih =>
    rw [List.map_cons, List.map_cons, rs_cons, rs_cons]
    have h2 := e x List.mem_cons_self
    have h3 := rs_le (xs := xs) (f := f) (g := g) fun y hy => e y (List.mem_cons_of_mem _ hy)
    obtain ⟨y, hy, hlt⟩ := h
    rcases List.mem_cons.mp hy with rfl | hy
    · grind
    · have h1 := ih (fun y hy => e y (List.mem_cons_of_mem _ hy)) ⟨y, hy, hlt⟩
      grind
theorem near_lt {rows : List Row} (ok : ∀ r ∈ rows, ROk r) {p q : Rat} (hp : NearP rows p) (hq : NearP rows q) (h : q < p) : rs (rows.map (sizR · q)) < rs (rows.map (sizR · p)) := by
  refine rs_lt (fun r hr => siz_mono (ok r hr) (Rat.le_of_lt h)) ?_
  have mlt : ∀ w : Int, 0 < w → (w : Rat) * q < (w : Rat) * p := fun w hw => Rat.mul_lt_mul_of_pos_left h (by exact Rat.intCast_lt_intCast.mpr hw)
  have pneg : ∀ (r : Row), 0 < r.s → (r.l : Rat) ≤ (r.b : Rat) + (r.s : Rat) * q → q < 0 → r ∈ rows → sizR r q < sizR r p := fun r hs hl hq0 hr => by
    rw [siz_neg hq0, if_neg (by grind)]
    have m := mlt r.s hs
    by_cases hp0 : p < 0
    · rw [siz_neg hp0]
      split <;> grind
    · have hb := b_le_siz (ok r hr) hp0
      have m0 : (r.s : Rat) * q < (r.s : Rat) * 0 := Rat.mul_lt_mul_of_pos_left hq0 (by exact Rat.intCast_lt_intCast.mpr hs)
      grind
  rcases hp with rfl | ⟨hp0, r, hr, hw, hg⟩ | ⟨hp0, r, hr, hs, hl⟩
  · rcases hq with rfl | ⟨hq0, _⟩ | ⟨hq0, r, hr, hs, hl⟩
    · grind
    · grind
    · exact ⟨r, hr, pneg r hs hl hq0 hr⟩
  · refine ⟨r, hr, ?_⟩
    have hpn : ¬ p < 0 := by grind
    have e : sizR r p = (r.b : Rat) + (r.w : Rat) * p := by
      cases hgg : r.g with
      | none => exact siz_pos_none hpn hgg
      | some g =>
        have := hg g hgg
        rw [siz_pos_some hpn hgg, if_neg (by grind)]
    rw [e]
    have m := mlt r.w hw
    by_cases hq0 : q < 0
    · have hb := siz_le_b (ok r hr) hq0
      have m0 : (r.w : Rat) * 0 < (r.w : Rat) * p := Rat.mul_lt_mul_of_pos_left hp0 (by exact Rat.intCast_lt_intCast.mpr hw)
      grind
    · cases hgg : r.g with
      | none => rw [siz_pos_none hq0 hgg]; grind
      | some g =>
        rw [siz_pos_some hq0 hgg]
        split <;> grind
  · have hq0 : q < 0 := by grind
    rcases hq with rfl | ⟨h1, _⟩ | ⟨_, r, hr, hs, hl⟩
    · grind
    · grind
    · exact ⟨r, hr, pneg r hs hl hq0 hr⟩
theorem ends_le {r : Row} (h : ROk r) (hg : 0 < r.w → r.g ≠ none) : (endI false r : Rat) ≤ (endI true r : Rat) := Rat.le_trans (end_le_siz h 0) (siz_le_end h hg 0)
/-- two rooms -/
theorem more_room {rows : List Row} (ok : ∀ r ∈ rows, ROk r) {R S : Rat} (hRS : R ≤ S) {o u : Option Rat} (ho : ShR rows R o) (hu : ShR rows S u) :
    (∀ (i : Nat) x y, (shL rows R o)[i]? = some x → (shL rows S u)[i]? = some y → x ≤ y) ∧ (∀ p q, o = some p → u = some q → p ≤ q) := by
  have pr : ∀ p q, o = some p → u = some q → p ≤ q := fun p q e1 e2 => by
    subst e1; subst e2
    by_cases h : q < p
    · have := near_lt ok (p := p) (q := q) ho.2 hu.2 h
      rw [ho.1, hu.1] at this
      grind
    · grind
  refine ⟨fun i x y hx hy => ?_, pr⟩
  have get : ∀ (f : Row → Rat) z, (rows.map f)[i]? = some z → ∃ r, rows[i]? = some r ∧ z = f r := fun f z hz => by
    rw [List.getElem?_map] at hz
    cases e : rows[i]? with
    | none => rw [e] at hz; cases hz
    | some r => rw [e] at hz; exact ⟨r, rfl, (Option.some.inj hz).symm⟩
  cases o with
  | some p =>
    obtain ⟨r, hr, rfl⟩ := get _ _ hx
    have okr := ok r (List.mem_of_getElem? hr)
    cases u with
    | some q =>
      obtain ⟨r', hr', rfl⟩ := get _ _ hy
      rw [hr] at hr'
      cases hr'
      exact siz_mono okr (pr p q rfl rfl)
    | none =>
      obtain ⟨r', hr', rfl⟩ := get _ _ hy
      rw [hr] at hr'
      cases hr'
      rcases hu with ⟨h1, h2, h3⟩ | ⟨h1, h2⟩
      · rw [show shUp rows S = true from decide_eq_true h1]
        exact siz_le_end okr (h2 r (List.mem_of_getElem? hr)) p
      · have h4 := rs_le (xs := rows) (f := fun r => (endI false r : Rat)) (g := fun r => sizR r p) fun r hr => end_le_siz (ok r hr) p
        have h5 := ho.1
        grind
  | none =>
    obtain ⟨r, hr, rfl⟩ := get _ _ hx
    have okr := ok r (List.mem_of_getElem? hr)
    rcases ho with ⟨h1, h2, h3⟩ | ⟨h1, h2⟩
    · obtain ⟨u1, u2⟩ := unmet_up ok h2 (show rs (rows.map fun r => (endI true r : Rat)) < S by grind)
      have := u1 u hu
      subst this
      obtain ⟨r', hr', rfl⟩ := get _ _ hy
      rw [hr] at hr'
      cases hr'
      rw [u2, show shUp rows R = true from decide_eq_true h1]
      exact Rat.le_refl
    · have e0 : shUp rows R = false := decide_eq_false (by grind)
      rw [e0]
      cases u with
      | some q =>
        obtain ⟨r', hr', rfl⟩ := get _ _ hy
        rw [hr] at hr'
        cases hr'
        exact end_le_siz okr q
      | none =>
        obtain ⟨r', hr', rfl⟩ := get _ _ hy
        rw [hr] at hr'
        cases hr'
        rcases hu with ⟨g1, g2, g3⟩ | ⟨g1, g2⟩
        · rw [show shUp rows S = true from decide_eq_true g1]
          exact ends_le okr (g2 r (List.mem_of_getElem? hr))
        · rw [show shUp rows S = false from decide_eq_false (by grind)]
          exact Rat.le_refl
theorem one_room {rows : List Row} (ok : ∀ r ∈ rows, ROk r) {R : Rat} {o u : Option Rat} (ho : ShR rows R o) (hu : ShR rows R u) : o = u := by
  have no : ∀ p, ShR rows R (some p) → ShR rows R none → False := fun p h1 h2 => by
    rcases h2 with ⟨g1, g2, g3⟩ | ⟨g1, g2⟩
    · cases (unmet_up ok g2 g3).1 _ h1
    · cases (unmet_dn ok g2).1 _ h1
  cases o with
  | none => cases u with
    | none => rfl
    | some q => exact (no q hu ho).elim
  | some p => cases u with
    | none => exact (no p ho hu).elim
    | some q =>
      have h1 := (more_room ok Rat.le_refl ho hu).2 p q rfl rfl
      have h2 := (more_room ok Rat.le_refl hu ho).2 q p rfl rfl
      rw [show p = q by grind]
theorem le_q {p q : Rat} : p ≤ q ↔ p.num * q.den ≤ q.num * p.den := Rat.le_iff _ _
theorem dv_sub {s t N : Int} : Rat.divInt s N - Rat.divInt t N = Rat.divInt (s - t) N := by
  rw [Rat.divInt_eq_div, Rat.divInt_eq_div, Rat.divInt_eq_div, Rat.intCast_sub, Rat.div_def, Rat.div_def, Rat.div_def]
  grind
theorem shL_len (rows : List Row) (R : Rat) (o : Option Rat) : (shL rows R o).length = rows.length := by
  cases o <;> simp [shL]
/-- the sizes and what is left, over one bottom -/
theorem shl_edg {rows : List Row} (ok : ∀ r ∈ rows, ROk r) (hl : rows.length ≤ 60) {R : Rat} {o : Option Rat} (h : ShR rows R o) {k m : Nat} (hp : ∀ p, o = some p → Sz k p) (hk : 1 ≤ k) (sR : Sz m R) (hkm : k + m ≤ 3800) :
    EdgOk (shL rows R o ++ [R - rs (shL rows R o)]) ∧ Sz (k + m + 60) (R - rs (shL rows R o)) ∧ ∀ q ∈ shL rows R o, Sz (k + 41) q := by
  obtain ⟨N, hN, bN, hq⟩ := shL_dv ok h hp hk
  have hl' : (shL rows R o).length ≤ 1000 := by rw [shL_len]; omega
  have hs : ∃ T : Int, rs (shL rows R o) = Rat.divInt T N ∧ Bd (k + 51) T := by
    obtain ⟨T, e, hT⟩ := rs_dv (B := 2 ^ (k + 41)) (qs := shL rows R o) (N := N) fun q hq' => by
      obtain ⟨t, e, ht⟩ := hq q hq'
      exact ⟨t, e, Nat.le_of_lt ht⟩
    refine ⟨T, e, Nat.lt_of_le_of_lt hT ?_⟩
    have h2 : (shL rows R o).length * 2 ^ (k + 41) ≤ 1000 * 2 ^ (k + 41) := Nat.mul_le_mul_right _ (by omega)
    have h3 : 2 ^ (k + 51) = 2 ^ (k + 41) * 1024 := by rw [show k + 51 = k + 41 + 10 by omega, Nat.pow_add]
    have h4 : 0 < 2 ^ (k + 41) := Nat.pow_pos (by decide)
    omega
  obtain ⟨T, eT, bT⟩ := hs
  have hD := den_ne R
  have hND : N * R.den ≠ 0 := Int.mul_ne_zero hN hD
  have scale : ∀ t : Int, Rat.divInt t N = Rat.divInt (t * R.den) (N * R.den) := fun t => (Rat.divInt_mul_right hD).symm
  have eR : R = Rat.divInt (R.num * N) (N * R.den) := by
    rw [Int.mul_comm N, Rat.divInt_mul_right hN, Rat.num_divInt_den]
  have eL : R - rs (shL rows R o) = Rat.divInt (R.num * N - T * R.den) (N * R.den) := by
    have e1 : R - rs (shL rows R o) = Rat.divInt (R.num * N) (N * R.den) - Rat.divInt (T * R.den) (N * R.den) := by rw [← eR, eT, scale T]
    rw [e1, dv_sub]
  have bL : Bd (k + m + 52) (R.num * N - T * R.den) := Bd.sub (k := k + m + 51) ((sR.n.mul bN).mono (by omega)) ((bT.mul sR.d).mono (by omega))
  refine ⟨EdgOk.ofN hND (bN.mul sR.d) (k := k + m + 52) (fun q hq' => ?_) (by rw [List.length_append, shL_len]; simp; omega) (by omega) (by omega), ?_, fun q hq' => ?_⟩
  · rcases List.mem_append.mp hq' with h1 | h1
    · obtain ⟨t, e, ht⟩ := hq q h1
      exact ⟨t * R.den, by rw [e, scale], (ht.mul sR.d).mono (by omega)⟩
    · rw [List.mem_singleton.mp h1]
      exact ⟨_, eL, bL⟩
  · rw [eL]
    exact Sz.divInt hND bL (bN.mul sR.d) _
  · obtain ⟨t, e, ht⟩ := hq q hq'
    rw [e]
    exact Sz.divInt hN ht bN _

/-! ### sizes by a price -/
theorem ext_up {rows : List Row} (ok : ∀ r ∈ rows, ROk r) (hg : ∀ r ∈ rows, 0 < r.w → r.g ≠ none) : ∃ p : Rat, 0 ≤ p ∧ ∀ q, p ≤ q → ∀ r ∈ rows, sizR r q = (endI true r : Rat) := by
  induction rows with
  | nil => exact ⟨0, Rat.le_refl, fun _ _ _ h => (nomatch h)⟩
  | cons x rows ih =>
    obtain ⟨p, p0, hp⟩ := ih (fun r hr => ok r (List.mem_cons_of_mem _ hr)) (fun r hr => hg r (List.mem_cons_of_mem _ hr))
    have okx := ok x List.mem_cons_self
    have hgx := hg x List.mem_cons_self
    have w0 := okx.w0
    by_cases hw : 0 < x.w
    · cases e : x.g with
      | none => exact absurd e (hgx hw)
      | some g =>
        have hb := (okx.g0 e).1
        have hb' : (0 : Rat) ≤ ((g - x.b : Int) : Rat) := by
          have : ((0 : Int) : Rat) ≤ ((g - x.b : Int) : Rat) := Rat.intCast_le_intCast.mpr (by omega)
          exact this
        refine ⟨p + ((g - x.b : Int) : Rat), by grind, fun q hq r hr => ?_⟩
        rcases List.mem_cons.mp hr with rfl | hr
        · have q0 : ¬ q < 0 := by grind
          have hge : ((g - r.b : Int) : Rat) ≤ q := by grind
          have h1 : (1 : Rat) ≤ (r.w : Rat) := by
            have : ((1 : Int) : Rat) ≤ (r.w : Rat) := Rat.intCast_le_intCast.mpr (by omega)
            exact this
          have h2 : q ≤ (r.w : Rat) * q := by
            have := Rat.mul_le_mul_of_nonneg_right h1 (c := q) (by grind)
            grind
          rw [siz_pos_some q0 e, endI, if_pos rfl, if_pos hw, e, Option.getD_some]
          rw [Rat.intCast_sub] at hge
          split <;> grind
        · exact hp q (by grind) r hr
    · refine ⟨p, p0, fun q hq r hr => ?_⟩
      rcases List.mem_cons.mp hr with rfl | hr
      · have q0 : ¬ q < 0 := by grind
        have e0 : r.w = 0 := by omega
        have h1 := siz_le_end okx hgx q
        have h2 := b_le_siz okx q0
        have e2 : endI true r = r.b := by rw [endI, if_pos rfl, if_neg hw]
        rw [e2] at h1 ⊢
        grind
      · exact hp q hq r hr
theorem ext_dn {rows : List Row} (ok : ∀ r ∈ rows, ROk r) : ∃ p : Rat, p < 0 ∧ ∀ q, q ≤ p → ∀ r ∈ rows, sizR r q = (endI false r : Rat) := by
  induction rows with
  | nil => exact ⟨-1, by decide, fun _ _ _ h => (nomatch h)⟩
  | cons x rows ih =>
    obtain ⟨p, p0, hp⟩ := ih (fun r hr => ok r (List.mem_cons_of_mem _ hr))
    have okx := ok x List.mem_cons_self
    have s0 := okx.s0
    have lb := okx.lb
    have hb' : (0 : Rat) ≤ ((x.b - x.l : Int) : Rat) := by
      have : ((0 : Int) : Rat) ≤ ((x.b - x.l : Int) : Rat) := Rat.intCast_le_intCast.mpr (by omega)
      exact this
    refine ⟨p - ((x.b - x.l : Int) : Rat), by grind, fun q hq r hr => ?_⟩
    rcases List.mem_cons.mp hr with rfl | hr
    · have q0 : q < 0 := by grind
      have hge : q ≤ -((r.b - r.l : Int) : Rat) := by grind
      have e2 : endI false r = if 0 < r.s then r.l else r.b := by rw [endI, if_neg (by simp)]
      rw [siz_neg q0, e2]
      rw [Rat.intCast_sub] at hge
      by_cases hs : 0 < r.s
      · rw [if_pos (c := 0 < r.s) hs]
        have h1 : (1 : Rat) ≤ (r.s : Rat) := by
          have : ((1 : Int) : Rat) ≤ (r.s : Rat) := Rat.intCast_le_intCast.mpr (by omega)
          exact this
        have h2 : (r.s : Rat) * q ≤ q := by
          have := Rat.mul_le_mul_of_nonneg_right h1 (c := -q) (by grind)
          grind
        split <;> grind
      · rw [if_neg (c := 0 < r.s) hs, show r.s = 0 by omega]
        have : (r.l : Rat) ≤ (r.b : Rat) := Rat.intCast_le_intCast.mpr lb
        split <;> grind
    · exact hp q (by grind) r hr
/-- what share tells are sizes by some price -/
theorem sh_price {rows : List Row} (ok : ∀ r ∈ rows, ROk r) {R : Rat} {o : Option Rat} (h : ShR rows R o) : ∃ p, shL rows R o = rows.map (sizR · p) := by
  cases o with
  | some p => exact ⟨p, rfl⟩
  | none =>
    rcases h with ⟨h1, h2, h3⟩ | ⟨h1, h2⟩
    · obtain ⟨p, _, hp⟩ := ext_up ok h2
      refine ⟨p, ?_⟩
      rw [shL, show shUp rows R = true from decide_eq_true h1]
      exact (List.map_congr_left fun r hr => hp p Rat.le_refl r hr).symm
    · obtain ⟨p, _, hp⟩ := ext_dn ok
      refine ⟨p, ?_⟩
      rw [shL, show shUp rows R = false from decide_eq_false (by grind)]
      exact (List.map_congr_left fun r hr => hp p Rat.le_refl r hr).symm
theorem rs_eq {α : Type} {f g : α → Rat} {xs : List α} (e : ∀ x ∈ xs, f x ≤ g x) (h : rs (xs.map f) = rs (xs.map g)) : ∀ x ∈ xs, f x = g x := fun x hx => by
  by_cases hlt : f x < g x
  · have := rs_lt e ⟨x, hx, hlt⟩
    grind
  · have := e x hx
    grind
/-- a room to which the sizes at a price come -/
theorem sh_met {rows : List Row} (ok : ∀ r ∈ rows, ROk r) {p : Rat} {o : Option Rat} (h : ShR rows (rs (rows.map (sizR · p))) o) : ∃ q, o = some q ∧ NearP rows q ∧ rows.map (sizR · q) = rows.map (sizR · p) := by
  cases o with
  | some q =>
    refine ⟨q, rfl, h.2, List.map_congr_left fun r hr => ?_⟩
    by_cases hpq : p ≤ q
    · exact (rs_eq (xs := rows) (f := fun r => sizR r p) (g := fun r => sizR r q) (fun r hr => siz_mono (ok r hr) hpq) h.1.symm r hr).symm
    · exact rs_eq (xs := rows) (f := fun r => sizR r q) (g := fun r => sizR r p) (fun r hr => siz_mono (ok r hr) (by grind)) h.1 r hr
  | none =>
    rcases h with ⟨h1, h2, h3⟩ | ⟨h1, h2⟩
    · have := rs_le (xs := rows) (f := fun r => sizR r p) (g := fun r => (endI true r : Rat)) fun r hr => siz_le_end (ok r hr) (h2 r hr) p
      grind
    · have := rs_le (xs := rows) (f := fun r => (endI false r : Rat)) (g := fun r => sizR r p) fun r hr => end_le_siz (ok r hr) p
      grind

/-! ### strain -/
def ovG (r : Row) (x : Rat) : Bool := match r.g with | some n => decide ((n : Rat) < x) | none => false
def stO (r : Row) (x : Rat) : Option Rat :=
  if x = (r.b : Rat) then some 0
  else if (r.b : Rat) < x then (if r.w = 0 ∨ ovG r x = true then none else some ((x - r.b) * (x - r.b) / (r.w : Rat)))
  else if r.s = 0 ∨ x < (r.l : Rat) then none else some ((x - r.b) * (x - r.b) / (r.s : Rat))
def stv (r : Row) (x : Rat) : Rat := (stO r x).getD 0
/-- a size that a part can have -/
structure FeR (r : Row) (x : Rat) : Prop where
  lo : (endI false r : Rat) ≤ x
  hi : ∀ e, (if 0 < r.w then r.g else some r.b) = some e → x ≤ (e : Rat)
theorem fe_siz {r : Row} (h : ROk r) (p : Rat) : FeR r (sizR r p) := by
  refine ⟨end_le_siz h p, fun e he => ?_⟩
  by_cases hw : 0 < r.w
  · rw [if_pos hw] at he
    by_cases hp : p < 0
    · have h1 := siz_le_b h hp
      have h2 : (r.b : Rat) ≤ (e : Rat) := Rat.intCast_le_intCast.mpr (h.g0 he).1
      grind
    · rw [siz_pos_some hp he]
      split <;> grind
  · rw [if_neg hw] at he
    have e1 : r.b = e := Option.some.inj he
    subst e1
    have w0 := h.w0
    by_cases hp : p < 0
    · exact siz_le_b h hp
    · have ez : r.w = 0 := by omega
      cases hg : r.g with
      | none => rw [siz_pos_none hp hg, ez]; grind
      | some g =>
        have h2 : (r.b : Rat) ≤ (g : Rat) := Rat.intCast_le_intCast.mpr (h.g0 hg).1
        rw [siz_pos_some hp hg, ez]
        split <;> grind
theorem fe_st {r : Row} (h : ROk r) {x : Rat} (hx : FeR r x) : stO r x ≠ none := by
  have w0 := h.w0
  have s0 := h.s0
  have lo := hx.lo
  unfold endI at lo
  rw [if_neg (by simp)] at lo
  unfold stO
  split
  · simp
  · rename_i hne
    split
    · rename_i hlt
      rw [if_neg]
      · simp
      · rintro (hw | ho)
        · have := hx.hi r.b (by rw [if_neg (by omega)])
          grind
        · unfold ovG at ho
          cases hg : r.g with
          | none => rw [hg] at ho; cases ho
          | some n =>
            rw [hg] at ho
            have ho := of_decide_eq_true ho
            by_cases hw : 0 < r.w
            · have := hx.hi n (by rw [if_pos hw, hg])
              grind
            · have := hx.hi r.b (by rw [if_neg hw])
              grind
    · rename_i hge
      have hlt : x < (r.b : Rat) := by grind
      rw [if_neg]
      · simp
      · rintro (hs | hl)
        · rw [if_neg (by omega)] at lo
          grind
        · by_cases hs : 0 < r.s
          · rw [if_pos hs] at lo
            grind
          · rw [if_neg hs] at lo
            grind
/-- one side: u of a weight a, p or the end t -/
theorem one_side {a p t u : Rat} (ha : 0 < a) (ht : t ≤ a * p) (hc : t = a * p ∨ u ≤ t) (hu : 0 ≤ u) (h0 : 0 ≤ t) : t * t / a + 2 * p * (u - t) ≤ u * u / a ∧ (u ≠ t → t * t / a + 2 * p * (u - t) < u * u / a) := by
  have hne : a ≠ 0 := by grind
  have key : a * (u * u / a - t * t / a - 2 * p * (u - t)) = u * u - t * t - 2 * (a * p) * (u - t) := by
    have e1 : a * (u * u / a) = u * u := by rw [Rat.mul_comm, Rat.div_mul_cancel hne]
    have e2 : a * (t * t / a) = t * t := by rw [Rat.mul_comm, Rat.div_mul_cancel hne]
    grind
  have fin1 : 0 ≤ u * u - t * t - 2 * (a * p) * (u - t) → t * t / a + 2 * p * (u - t) ≤ u * u / a := fun h => by
    by_cases hn : u * u / a - t * t / a - 2 * p * (u - t) < 0
    · have := Rat.mul_lt_mul_of_pos_left hn ha
      rw [Rat.mul_zero] at this
      grind
    · grind
  have fin2 : 0 < u * u - t * t - 2 * (a * p) * (u - t) → t * t / a + 2 * p * (u - t) < u * u / a := fun h => by
    by_cases hn : u * u / a - t * t / a - 2 * p * (u - t) ≤ 0
    · have := Rat.mul_le_mul_of_nonneg_left hn (Rat.le_of_lt ha)
      rw [Rat.mul_zero] at this
      grind
    · grind
  rcases hc with hc | hc
  · have e : u * u - t * t - 2 * (a * p) * (u - t) = (u - t) * (u - t) := by rw [← hc]; grind
    have sq : 0 ≤ (u - t) * (u - t) := by
      by_cases h : 0 ≤ u - t
      · exact Rat.mul_nonneg h h
      · have := Rat.mul_nonneg (a := t - u) (b := t - u) (by grind) (by grind)
        grind
    refine ⟨fin1 (by rw [e]; exact sq), fun hn => fin2 ?_⟩
    rw [e]
    have hz : (u - t) * (u - t) ≠ 0 := fun z => by
      rcases Rat.mul_eq_zero.mp z with z | z <;> exact hn (by grind)
    grind
  · have e : u * u - t * t - 2 * (a * p) * (u - t) = (t - u) * (2 * (a * p) - u - t) := by grind
    have h1 : 0 ≤ t - u := by grind
    have h2 : 0 ≤ 2 * (a * p) - u - t := by grind
    refine ⟨fin1 (by rw [e]; exact Rat.mul_nonneg h1 h2), fun hn => fin2 ?_⟩
    rw [e]
    exact Rat.mul_pos (by grind) (by grind)
/-- the other side -/
theorem far_side {a p t v f : Rat} (ha : 0 < a) (ht : t ≤ a * p) (h0 : 0 ≤ t) (hv : 0 < v) (hp : 0 ≤ p) (hf : 0 < f) : t * t / a - 2 * p * (v + t) < f := by
  have hne : a ≠ 0 := by grind
  have h1 : t * t / a ≤ p * t := by
    have e : t * t / a * a = t * t := Rat.div_mul_cancel hne
    by_cases hn : p * t < t * t / a
    · have h2 := Rat.mul_lt_mul_of_pos_right hn ha
      rw [e] at h2
      have h3 := Rat.mul_le_mul_of_nonneg_right ht h0
      grind
    · grind
  have h2 : 0 ≤ p * t := Rat.mul_nonneg hp h0
  have h3 : 0 ≤ p * v := Rat.mul_nonneg hp (Rat.le_of_lt hv)
  grind
theorem sq_pos {x a : Rat} (hx : x ≠ 0) (ha : 0 < a) : 0 < x * x / a := by
  rw [Rat.div_def]
  refine Rat.mul_pos ?_ (Rat.inv_pos.mpr ha)
  by_cases h : 0 < x
  · exact Rat.mul_pos h h
  · have := Rat.mul_pos (a := -x) (b := -x) (by grind) (by grind)
    grind
theorem stv_b (r : Row) : stv r (r.b : Rat) = 0 := by
  unfold stv stO
  rw [if_pos rfl]
  rfl
theorem stv_up {r : Row} (h : ROk r) {x : Rat} (hx : FeR r x) (hb : (r.b : Rat) ≤ x) (hw : 0 < r.w) : stv r x = (x - r.b) * (x - r.b) / (r.w : Rat) := by
  have hs := fe_st h hx
  unfold stv
  unfold stO at hs ⊢
  by_cases e : x = (r.b : Rat)
  · rw [if_pos e, e]
    have : ((r.b : Rat) - r.b) * ((r.b : Rat) - r.b) = 0 := by grind
    rw [this, Rat.div_def, Rat.zero_mul]
    rfl
  · rw [if_neg e, if_pos (show (r.b : Rat) < x by grind)] at hs ⊢
    by_cases hc : r.w = 0 ∨ ovG r x = true
    · rw [if_pos hc] at hs
      exact absurd rfl hs
    · rw [if_neg hc]
      rfl
theorem stv_dn {r : Row} (h : ROk r) {x : Rat} (hx : FeR r x) (hb : x ≤ (r.b : Rat)) (hw : 0 < r.s) : stv r x = (r.b - x) * (r.b - x) / (r.s : Rat) := by
  have hs := fe_st h hx
  unfold stv
  unfold stO at hs ⊢
  by_cases e : x = (r.b : Rat)
  · rw [if_pos e, e]
    have : ((r.b : Rat) - r.b) * ((r.b : Rat) - r.b) = 0 := by grind
    rw [this, Rat.div_def, Rat.zero_mul]
    rfl
  · rw [if_neg e, if_neg (show ¬ (r.b : Rat) < x by grind)] at hs ⊢
    by_cases hc : r.s = 0 ∨ x < (r.l : Rat)
    · rw [if_pos hc] at hs
      exact absurd rfl hs
    · rw [if_neg hc]
      show (x - r.b) * (x - r.b) / (r.s : Rat) = _
      rw [show (x - (r.b : Rat)) * (x - r.b) = (r.b - x) * (r.b - x) by grind]
theorem fe_up {r : Row} (h : ROk r) {x : Rat} (hx : FeR r x) (hb : (r.b : Rat) < x) : 0 < r.w := by
  have w0 := h.w0
  by_cases hw : 0 < r.w
  · exact hw
  · have := hx.hi r.b (by rw [if_neg hw])
    grind
theorem fe_dn {r : Row} (h : ROk r) {x : Rat} (hx : FeR r x) (hb : x < (r.b : Rat)) : 0 < r.s := by
  by_cases hs : 0 < r.s
  · exact hs
  · have := hx.lo
    unfold endI at this
    rw [if_neg (by simp), if_neg hs] at this
    grind
theorem stv_pos {r : Row} (h : ROk r) {x : Rat} (hx : FeR r x) (hn : x ≠ (r.b : Rat)) : 0 < stv r x := by
  by_cases hb : (r.b : Rat) < x
  · have hw := fe_up h hx hb
    rw [stv_up h hx (by grind) hw]
    exact sq_pos (by grind) (by exact Rat.intCast_lt_intCast.mpr hw)
  · have hs := fe_dn h hx (show x < (r.b : Rat) by grind)
    rw [stv_dn h hx (by grind) hs]
    exact sq_pos (by grind) (by exact Rat.intCast_lt_intCast.mpr hs)
/-- no size strains less than the price tells -/
theorem st_conv {r : Row} (h : ROk r) {p x : Rat} (hx : FeR r x) : stv r (sizR r p) + 2 * p * (x - sizR r p) ≤ stv r x ∧ (x ≠ sizR r p → stv r (sizR r p) + 2 * p * (x - sizR r p) < stv r x) := by
  have hsz := fe_siz h p
  have w0 := h.w0
  have s0 := h.s0
  by_cases hp : p < 0
  · have hle := siz_le_b h hp
    by_cases hs : 0 < r.s
    · have hs' : (0 : Rat) < (r.s : Rat) := by exact Rat.intCast_lt_intCast.mpr hs
      rw [stv_dn h hsz hle hs]
      have ht : (r.b : Rat) - sizR r p ≤ (r.s : Rat) * (-p) := by
        rw [siz_neg hp]
        split <;> grind
      by_cases hb : x ≤ (r.b : Rat)
      · rw [stv_dn h hx hb hs]
        have hc : (r.b : Rat) - sizR r p = (r.s : Rat) * (-p) ∨ (r.b : Rat) - x ≤ (r.b : Rat) - sizR r p := by
          rw [siz_neg hp]
          split
          · have := hx.lo
            unfold endI at this
            rw [if_neg (by simp), if_pos hs] at this
            exact .inr (by grind)
          · exact .inl (by grind)
        obtain ⟨k1, k2⟩ := one_side hs' ht hc (show 0 ≤ (r.b : Rat) - x by grind) (show 0 ≤ (r.b : Rat) - sizR r p by grind)
        refine ⟨by grind, fun hn => ?_⟩
        have := k2 (by grind)
        grind
      · have hb' : (r.b : Rat) < x := by grind
        have f0 := stv_pos h hx (by grind)
        have k := far_side hs' ht (show 0 ≤ (r.b : Rat) - sizR r p by grind) (show 0 < x - (r.b : Rat) by grind) (show 0 ≤ -p by grind) f0
        exact ⟨by grind, fun _ => by grind⟩
    · have e0 : r.s = 0 := by omega
      have es : sizR r p = (r.b : Rat) := by
        have lb : (r.l : Rat) ≤ (r.b : Rat) := Rat.intCast_le_intCast.mpr h.lb
        rw [siz_neg hp, e0]
        split <;> grind
      rw [es, stv_b]
      have hxb : (r.b : Rat) ≤ x := by
        have := hx.lo
        unfold endI at this
        rw [if_neg (by simp), if_neg hs] at this
        exact this
      by_cases e : x = (r.b : Rat)
      · rw [e, stv_b]
        exact ⟨by grind, fun hn => absurd rfl hn⟩
      · have f0 := stv_pos h hx e
        have hm := Rat.mul_nonneg (a := -p) (b := x - r.b) (by grind) (by grind)
        exact ⟨by grind, fun _ => by grind⟩
  · have hle := b_le_siz h hp
    by_cases hw : 0 < r.w
    · have hw' : (0 : Rat) < (r.w : Rat) := by exact Rat.intCast_lt_intCast.mpr hw
      rw [stv_up h hsz hle hw]
      have ht : sizR r p - (r.b : Rat) ≤ (r.w : Rat) * p := by
        cases hg : r.g with
        | none => rw [siz_pos_none hp hg]; grind
        | some g => rw [siz_pos_some hp hg]; split <;> grind
      by_cases hb : (r.b : Rat) ≤ x
      · rw [stv_up h hx hb hw]
        have hc : sizR r p - (r.b : Rat) = (r.w : Rat) * p ∨ x - (r.b : Rat) ≤ sizR r p - (r.b : Rat) := by
          cases hg : r.g with
          | none => rw [siz_pos_none hp hg]; exact .inl (by grind)
          | some g =>
            have hgx := hx.hi g (by rw [if_pos hw, hg])
            rw [siz_pos_some hp hg]
            split
            · exact .inr (by grind)
            · exact .inl (by grind)
        obtain ⟨k1, k2⟩ := one_side hw' ht hc (show 0 ≤ x - (r.b : Rat) by grind) (show 0 ≤ sizR r p - (r.b : Rat) by grind)
        refine ⟨by grind, fun hn => ?_⟩
        have := k2 (by grind)
        grind
      · have hb' : x < (r.b : Rat) := by grind
        have f0 := stv_pos h hx (by grind)
        have k := far_side hw' ht (show 0 ≤ sizR r p - (r.b : Rat) by grind) (show 0 < (r.b : Rat) - x by grind) (show 0 ≤ p by grind) f0
        exact ⟨by grind, fun _ => by grind⟩
    · have e0 : r.w = 0 := by omega
      have es : sizR r p = (r.b : Rat) := by
        have := hsz.hi r.b (by rw [if_neg hw])
        grind
      rw [es, stv_b]
      have hxb : x ≤ (r.b : Rat) := hx.hi r.b (by rw [if_neg hw])
      by_cases e : x = (r.b : Rat)
      · rw [e, stv_b]
        exact ⟨by grind, fun hn => absurd rfl hn⟩
      · have f0 := stv_pos h hx e
        have hm := Rat.mul_nonneg (a := p) (b := r.b - x) (by grind) (by grind)
        exact ⟨by grind, fun _ => by grind⟩
/-- what is paired: rows and sizes -/
def stS (rows : List Row) (xs : List Rat) : Rat := rs ((rows.zip xs).map fun z => stv z.1 z.2)
def FeL (rows : List Row) (xs : List Rat) : Prop := xs.length = rows.length ∧ ∀ z ∈ rows.zip xs, FeR z.1 z.2
theorem stS_conv {rows : List Row} (ok : ∀ r ∈ rows, ROk r) {p : Rat} : ∀ {xs : List Rat}, xs.length = rows.length → (∀ z ∈ rows.zip xs, FeR z.1 z.2) →
    stS rows (rows.map (sizR · p)) + 2 * p * (rs xs - rs (rows.map (sizR · p))) ≤ stS rows xs ∧ (xs ≠ rows.map (sizR · p) → stS rows (rows.map (sizR · p)) + 2 * p * (rs xs - rs (rows.map (sizR · p))) < stS rows xs) := by
  induction rows with
  | nil =>
    intro xs hl _
    have : xs = [] := List.eq_nil_of_length_eq_zero (by simpa using hl)
    subst this
    exact ⟨by simp [stS, rs_nil]; grind, fun h => absurd rfl h⟩
  | cons r rows ih =>
    intro xs hl hf
    cases xs with
    | nil => cases hl
    | cons x xs =>
      obtain ⟨i1, i2⟩ := ih (fun r hr => ok r (List.mem_cons_of_mem _ hr)) (xs := xs) (by simpa using hl) (fun z hz => hf z (by rw [List.zip_cons_cons]; exact List.mem_cons_of_mem _ hz))
      obtain ⟨c1, c2⟩ := st_conv (ok r List.mem_cons_self) (p := p) (hf (r, x) (by rw [List.zip_cons_cons]; exact List.mem_cons_self))
      unfold stS at i1 i2 ⊢
      rw [List.map_cons, List.zip_cons_cons, List.zip_cons_cons, List.map_cons, List.map_cons, rs_cons, rs_cons, rs_cons, rs_cons]
      dsimp only at c1 c2 ⊢
      refine ⟨by grind, fun hn => ?_⟩
      by_cases e : x = sizR r p
      · have := i2 fun z => hn (by rw [e, z])
        grind
      · have := c2 e
        grind

/-! ### sums of strains: how long their numbers are -/
theorem prod_div {T t W w M : Int} (hW : W ≠ 0) (hw : w ≠ 0) : Rat.divInt T (M * W) + Rat.divInt t (M * w) = Rat.divInt (T * w + t * W) (M * (W * w)) := by
  have e1 : Rat.divInt T (M * W) = Rat.divInt (T * w) (M * (W * w)) := by rw [← Int.mul_assoc]; exact (Rat.divInt_mul_right hw).symm
  have e2 : Rat.divInt t (M * w) = Rat.divInt (t * W) (M * (W * w)) := by rw [Int.mul_comm W w, ← Int.mul_assoc]; exact (Rat.divInt_mul_right hW).symm
  rw [e1, e2, dv_add]
theorem rs_ofW {k : Nat} {M : Int} {qs : List Rat} (hM : M ≠ 0) (h : ∀ q ∈ qs, ∃ t w : Int, q = Rat.divInt t (M * w) ∧ w ≠ 0 ∧ Bd 10 w ∧ Bd k t) : ∀ i, i ≤ qs.length → ∃ T W : Int, rs (qs.take i) = Rat.divInt T (M * W) ∧ W ≠ 0 ∧ Bd (10 * i + 1) W ∧ Bd (k + 11 * i + 1) T
  | 0, _ => ⟨0, 1, by rw [Rat.zero_divInt]; rfl, by decide, Bd.of 1 (by decide) (by simp), Bd.of 0 (by decide) (Nat.pow_pos (by decide))⟩
  | i + 1, hi => by
    obtain ⟨T, W, e, hW, bW, bT⟩ := rs_ofW hM h i (by omega)
    have hq : qs[i]? = some qs[i] := List.getElem?_eq_getElem hi
    obtain ⟨t, w, e2, hw, bw, bt⟩ := h _ (List.getElem_mem hi)
    refine ⟨T * w + t * W, W * w, ?_, Int.mul_ne_zero hW hw, (bW.mul bw).mono (by omega), ?_⟩
    · rw [rs_take hq, e, e2, prod_div hW hw]
    · exact (Bd.add (k := k + 11 * i + 11) ((bT.mul bw).mono (by omega)) ((bt.mul bW).mono (by omega))).mono (by omega)
theorem EdgOk.ofW {j k : Nat} {M : Int} {qs : List Rat} (hM : M ≠ 0) (bM : Bd j M) (h : ∀ q ∈ qs, ∃ t w : Int, q = Rat.divInt t (M * w) ∧ w ≠ 0 ∧ Bd 10 w ∧ Bd k t) (hl : qs.length ≤ 61) (hj : j ≤ 3000) (hk : k ≤ 5000) : EdgOk qs where
  ln := by omega
  ok := fun i q hq => by
    have hi : i < qs.length := (List.getElem?_eq_some_iff.mp hq).1
    obtain ⟨T1, W1, e1, h1, b1, c1⟩ := rs_ofW hM h i (by omega)
    obtain ⟨T2, W2, e2, h2, b2, c2⟩ := rs_ofW hM h (i + 1) (by omega)
    obtain ⟨t, w, e3, h3, b3, c3⟩ := h q (List.mem_of_getElem? hq)
    have n1 := Int.mul_ne_zero hM h1
    have n2 := Int.mul_ne_zero hM h2
    have n3 := Int.mul_ne_zero hM h3
    have d1 : Bd (j + 620) (M * W1) := (bM.mul b1).mono (by omega)
    have d2 : Bd (j + 620) (M * W2) := (bM.mul b2).mono (by omega)
    have d3 : Bd (j + 10) (M * w) := bM.mul b3
    rw [e1, e2, e3]
    exact ⟨Sz.divInt n1 c1 d1 100000, Sz.divInt n3 c3 d3 100000, ((d1.le (den_le n1)).mul (d3.le (den_le n3))).mono (by omega), (d2.le (den_le n2)).mono (by omega)⟩
theorem rs_szW {j k : Nat} {M : Int} {qs : List Rat} (hM : M ≠ 0) (bM : Bd j M) (h : ∀ q ∈ qs, ∃ t w : Int, q = Rat.divInt t (M * w) ∧ w ≠ 0 ∧ Bd 10 w ∧ Bd k t) (hl : qs.length ≤ 60) : Sz2 (k + 661) (j + 601) (rs qs) := by
  obtain ⟨T, W, e, h1, b1, c1⟩ := rs_ofW hM h qs.length (Nat.le_refl _)
  rw [List.take_length] at e
  rw [e]
  have n1 := Int.mul_ne_zero hM h1
  exact ⟨(c1.le (num_le n1)).mono (by omega), ((bM.mul b1).le (den_le n1)).mono (by omega)⟩
/-- sizes over one bottom -/
def XOk (xs : List Rat) : Prop := ∃ N : Int, N ≠ 0 ∧ Bd 700 N ∧ ∀ x ∈ xs, ∃ y : Int, x = Rat.divInt y N ∧ Bd 800 y
theorem stv_dv {r : Row} (h : ROk r) {x : Rat} {N y : Int} (hN : N ≠ 0) (bN : Bd 700 N) (hx : x = Rat.divInt y N) (by' : Bd 800 y) : ∃ t w : Int, stv r x = Rat.divInt t (N * N * w) ∧ w ≠ 0 ∧ Bd 10 w ∧ Bd 1610 t := by
  have l0 := h.l0; have lb := h.lb
  have bB : Bd 40 r.b := bd12 (by omega) h.bm
  have hd : x - (r.b : Rat) = Rat.divInt (y - r.b * N) N := by rw [hx, dv_int (n := r.b) hN, dv_sub]
  have bt : Bd 1610 ((y - r.b * N) * (y - r.b * N)) := by
    have b1 : Bd 801 (y - r.b * N) := Bd.sub (k := 800) by' ((bB.mul bN).mono (by decide))
    exact (b1.mul b1).mono (by decide)
  have val : ∀ w : Int, w ≠ 0 → (x - (r.b : Rat)) * (x - r.b) / (w : Rat) = Rat.divInt ((y - r.b * N) * (y - r.b * N)) (N * N * w) := fun w _ => by rw [hd, sq_dv]
  have zero : ∃ t w : Int, (0 : Rat) = Rat.divInt t (N * N * w) ∧ w ≠ 0 ∧ Bd 10 w ∧ Bd 1610 t := ⟨0, 1, by rw [Rat.zero_divInt], by decide, bd1, Bd.of 0 (by decide) (Nat.pow_pos (by decide))⟩
  unfold stv stO
  split
  · exact zero
  · split
    · split
      · exact zero
      · rename_i hc
        have hw : r.w ≠ 0 := fun e => hc (.inl e)
        exact ⟨_, r.w, val r.w hw, hw, bd3 h.w0 h.w1, bt⟩
    · split
      · exact zero
      · rename_i hc
        have hw : r.s ≠ 0 := fun e => hc (.inl e)
        exact ⟨_, r.s, val r.s hw, hw, bd3 h.s0 h.s1, bt⟩
theorem st_edg {rows : List Row} (ok : ∀ r ∈ rows, ROk r) {xs : List Rat} (hx : XOk xs) (hl : rows.length ≤ 60) : EdgOk ((rows.zip xs).map fun z => stv z.1 z.2) ∧ Sz 2300 (stS rows xs) ∧ ∀ x ∈ xs, Sz 800 x := by
  obtain ⟨N, hN, bN, hy⟩ := hx
  have hNN := Int.mul_ne_zero hN hN
  have bNN : Bd 1400 (N * N) := bN.mul bN
  have h : ∀ q ∈ (rows.zip xs).map (fun z => stv z.1 z.2), ∃ t w : Int, q = Rat.divInt t (N * N * w) ∧ w ≠ 0 ∧ Bd 10 w ∧ Bd 1610 t := fun q hq => by
    obtain ⟨z, hz, rfl⟩ := List.mem_map.mp hq
    obtain ⟨y, e, b⟩ := hy z.2 (List.of_mem_zip hz).2
    exact stv_dv (ok z.1 (List.of_mem_zip hz).1) hN bN e b
  have hl' : ((rows.zip xs).map fun z => stv z.1 z.2).length ≤ 60 := by
    rw [List.length_map, List.length_zip]
    omega
  refine ⟨EdgOk.ofW hNN bNN h (by omega) (by decide) (by decide), (rs_szW hNN bNN h hl').sz (by decide) (by decide), fun x hx => ?_⟩
  obtain ⟨y, rfl, b⟩ := hy x hx
  exact Sz.divInt hN b bN 800
/-- the strain of sizes, none where one has none -/
def smO (rows : List Row) (xs : List Rat) : Option Rat := if ∀ z ∈ rows.zip xs, stO z.1 z.2 ≠ none then some (stS rows xs) else none
theorem st_D (r : Row) (x : Rat) : strD r.b r.l (oD r.g) r.w r.s x = shD (stO r x) := by
  have e : gOver (oD r.g) x = ovG r x := by
    unfold gOver ovG
    cases r.g <;> rfl
  unfold strD stO
  rw [e]
  split
  · rfl
  · split
    · split <;> rfl
    · split <;> rfl
theorem smO_fe {rows : List Row} (ok : ∀ r ∈ rows, ROk r) {xs : List Rat} (h : ∀ z ∈ rows.zip xs, FeR z.1 z.2) : smO rows xs = some (stS rows xs) := by
  unfold smO
  rw [if_pos]
  intro z hz
  exact fe_st (ok z.1 (List.of_mem_zip hz).1) (h z hz)

/-! ### some of a size moved to another one -/
def XJ (j m : Nat) (xs : List Rat) : Prop := ∃ N : Int, N ≠ 0 ∧ Bd j N ∧ ∀ x ∈ xs, ∃ y : Int, x = Rat.divInt y N ∧ Bd m y
theorem XJ.x {j m : Nat} {xs : List Rat} (h : XJ j m xs) (hj : j ≤ 700) (hm : m ≤ 800) : XOk xs := by
  obtain ⟨N, hN, bN, hy⟩ := h
  exact ⟨N, hN, bN.mono hj, fun x hx => by
    obtain ⟨y, e, b⟩ := hy x hx
    exact ⟨y, e, b.mono hm⟩⟩
def FeI (rows : List Row) (xs : List Rat) : Prop := xs.length = rows.length ∧ ∀ (i : Nat) r x, rows[i]? = some r → xs[i]? = some x → FeR r x
theorem FeI.z {rows : List Row} {xs : List Rat} (h : FeI rows xs) : ∀ z ∈ rows.zip xs, FeR z.1 z.2 := fun z hz => by
  obtain ⟨i, hi⟩ := List.mem_iff_getElem?.mp hz
  rw [List.getElem?_zip_eq_some] at hi
  exact h.2 i z.1 z.2 hi.1 hi.2
theorem rs_set {xs : List Rat} {i : Nat} {x v : Rat} (h : xs[i]? = some x) : rs (xs.set i v) = rs xs - x + v := by
  induction xs generalizing i with
  | nil => simp at h
  | cons a xs ih =>
    cases i with
    | zero =>
      cases h
      rw [List.set_cons_zero, rs_cons, rs_cons]
      grind
    | succ i =>
      have h' : xs[i]? = some x := by simpa using h
      rw [List.set_cons_succ, rs_cons, rs_cons, ih h']
      grind
def hiO (r : Row) : Option Int := if 0 < r.w then r.g else some r.b
theorem shift_ok {rows : List Row} {xs : List Rat} (fe : FeI rows xs) {i k : Nat} (hik : i ≠ k) {ri rk : Row} {xi xk S : Rat} (hri : rows[i]? = some ri) (hrk : rows[k]? = some rk) (hxi : xs[i]? = some xi) (hxk : xs[k]? = some xk)
    (s0 : 0 ≤ S) (s1 : (endI false ri : Rat) ≤ xi - S) (s2 : ∀ e, hiO rk = some e → xk + S ≤ (e : Rat)) : FeI rows ((xs.set i (xi - S)).set k (xk + S)) ∧ rs ((xs.set i (xi - S)).set k (xk + S)) = rs xs := by
  have hxk' : (xs.set i (xi - S))[k]? = some xk := by rw [List.getElem?_set_ne hik]; exact hxk
  have li : i < xs.length := (List.getElem?_eq_some_iff.mp hxi).1
  have lk : k < xs.length := (List.getElem?_eq_some_iff.mp hxk).1
  refine ⟨⟨by simp [fe.1], fun n r x hr hx => ?_⟩, ?_⟩
  · by_cases hn : n = k
    · subst hn
      rw [List.getElem?_set_self (by simpa using lk)] at hx
      cases hx
      rw [hrk] at hr
      cases hr
      have f := fe.2 n rk xk hrk hxk
      exact ⟨by have := f.lo; grind, fun e he => s2 e he⟩
    · rw [List.getElem?_set_ne (fun e => hn e.symm)] at hx
      by_cases hn2 : n = i
      · subst hn2
        rw [List.getElem?_set_self li] at hx
        cases hx
        rw [hri] at hr
        cases hr
        have f := fe.2 n ri xi hri hxi
        exact ⟨s1, fun e he => by have := f.hi e he; grind⟩
      · rw [List.getElem?_set_ne (fun e => hn2 e.symm)] at hx
        exact fe.2 n r x hr hx
  · rw [rs_set hxk', rs_set hxi]
    grind
/-- the new bottoms -/
theorem shift_XJ {j m : Nat} {xs : List Rat} (h : XJ j m xs) (hm : j + 40 ≤ m) {i k : Nat} {xi xk F : Rat} {pa kk : Int} (hxi : xs[i]? = some xi) (hxk : xs[k]? = some xk) (p0 : 0 < kk) (bp : Bd 5 pa) (bk : Bd 5 kk)
    (hF : (∃ l : Int, Bd 40 l ∧ F = xi - (l : Rat)) ∨ ∃ l : Int, Bd 40 l ∧ F = (l : Rat) - xk) : XJ (j + 5) (m + 7) ((xs.set i (xi - F * pa / kk)).set k (xk + F * pa / kk)) ∧ Bd (j + 5) ((F * pa / kk).den : Int) ∧ Bd (j + 5) (xk.den : Int) := by
  obtain ⟨N, hN, bN, hy⟩ := h
  obtain ⟨yi, ei, bi⟩ := hy xi (List.mem_of_getElem? hxi)
  obtain ⟨yk, ek, bk'⟩ := hy xk (List.mem_of_getElem? hxk)
  have hkk : kk ≠ 0 := by omega
  have hNk : N * kk ≠ 0 := Int.mul_ne_zero hN hkk
  have eF : ∃ f : Int, F = Rat.divInt f N ∧ Bd (m + 1) f := by
    rcases hF with ⟨l, bl, e⟩ | ⟨l, bl, e⟩
    · exact ⟨yi - l * N, by rw [e, ei, dv_int (n := l) hN, dv_sub], Bd.sub (k := m) bi ((bl.mul bN).mono (by omega))⟩
    · exact ⟨l * N - yk, by rw [e, ek, dv_int (n := l) hN, dv_sub], Bd.sub (k := m) ((bl.mul bN).mono (by omega)) bk'⟩
  obtain ⟨f, ef, bf⟩ := eF
  have eS : F * pa / kk = Rat.divInt (f * pa) (N * kk) := by
    rw [ef, Rat.divInt_eq_div, Rat.divInt_eq_div, Rat.intCast_mul, Rat.intCast_mul, Rat.div_def, Rat.div_def, Rat.div_def, Rat.inv_mul_rev]
    grind
  have sc : ∀ y : Int, Rat.divInt y N = Rat.divInt (y * kk) (N * kk) := fun y => (Rat.divInt_mul_right hkk).symm
  have bS : Bd (m + 6) (f * pa) := (bf.mul bp).mono (by omega)
  refine ⟨⟨N * kk, hNk, bN.mul bk, fun x hx => ?_⟩, by rw [eS]; exact (bN.mul bk).le (den_le hNk), by rw [ek]; exact (bN.le (den_le hN)).mono (by omega)⟩
  rcases List.mem_or_eq_of_mem_set hx with hx | rfl
  · rcases List.mem_or_eq_of_mem_set hx with hx | rfl
    · obtain ⟨y, e, b⟩ := hy x hx
      exact ⟨y * kk, by rw [e, sc], (b.mul bk).mono (by omega)⟩
    · exact ⟨yi * kk - f * pa, by rw [eS, ei, sc, dv_sub], (Bd.sub (k := m + 6) ((bi.mul bk).mono (by omega)) bS).mono (by omega)⟩
  · exact ⟨yk * kk + f * pa, by rw [eS, ek, sc, dv_add], (Bd.add (k := m + 6) ((bk'.mul bk).mono (by omega)) bS).mono (by omega)⟩
theorem frac_le {F : Rat} {pa kk : Int} (hF : 0 ≤ F) (p0 : 0 < pa) (pk : pa ≤ kk) : 0 ≤ F * pa / kk ∧ F * pa / kk ≤ F := by
  have hk0 : (0 : Int) < kk := by omega
  have hp0 : (0 : Int) ≤ pa := by omega
  have hk : (0 : Rat) < (kk : Rat) := by exact Rat.intCast_lt_intCast.mpr hk0
  have hp : (0 : Rat) ≤ (pa : Rat) := by exact Rat.intCast_le_intCast.mpr hp0
  have hpk : (pa : Rat) ≤ (kk : Rat) := Rat.intCast_le_intCast.mpr pk
  have hne : (kk : Rat) ≠ 0 := by grind
  have e : F * pa / kk * kk = F * pa := Rat.div_mul_cancel hne
  have h1 := Rat.mul_nonneg hF hp
  have h2 := Rat.mul_le_mul_of_nonneg_left hpk hF
  constructor
  · by_cases h : F * pa / kk < 0
    · have := Rat.mul_lt_mul_of_pos_right h hk
      grind
    · grind
  · by_cases h : F < F * pa / kk
    · have := Rat.mul_lt_mul_of_pos_right h hk
      grind
    · grind
theorem step_dv (F : Rat) {pa kk : Int} (hk : kk ≠ 0) : Rat.divInt (F.num * pa) (F.den * kk) = F * pa / kk := by
  have e := Rat.num_divInt_den F
  rw [Rat.divInt_eq_div, Rat.div_def] at e
  rw [Rat.divInt_eq_div, Rat.intCast_mul, Rat.intCast_mul, Rat.div_def, Rat.div_def, Rat.inv_mul_rev]
  conv => rhs; rw [← e]
  grind
theorem XJ.sz {j m : Nat} {xs : List Rat} (h : XJ j m xs) {x : Rat} (hx : x ∈ xs) : Sz (j + m) x := by
  obtain ⟨N, hN, bN, hy⟩ := h
  obtain ⟨y, rfl, b⟩ := hy x hx
  exact Sz.divInt hN b bN _

/-! ### what a run costs -/
theorem hi_fat {r : Row} (ok : ROk r) : fatD r.b (oD r.g) r.w = oD (if 0 < r.w then r.g else some r.b) := by
  have w0 := ok.w0
  unfold fatD
  by_cases h : r.w = 0
  · rw [if_pos h, if_neg (by omega)]; rfl
  · rw [if_neg h, if_pos (by omega)]
theorem end_lean {r : Row} (ok : ROk r) : endI false r = leanI r.b r.l r.s := by
  have s0 := ok.s0
  unfold endI leanI
  rw [if_neg (by simp)]
  by_cases h : r.s = 0
  · rw [if_pos h, if_neg (by omega)]
  · rw [if_neg h, if_pos (by omega)]
def shX (r : Row) (sp m : Int) : Rat := shQ sp m (fatD r.b (oD r.g) r.w)
theorem dv_mul {sp m : Int} (hm : 0 < m) : (m : Rat) * Rat.divInt sp m = (sp : Rat) := by
  rw [Rat.divInt_eq_div, Rat.div_def]
  have h : (m : Rat) ≠ 0 := by
    intro h
    have := Rat.intCast_inj.mp (h.trans Rat.intCast_zero.symm)
    omega
  rw [Rat.mul_comm (sp : Rat), ← Rat.mul_assoc, Rat.mul_inv_cancel _ h, Rat.one_mul]
theorem shX_or {r : Row} (ok : ROk r) (sp m : Int) : (∃ f, (if 0 < r.w then r.g else some r.b) = some f ∧ m * f < sp ∧ shX r sp m = (f : Rat)) ∨ ((∀ f, (if 0 < r.w then r.g else some r.b) = some f → sp ≤ m * f) ∧ shX r sp m = Rat.divInt sp m) := by
  unfold shX
  rw [hi_fat ok]
  cases (if 0 < r.w then r.g else some r.b) with
  | none => exact .inr ⟨fun f h => (nomatch h), rfl⟩
  | some f =>
    show (∃ f', some f = some f' ∧ m * f' < sp ∧ (if m * f < sp then (f : Rat) else Rat.divInt sp m) = (f' : Rat)) ∨ ((∀ f', some f = some f' → sp ≤ m * f') ∧ (if m * f < sp then (f : Rat) else Rat.divInt sp m) = Rat.divInt sp m)
    by_cases h : m * f < sp
    · exact .inl ⟨f, rfl, h, if_pos h⟩
    · exact .inr ⟨fun f' e => by cases e; omega, if_neg h⟩
theorem hi_b {r : Row} (ok : ROk r) {f : Int} (h : (if 0 < r.w then r.g else some r.b) = some f) : r.b ≤ f := by
  by_cases hw : 0 < r.w
  · rw [if_pos hw] at h
    exact (ok.g0 h).1
  · rw [if_neg hw] at h
    cases h
    exact Int.le_refl _
theorem rat_mul_le {m : Int} (hm : 0 < m) {x y : Rat} (h : (m : Rat) * x ≤ (m : Rat) * y) : x ≤ y := by
  have hm' : (0 : Rat) < (m : Rat) := Rat.intCast_lt_intCast.mpr hm
  by_cases hc : x ≤ y
  · exact hc
  · have h4 : 0 < (m : Rat) * (x - y) := Rat.mul_pos hm' (by grind)
    grind
theorem shX_fe {r : Row} (ok : ROk r) {sp m : Int} (hm : 0 < m) (hl : m * leanI r.b r.l r.s ≤ sp) : FeR r (shX r sp m) := by
  have lb : leanI r.b r.l r.s ≤ r.b := by
    have := ok.lb
    unfold leanI
    split <;> omega
  rcases shX_or ok sp m with ⟨f, hf, h1, e⟩ | ⟨h1, e⟩
  · have hb := hi_b ok hf
    rw [e]
    refine ⟨?_, fun g hg => ?_⟩
    · rw [end_lean ok]
      exact Rat.intCast_le_intCast.mpr (by omega)
    · rw [hf] at hg
      cases hg
      exact Rat.le_refl
  · rw [e]
    refine ⟨?_, fun g hg => ?_⟩
    · rw [end_lean ok]
      apply rat_mul_le hm
      rw [dv_mul hm, ← Rat.intCast_mul]
      exact Rat.intCast_le_intCast.mpr hl
    · apply rat_mul_le hm
      rw [dv_mul hm, ← Rat.intCast_mul]
      exact Rat.intCast_le_intCast.mpr (h1 g hg)
theorem stv_hi {r : Row} (ok : ROk r) {x : Rat} (fe : FeR r x) (h : (r.b : Rat) < x) : r.w ≠ 0 ∧ stv r x = (x - r.b) * (x - r.b) / (r.w : Rat) := by
  have h1 := fe_st ok fe
  unfold stv
  unfold stO at h1 ⊢
  rw [if_neg (by grind), if_pos h] at h1 ⊢
  by_cases hc : r.w = 0 ∨ ovG r x = true
  · rw [if_pos hc] at h1
    exact absurd rfl h1
  · rw [if_neg hc]
    exact ⟨fun e => hc (.inl e), rfl⟩
theorem stv_lo {r : Row} (ok : ROk r) {x : Rat} (fe : FeR r x) (h : x < (r.b : Rat)) : r.s ≠ 0 ∧ stv r x = (x - r.b) * (x - r.b) / (r.s : Rat) := by
  have h1 := fe_st ok fe
  unfold stv
  unfold stO at h1 ⊢
  rw [if_neg (by grind), if_neg (by grind)] at h1 ⊢
  by_cases hc : r.s = 0 ∨ x < (r.l : Rat)
  · rw [if_pos hc] at h1
    exact absurd rfl h1
  · rw [if_neg hc]
    exact ⟨fun e => hc (.inl e), rfl⟩
theorem stv_at {r : Row} {x : Rat} (h : x = (r.b : Rat)) : stv r x = 0 := by
  unfold stv stO
  rw [if_pos h]
  rfl
/-- what m blanks cost that share a space -/
def shcQ (r : Row) (sp m : Int) : Rat := if m = 0 then ((sp * sp : Int) : Rat) else m * stv r (shX r sp m) + (sp - m * shX r sp m) * (sp - m * shX r sp m)
def wtI (r : Row) (gap : Int) : Int := if 1 < (if gap < 0 then r.s else r.w) then (if gap < 0 then r.s else r.w) else 1
theorem wt_pos (r : Row) (gap : Int) : 0 < wtI r gap := by
  unfold wtI
  split <;> split <;> omega
theorem frac_add {G L m W : Rat} (hm : m ≠ 0) (hW : W ≠ 0) : (G + L * m * W) / (m * W) = G / (m * W) + L := by
  grind
theorem frac_sq {d m W : Rat} (hm : m ≠ 0) (hW : W ≠ 0) : m * (d * d / W) = (m * d) * (m * d) / (m * W) := by
  grind
theorem shc_gen {r : Row} (ok : ROk r) {m gap left : Int} {x : Rat} (hm : 0 < m) (fe : FeR r x) (hx : (m : Rat) * (x - r.b) = (gap : Rat)) : (m : Rat) * stv r x + (left : Rat) * (left : Rat) = Rat.divInt (gap * gap + left * left * m * wtI r gap) (m * wtI r gap) := by
  have w0 := ok.w0
  have s0 := ok.s0
  have hm' : (0 : Rat) < (m : Rat) := Rat.intCast_lt_intCast.mpr hm
  have hW := wt_pos r gap
  have hW' : (0 : Rat) < (wtI r gap : Rat) := Rat.intCast_lt_intCast.mpr hW
  have n1 : (m : Rat) ≠ 0 := by grind
  have n2 : (wtI r gap : Rat) ≠ 0 := by grind
  rw [Rat.divInt_eq_div, Rat.intCast_add, Rat.intCast_mul, Rat.intCast_mul, Rat.intCast_mul, Rat.intCast_mul, Rat.intCast_mul, frac_add n1 n2]
  have key : (m : Rat) * stv r x = (gap : Rat) * (gap : Rat) / ((m : Rat) * (wtI r gap : Rat)) := by
    by_cases h1 : x = (r.b : Rat)
    · have g0 : (gap : Rat) = 0 := by rw [← hx, h1]; grind
      rw [stv_at h1, g0]
      grind
    by_cases h2 : (r.b : Rat) < x
    · obtain ⟨hw, e⟩ := stv_hi ok fe h2
      have gp : ¬ gap < 0 := fun h => by
        have h3 : (gap : Rat) < 0 := Rat.intCast_lt_intCast.mpr h
        have h4 : 0 < (m : Rat) * (x - r.b) := Rat.mul_pos hm' (by grind)
        grind
      have ew : wtI r gap = r.w := by
        unfold wtI
        rw [if_neg gp]
        split <;> omega
      have n3 : (r.w : Rat) ≠ 0 := by rw [← ew]; exact n2
      rw [e, ew, frac_sq n1 n3, hx]
    · have h3 : x < (r.b : Rat) := by grind
      obtain ⟨hw, e⟩ := stv_lo ok fe h3
      have gp : gap < 0 := by
        have h4 : 0 < (m : Rat) * (r.b - x) := Rat.mul_pos hm' (by grind)
        have h5 : (gap : Rat) < ((0 : Int) : Rat) := by
          show (gap : Rat) < 0
          rw [← hx]
          grind
        exact Rat.intCast_lt_intCast.mp h5
      have ew : wtI r gap = r.s := by
        unfold wtI
        rw [if_pos gp]
        split <;> omega
      have n3 : (r.s : Rat) ≠ 0 := by rw [← ew]; exact n2
      rw [e, ew, frac_sq n1 n3, hx]
  rw [key]
theorem shc_fat {r : Row} (ok : ROk r) {sp m f : Int} (hm : 0 < m) (hl : m * leanI r.b r.l r.s ≤ sp) (hf : (if 0 < r.w then r.g else some r.b) = some f) (h : m * f < sp) : shcQ r sp m = Rat.divInt (m * (f - r.b) * (m * (f - r.b)) + (sp - m * f) * (sp - m * f) * m * wtI r (m * (f - r.b))) (m * wtI r (m * (f - r.b))) := by
  have e : shX r sp m = (f : Rat) := by
    rcases shX_or ok sp m with ⟨f', hf', h1, e⟩ | ⟨h1, e⟩
    · rw [hf] at hf'
      cases hf'
      exact e
    · have := h1 f hf
      omega
  have fe := shX_fe ok hm hl
  rw [e] at fe
  rw [← shc_gen ok (left := sp - m * f) hm fe (by rw [Rat.intCast_mul, Rat.intCast_sub])]
  unfold shcQ
  rw [if_neg (by omega), e, Rat.intCast_sub, Rat.intCast_mul]
theorem shc_even {r : Row} (ok : ROk r) {sp m : Int} (hm : 0 < m) (hl : m * leanI r.b r.l r.s ≤ sp) (h : ∀ f, (if 0 < r.w then r.g else some r.b) = some f → sp ≤ m * f) : shcQ r sp m = Rat.divInt ((sp - m * r.b) * (sp - m * r.b) + 0 * 0 * m * wtI r (sp - m * r.b)) (m * wtI r (sp - m * r.b)) := by
  have e : shX r sp m = Rat.divInt sp m := by
    rcases shX_or ok sp m with ⟨f', hf', h1, e⟩ | ⟨h1, e⟩
    · have := h f' hf'
      omega
    · exact e
  have fe := shX_fe ok hm hl
  rw [e] at fe
  have hd := dv_mul (sp := sp) hm
  rw [← shc_gen ok (left := 0) hm fe (by rw [Rat.intCast_sub, Rat.intCast_mul]; grind)]
  unfold shcQ
  rw [if_neg (by omega), e, hd]
  show _ = _ + (0 : Rat) * 0
  grind
theorem shX_sz {r : Row} (ok : ROk r) {sp m : Int} (hm : 0 < m) (hm2 : m ≤ 200) (h0 : 0 ≤ sp) (h1 : sp ≤ 1000000000000000) : Sz2 60 8 (shX r sp m) := shQ_sz hm hm2 (by omega) h1 (fat_or ok)
theorem stv_sz {r : Row} (ok : ROk r) {x : Rat} (sx : Sz 700 x) : Sz 1620 (stv r x) := by
  obtain ⟨t, w, e, hw, bw, bt⟩ := stv_dv ok (den_ne x) sx.d (Rat.num_divInt_den x).symm (sx.n.mono (by decide))
  have hn : (x.den : Int) * x.den * w ≠ 0 := Int.mul_ne_zero (Int.mul_ne_zero (den_ne x) (den_ne x)) hw
  rw [e]
  exact ⟨Bd.le (bt.mono (by decide)) (num_le hn), Bd.le (((sx.d.mul sx.d).mul bw).mono (by decide)) (den_le hn)⟩
theorem left_sz {r : Row} (ok : ROk r) {sp m : Int} (hm : 0 < m) (hm2 : m ≤ 200) (h0 : 0 ≤ sp) (h1 : sp ≤ 1000000000000000) : Sz 8 (m : Rat) ∧ Sz 60 (shX r sp m) ∧ Sz 70 ((m : Rat) * shX r sp m) ∧ Sz 60 (sp : Rat) ∧ Sz 140 ((sp : Rat) - m * shX r sp m) ∧ Sz 1620 (stv r (shX r sp m)) ∧ Sz 1630 (m * stv r (shX r sp m)) := by
  have a : Sz 8 (m : Rat) := Sz.int (Bd.of 200 (by omega))
  have b : Sz 60 (shX r sp m) := (shX_sz ok hm hm2 h0 h1).sz (by decide) (by decide)
  have c : Sz 70 ((m : Rat) * shX r sp m) := (a.mul b).mono (by decide)
  have d : Sz 60 (sp : Rat) := Sz.int (Bd.of 1000000000000000 (by omega))
  have f : Sz 1620 (stv r (shX r sp m)) := stv_sz ok (b.mono (by decide))
  exact ⟨a, b, c, d, (d.sub c).mono (by decide), f, (a.mul f).mono (by decide)⟩
theorem shc_sz {r : Row} (ok : ROk r) {sp m : Int} (hm : 0 ≤ m) (hm2 : m ≤ 200) (h0 : 0 ≤ sp) (h1 : sp ≤ 1000000000000000) : Sz 2000 (shcQ r sp m) := by
  unfold shcQ
  by_cases h : m = 0
  · rw [if_pos h]
    have d : Bd 60 sp := Bd.of 1000000000000000 (by omega)
    exact (Sz.int (d.mul d)).mono (by decide)
  · rw [if_neg h]
    obtain ⟨_, _, _, _, e, _, g⟩ := left_sz ok (by omega) hm2 h0 h1
    exact (g.add (e.mul e)).mono (by decide)
/-- what a run costs -/
def cstO (r : Row) (so m room : Int) (last alone : Bool) : Option Rat :=
  if last = true ∧ so + m * r.b ≤ room then some 0
  else if so + m * leanI r.b r.l r.s ≤ room then some (shcQ r (room - so) m)
  else if alone = true then some ((10000000000000000000000000000000000000000 + (so + m * leanI r.b r.l r.s - room) * (so + m * leanI r.b r.l r.s - room) : Int) : Rat) else none

abbrev s_shared_cost : Stmt := top 28
theorem sc_shared_cost : FnScope ["space", "many", "blank", "size", "left"] ["space", "many", "blank"] (defScope s_shared_cost) := ⟨rfl, rfl, rfl, by decide +kernel, rfl, by decide +kernel, by decide +kernel⟩
def sp_shared_cost (C : Addr) : Sp := fun vs H Q _ => ∃ F M u, ∃ (sp m : Int) (r : Row), vs = [.int sp, .int m, u] ∧ Wf F H M ∧ Kn F u (prtR C r) ∧ ROk r ∧ 0 ≤ sp ∧ sp ≤ 1000000000000000 ∧ 0 ≤ m ∧ m ≤ 200 ∧ m * leanI r.b r.l r.s ≤ sp ∧ ∀ v H', Wf ((v, frq (shcQ r sp m)) :: F) H' M → Q v H'
theorem n_sharedcost {C : Addr} {F : List (V × D)} {H : Hp} {M : List ME} {u : V} {sp m : Int} {r : Row} {Q : VK} {E : XK} (w : Wf F H M) (hu : Kn F u (prtR C r)) (ok : ROk r) (s0 : 0 ≤ sp) (s1 : sp ≤ 1000000000000000) (m0 : 0 ≤ m) (m1 : m ≤ 200) (hl : m * leanI r.b r.l r.s ≤ sp) (q : ∀ v H', Wf ((v, frq (shcQ r sp m)) :: F) H' M → Q v H') : sp_shared_cost C ([.int sp, .int m, u] ++ []) H Q E := ⟨F, M, u, sp, m, r, rfl, w, hu, ok, s0, s1, m0, m1, hl, q⟩
theorem n_plusC {F : List (V × D)} {H : Hp} {M : List ME} {u v : V} {p q : Rat} {Q : VK} {E : XK} {j k : Nat} (w : Wf F H M) (hu : Kn F u (frq p)) (hv : Kn F v (frq q)) (hp : Sz j p) (hq : Sz k q) (h3 : j + k ≤ 8000) (f : ∀ r H', Wf ((r, frq (p + q)) :: F) H' M → Q r H') : sp_plus ([u, v] ++ []) H Q E := by
  obtain ⟨I, Mc, w, is, _, up⟩ := w.old
  exact use_plus w (is _ _ hu) (is _ _ hv) hp hq (by omega) (by omega) ((hp.d.mul hq.d).mono (by omega)) fun r J H' s w' h => f r H' (up J H' r _ s w' h)
theorem n_minusC {F : List (V × D)} {H : Hp} {M : List ME} {u v : V} {p q : Rat} {Q : VK} {E : XK} {j k : Nat} (w : Wf F H M) (hu : Kn F u (frq p)) (hv : Kn F v (frq q)) (hp : Sz j p) (hq : Sz k q) (h3 : j + k ≤ 8000) (f : ∀ r H', Wf ((r, frq (p - q)) :: F) H' M → Q r H') : sp_minus ([u, v] ++ []) H Q E := by
  obtain ⟨I, Mc, w, is, _, up⟩ := w.old
  exact use_minus w (is _ _ hu) (is _ _ hv) hp hq (by omega) (by omega) ((hp.d.mul hq.d).mono (by omega)) fun r J H' s w' h => f r H' (up J H' r _ s w' h)
theorem n_timesC {F : List (V × D)} {H : Hp} {M : List ME} {u v : V} {p q : Rat} {Q : VK} {E : XK} {j k : Nat} (w : Wf F H M) (hu : Kn F u (frq p)) (hv : Kn F v (frq q)) (hp : Sz j p) (hq : Sz k q) (h3 : j + k ≤ 8000) (f : ∀ r H', Wf ((r, frq (p * q)) :: F) H' M → Q r H') : sp_times ([u, v] ++ []) H Q E := by
  obtain ⟨I, Mc, w, is, _, up⟩ := w.old
  exact use_times w (is _ _ hu) (is _ _ hv) hp hq (by omega) (by omega) ((hp.d.mul hq.d).mono (by omega)) fun r J H' s w' h => f r H' (up J H' r _ s w' (by rw [← mul_dv]; exact h))
theorem n_strainatC {C : Addr} {F : List (V × D)} {H : Hp} {M : List ME} {u v : V} {r : Row} {x : Rat} {Q : VK} {E : XK} (ww : Wf F H M) (hu : Kn F u (prtR C r)) (hv : Kn F v (frq x)) (ok : ROk r) (fe : FeR r x) (hx : Sz 3000 x) (q : ∀ o H', Wf ((o, frq (stv r x)) :: F) H' M → Q o H') : sp_Part_strain_at C (u :: ([v] ++ [])) H Q E := by
  obtain ⟨I, Mc, ww, is, _, up⟩ := ww.old
  have e : shD (stO r x) = frq (stv r x) := by
    have := fe_st ok fe
    unfold stv
    cases h : stO r x with
    | none => exact absurd h this
    | some y => rfl
  exact use_strain_at ww (is _ _ hu) (is _ _ hv) ok hx fun v J H' s w' h => q v H' (up J H' v _ s w' (by rw [← e, ← st_D]; exact h))

theorem ok_shared_cost {f : Addr} {fd : FuncData} (F : Fun K "shared_cost" "shared_cost" s_shared_cost f fd) (B : Bn mg) (c_blank_size : Cal P wd K mg base "blank_size" 3 ["space", "many", "blank"] [] (sp_blank_size C_Part)) (c_minus : Cal P wd K mg base "minus" 3 ["one", "other"] [] sp_minus) (c_times : Cal P wd K mg base "times" 3 ["one", "other"] [] sp_times) (c_plus : Cal P wd K mg base "plus" 3 ["one", "other"] [] sp_plus) (t_Part_strain_at : Met P wd K mg base "strain_at" C_Part 4 ["self", "size"] [] (sp_Part_strain_at C_Part)) (o_Part : OwnC K C_Part) (n_Part : ∀ f ∈ (["base", "least", "greatest", "grow", "shrink"] : List Str), NoAttr K C_Part f)  : FnOk P wd K mg base CX0 5 f fd ["space", "many", "blank"] (sp_shared_cost C_Part) := by
  refine F.ok sc_shared_cost (fun vs H Q E h => ?_) (fun cdv A outer s H vs Q E hr h => ?_)
  · obtain ⟨F, M, u, sp, m, r, rfl, w, hu, ok, s0, s1, m0, m1, hl, k⟩ := h
    all_goals rfl
  · obtain ⟨F, M, u, sp, m, r, rfl, w, hu, ok, s0, s1, m0, m1, hl, k⟩ := h
    refine ⟨_, (pss_cons (ps_if (pt_cmpR (k_eq (K := K) rfl hr.units) (pv 1) pe_int (nomark _)) (pss_one (ps_ret (pe_tup (pa_cons (pe_op uo_mul (pv 0) (pv 0)) (pa_cons pe_int pa_nil))))) pss_nil)
      (pss_cons (ps_set (i := 3) sc_shared_cost.nd rfl (Or.inl rfl) (pe_cal c_blank_size (hr.mono (by decide)) (by rfl) (pa_cons (pv 0) (pa_cons (pv 1) (pa_cons (pv 2) pa_nil)))))
      (pss_cons (ps_set (i := 4) sc_shared_cost.nd rfl (Or.inl rfl) (pe_cal c_minus (hr.mono (by decide)) (by rfl) (pa_cons (pe_tup (pa_cons (pv 0) (pa_cons pe_int pa_nil))) (pa_cons (pe_cal c_times (hr.mono (by decide)) (by rfl) (pa_cons (pe_tup (pa_cons (pv 1) (pa_cons pe_int pa_nil))) (pa_cons (pv 3) pa_nil))) pa_nil))))
      (pss_one (ps_ret (pe_cal c_plus (hr.mono (by decide)) (by rfl) (pa_cons (pe_cal c_times (hr.mono (by decide)) (by rfl) (pa_cons (pe_tup (pa_cons (pv 1) (pa_cons pe_int pa_nil))) (pa_cons (pe_met (pv 2) t_Part_strain_at (hr.mono (by decide)) (pa_cons (pv 3) pa_nil)) pa_nil))) (pa_cons (pe_cal c_times (hr.mono (by decide)) (by rfl) (pa_cons (pv 4) (pa_cons (pv 4) pa_nil))) pa_nil)))))))), ?_⟩
    try dsimp only [cxOf, Cx.nox, Cx.wish, Cx.blk]
    have hu' : Rk F M u (prtR C_Part r) := Rk.of hu fun q => by rcases q with ⟨n, e⟩ | ⟨n, e⟩ <;> cases e
    wtm_at "n"
    wtm_at "fork"
    · rename_i hm
      wtm_at "n"
      refine s_mul (cm64 (by omega) (by omega) (by omega) (by omega)) ?_
      wtm_at "n"
      rename_i t2 H5 w
      refine k _ _ ?_
      unfold shcQ
      rw [if_pos hm]
      exact w
    · rename_i hm
      have hp : 0 < m := by omega
      have fe := shX_fe ok hp hl
      obtain ⟨z1, z2, z3, z4, z5, z6, z7⟩ := left_sz ok hp m1 s0 s1
      wtm_at "n"
      refine n_blank_size w hu' ok hp m1 fun sv H1 w => ?_
      have w : Wf ((sv, frq (shX r sp m)) :: F) H1 M := w
      wtm_at "n"
      rename_i p1 Ha w1 p2 Hb w
      refine n_timesC (p := (m : Rat)) (q := shX r sp m) w (.mem List.mem_cons_self) (.mem (by simp)) z1 z2 (by decide) fun t1 H2 w => ?_
      wtm_at "n"
      refine n_minusC (p := (sp : Rat)) (q := (m : Rat) * shX r sp m) w (.mem (by simp)) (.mem List.mem_cons_self) z4 z3 (by decide) fun lf H3 w => ?_
      have w : Wf ((lf, frq ((sp : Rat) - m * shX r sp m)) :: (sv, frq (shX r sp m)) :: F) H3 M := w.sub (.cons (.mem List.mem_cons_self) (KS.refl.drop.drop.drop.drop)) (.refl _)
      wtm_at "n"
      rename_i p3 Hc w
      refine n_strainatC (r := r) (x := shX r sp m) w hu.more.more.more (.mem (by simp)) ok fe (z2.mono (by decide)) fun st H4 w => ?_
      wtm_at "n"
      refine n_timesC (p := (m : Rat)) (q := stv r (shX r sp m)) w (.mem (List.mem_cons_of_mem _ List.mem_cons_self)) (.mem List.mem_cons_self) z1 z6 (by decide) fun t2 H5 w => ?_
      wtm_at "n"
      refine n_timesC (p := (sp : Rat) - m * shX r sp m) (q := (sp : Rat) - m * shX r sp m) w (.mem (by simp)) (.mem (by simp)) z5 z5 (by decide) fun t3 H6 w => ?_
      wtm_at "n"
      refine n_plusC (p := m * stv r (shX r sp m)) (q := ((sp : Rat) - m * shX r sp m) * ((sp : Rat) - m * shX r sp m)) w (.mem (List.mem_cons_of_mem _ List.mem_cons_self)) (.mem List.mem_cons_self) z7 (z5.mul z5) (by decide) fun t4 H7 w => ?_
      refine k _ _ ?_
      unfold shcQ
      rw [if_neg hm]
      exact w.sub (.cons (.mem List.mem_cons_self) (KS.refl.drop.drop.drop.drop.drop.drop.drop)) (.refl _)
abbrev s_cost_of : Stmt := top 29
theorem sc_cost_of : FnScope ["solid", "many", "blank", "room", "last", "alone", "lean"] ["solid", "many", "blank", "room", "last", "alone"] (defScope s_cost_of) := ⟨rfl, rfl, rfl, by decide +kernel, rfl, by decide +kernel, by decide +kernel⟩
def sp_cost_of (C : Addr) : Sp := fun vs H Q _ => ∃ F M u, ∃ (so m room : Int) (last alone : Bool) (r : Row), vs = [.int so, .int m, u, .int room, .bl last, .bl alone] ∧ Wf F H M ∧ Kn F u (prtR C r) ∧ ROk r ∧ 0 ≤ so ∧ so ≤ 1000000000000000 ∧ 0 ≤ m ∧ m ≤ 200 ∧ 0 ≤ room ∧ room ≤ 1000000000000 ∧ ∀ v H', Wf ((v, shD (cstO r so m room last alone)) :: F) H' M → Q v H'
theorem n_costof {C : Addr} {F : List (V × D)} {H : Hp} {M : List ME} {u : V} {so m room : Int} {last alone : Bool} {r : Row} {Q : VK} {E : XK} (w : Wf F H M) (hu : Kn F u (prtR C r)) (ok : ROk r) (s0 : 0 ≤ so) (s1 : so ≤ 1000000000000000) (m0 : 0 ≤ m) (m1 : m ≤ 200) (r0 : 0 ≤ room) (r1 : room ≤ 1000000000000) (q : ∀ v H', Wf ((v, shD (cstO r so m room last alone)) :: F) H' M → Q v H') : sp_cost_of C ([.int so, .int m, u, .int room, .bl last, .bl alone] ++ []) H Q E := ⟨F, M, u, so, m, room, last, alone, r, rfl, w, hu, ok, s0, s1, m0, m1, r0, r1, q⟩

theorem ok_cost_of {f : Addr} {fd : FuncData} (F : Fun K "cost_of" "cost_of" s_cost_of f fd) (B : Bn mg) (c_leanest : Cal P wd K mg base "leanest" 1 ["blank"] [] (sp_leanest C_Part)) (c_shared_cost : Cal P wd K mg base "shared_cost" 5 ["space", "many", "blank"] [] (sp_shared_cost C_Part)) (o_Part : OwnC K C_Part) (n_Part : ∀ f ∈ (["base", "least", "greatest", "grow", "shrink"] : List Str), NoAttr K C_Part f) (g_ALONE : ∃ t, mg "ALONE" = some (.int 10000000000000000000000000000000000000000 t))  : FnOk P wd K mg base CX0 6 f fd ["solid", "many", "blank", "room", "last", "alone"] (sp_cost_of C_Part) := by
  refine F.ok sc_cost_of (fun vs H Q E h => ?_) (fun cdv A outer s H vs Q E hr h => ?_)
  · obtain ⟨F, M, u, so, m, room, last, alone, r, rfl, w, hu, ok, s0, s1, m0, m1, r0, r1, k⟩ := h
    all_goals rfl
  · obtain ⟨F, M, u, so, m, room, last, alone, r, rfl, w, hu, ok, s0, s1, m0, m1, r0, r1, k⟩ := h
    refine ⟨_, (pss_cons (ps_if (pw_and (pt_val (pv 4)) (pw_and1 (pt_cmpR op_le (pe_op (k_add (K := K) rfl) (pv 0) (pe_op uo_mul (pv 1) (kpe_fld (K := K) rfl (pv 2) rfl))) (pv 3) (nomark _)))).pt (pss_one (ps_ret (pe_tup (pa_cons pe_int (pa_cons pe_int pa_nil))))) pss_nil)
      (pss_cons (ps_set (i := 6) sc_cost_of.nd rfl (Or.inl rfl) (pe_op (k_add (K := K) rfl) (pv 0) (pe_op uo_mul (pv 1) (pe_cal c_leanest (hr.mono (by decide)) (by rfl) (pa_cons (pv 2) pa_nil)))))
      (pss_cons (ps_if (pt_cmpR op_le (pv 6) (pv 3) (nomark _)) (pss_one (ps_ret (pe_cal c_shared_cost (hr.mono (by decide)) (by rfl) (pa_cons (pe_op op_sub (pv 3) (pv 0)) (pa_cons (pv 1) (pa_cons (pv 2) pa_nil)))))) pss_nil)
      (pss_cons (ps_if (pt_val (pv 5)) (pss_one (ps_ret (pe_tup (pa_cons (pe_op (k_add (K := K) rfl) (pe_globI (by rfl) g_ALONE) (pe_op uo_mul (pe_op op_sub (pv 6) (pv 3)) (pe_op op_sub (pv 6) (pv 3)))) (pa_cons pe_int pa_nil))))) pss_nil)
      (pss_one (ps_ret pe_non)))))), ?_⟩
    try dsimp only [cxOf, Cx.nox, Cx.wish, Cx.blk]
    have hu' : Rk F M u (prtR C_Part r) := Rk.of hu fun q => by rcases q with ⟨n, e⟩ | ⟨n, e⟩ <;> cases e
    obtain ⟨l0, l1⟩ := lean_bd ok
    have b1 := ok.bm; have b2 := ok.lb; have b3 := ok.l0
    have p0 : 0 ≤ m * leanI r.b r.l r.s := Int.mul_nonneg m0 l0
    have p1 : m * leanI r.b r.l r.s ≤ 200 * 1000000000000 := Int.mul_le_mul m1 l1 l0 (by decide)
    cases last
    · wtm_at "n"
      refine n_leanest w hu' ?_
      wtm_at "n"
      refine s_mul (cm64 (by omega) (by omega) (by omega) (by omega)) ?_
      wtm_at "n"
      wtm_at "fork"
      · rename_i hfit
        have e : cstO r so m room false alone = some (shcQ r (room - so) m) := by
          unfold cstO
          rw [if_neg (fun h => (nomatch h.1)), if_pos hfit]
        rw [e] at k
        wtm_at "n"
        refine n_sharedcost w hu ok (by omega) (by omega) m0 m1 (by omega) fun v H1 w => ?_
        exact k _ _ w
      · rename_i hfit
        have e : cstO r so m room false alone = if alone = true then some ((10000000000000000000000000000000000000000 + (so + m * leanI r.b r.l r.s - room) * (so + m * leanI r.b r.l r.s - room) : Int) : Rat) else none := by
          unfold cstO
          rw [if_neg (fun h => (nomatch h.1)), if_neg hfit]
        rw [e] at k
        cases alone
        · wtm_at "n"
          exact k _ _ (w.sub (.cons .non KS.refl) (.refl _))
        · wtm_at "n"
          refine s_mul (cm64 (by omega) (by omega) (by omega) (by omega)) ?_
          wtm_at "n"
          rename_i t2 H5 w
          exact k _ _ w
    · wtm_at "n"
      refine s_mul (cm64 (by omega) (by omega) (by omega) (by omega)) ?_
      wtm_at "n"
      wtm_at "fork"
      · rename_i hb
        wtm_at "n"
        rename_i t2 H5 w
        have e : cstO r so m room true alone = some 0 := by
          unfold cstO
          rw [if_pos ⟨rfl, hb⟩]
        rw [e] at k
        exact k _ _ w
      · rename_i hb
        wtm_at "n"
        refine n_leanest w hu' ?_
        wtm_at "n"
        refine s_mul (cm64 (by omega) (by omega) (by omega) (by omega)) ?_
        wtm_at "n"
        wtm_at "fork"
        · rename_i hfit
          have e : cstO r so m room true alone = some (shcQ r (room - so) m) := by
            unfold cstO
            rw [if_neg (fun h => hb h.2), if_pos hfit]
          rw [e] at k
          wtm_at "n"
          refine n_sharedcost w hu ok (by omega) (by omega) m0 m1 (by omega) fun v H1 w => ?_
          exact k _ _ w
        · rename_i hfit
          have e : cstO r so m room true alone = if alone = true then some ((10000000000000000000000000000000000000000 + (so + m * leanI r.b r.l r.s - room) * (so + m * leanI r.b r.l r.s - room) : Int) : Rat) else none := by
            unfold cstO
            rw [if_neg (fun h => hb h.2), if_neg hfit]
          rw [e] at k
          cases alone
          · wtm_at "n"
            exact k _ _ (w.sub (.cons .non KS.refl) (.refl _))
          · wtm_at "n"
            refine s_mul (cm64 (by omega) (by omega) (by omega) (by omega)) ?_
            wtm_at "n"
            rename_i t2 H5 w
            exact k _ _ w
abbrev s_look_list : Stmt := top 31
theorem sc_look_list : FnScope ["things", "place", "least", "most"] ["things", "place", "least", "most"] (defScope s_look_list) := ⟨rfl, rfl, rfl, by decide +kernel, rfl, by decide +kernel, by decide +kernel⟩
def sp_look_list : Sp := fun vs H Q _ => ∃ F M v ds, ∃ at' l m : Int, vs = [v, .int at', .int l, .int m] ∧ Wf F H M ∧ Rk F M v (.lst ds) ∧ l ≤ ds.length ∧ (ds.length : Int) ≤ m ∧ Q .non H
theorem n_looklist {F : List (V × D)} {H : Hp} {M : List ME} {v : V} {ds : List D} {at' l m : Int} {Q : VK} {E : XK} (w : Wf F H M) (hv : Rk F M v (.lst ds)) (h1 : l ≤ ds.length) (h2 : (ds.length : Int) ≤ m) (q : Q .non H) : sp_look_list ([v, .int at', .int l, .int m] ++ []) H Q E := ⟨F, M, v, ds, at', l, m, rfl, w, hv, h1, h2, q⟩

theorem ok_look_list {f : Addr} {fd : FuncData} (F : Fun K "look_list" "look_list" s_look_list f fd) (B : Bn mg)  : FnOk P wd K mg base CX0 1 f fd ["things", "place", "least", "most"] sp_look_list := by
  refine F.ok sc_look_list (fun vs H Q E h => ?_) (fun cdv A outer s H vs Q E hr h => ?_)
  · obtain ⟨F, M, v, ds, at', l, m, rfl, w, hv, h1, h2, k⟩ := h
    all_goals rfl
  · obtain ⟨F, M, v, ds, at', l, m, rfl, w, hv, h1, h2, k⟩ := h
    refine ⟨_, (pss_cons (ps_if (pw_or (pt_not (pt_val (pe_callB (k_isi (K := K) rfl) (by rfl) B.isinstance_ (by decide +kernel) (pa_cons (pv 0) (pa_cons (pe_bltn (v := .ty "list") (by rfl) B.list_ (by decide +kernel) rfl) pa_nil))))) (pw_or1 (pt_cmpR op_lt (pe_callB (k_len (K := K) rfl) (by rfl) B.len_ (by decide +kernel) (pa_cons (pv 0) pa_nil)) (pv 2) (nomark _)))).pt pss_never pss_nil)
      (pss_one (ps_if (pt_cmpR op_gt (pe_callB (k_len (K := K) rfl) (by rfl) B.len_ (by decide +kernel) (pa_cons (pv 0) pa_nil)) (pv 3) (nomark _)) pss_never pss_nil))), ?_⟩
    try dsimp only [cxOf, Cx.nox, Cx.wish, Cx.blk]
    wtm_at "n"
    refine s_iteDn (by omega) ?_
    wtm_at "n"
    refine s_iteDn (by omega) ?_
    wtm_at "n"
    exact k
/-! ### ways: nodes, steps, prices -/
abbrev Nd := Int × Int
structure Wgr where
  st : Nd → List (Rat × Nd)
  fin : Nd → Bool
def stD (s : Rat × Nd) : D := .tup [frq s.1, nD s.2]
def oqD : Option Rat → D
  | none => .non
  | some q => frq q
def bestO : Option Rat → Option Rat → Option Rat
  | b, none => b
  | none, some x => some x
  | some y, some x => if x < y then some x else some y
def leastP (l : List (Option Rat)) : Option Rat := l.foldl bestO none
def addO (c : Rat) (o : Option Rat) : Option Rat := o.map (c + ·)
def prF (g : Wgr) : Nat → Nd → Option Rat
  | 0, n => if g.fin n then some 0 else none
  | k + 1, n => if g.fin n then some 0 else leastP ((g.st n).map fun s => addO s.1 (prF g k s.2))
inductive Reach (g : Wgr) : Nd → Prop
  | z : Reach g (0, 0)
  | s {n : Nd} {s : Rat × Nd} : Reach g n → g.fin n = false → s ∈ g.st n → Reach g s.2
structure WgOk (g : Wgr) (U : List Nd) (M k : Nat) : Prop where
  u0 : (0, 0) ∈ U
  go : ∀ n ∈ U, g.fin n = false → ∀ s ∈ g.st n, s.2 ∈ U ∧ n.1 < s.2.1
  lo : ∀ n ∈ U, 0 ≤ n.1 ∧ n.1 ≤ M
  sz : ∀ n ∈ U, ∀ s ∈ g.st n, Sz2 2000 k s.1
  tot : (U.map fun n => (g.st n).length).sum ≤ 5000000
  ul : U.length ≤ 90000
  hk : (k + 1) * (M + 2) ≤ 3500
theorem Reach.inU {g : Wgr} {U : List Nd} {M k : Nat} (ok : WgOk g U M k) {n : Nd} (h : Reach g n) : n ∈ U := by
  induction h with
  | z => exact ok.u0
  | s _ h1 h2 ih => exact (ok.go _ ih h1 _ h2).1
/-! the least of some -/
theorem leastP_snoc (l : List (Option Rat)) (o : Option Rat) : leastP (l ++ [o]) = bestO (leastP l) o := by simp [leastP, List.foldl_append]
theorem leastP_or : ∀ (l : List (Option Rat)) (b : Option Rat), (∀ q, l.foldl bestO b = some q → some q ∈ l ∨ b = some q) ∧ (∀ x, (some x ∈ l ∨ b = some x) → ∃ q, l.foldl bestO b = some q ∧ q ≤ x)
  | [], b => ⟨fun q h => .inr h, fun x h => by
      rcases h with h | h
      · cases h
      · exact ⟨x, h, Rat.le_refl⟩⟩
  | o :: l, b => by
    obtain ⟨i1, i2⟩ := leastP_or l (bestO b o)
    rw [List.foldl_cons]
    refine ⟨fun q h => ?_, fun x h => ?_⟩
    · rcases i1 q h with h | h
      · exact .inl (List.mem_cons_of_mem _ h)
      · cases o with
        | none => cases b <;> exact .inr h
        | some y =>
          cases b with
          | none => exact .inl (by rw [show some y = some q from h]; exact List.mem_cons_self)
          | some z =>
            by_cases c : y < z
            · have : some y = some q := by simpa [bestO, c] using h
              exact .inl (by rw [this]; exact List.mem_cons_self)
            · have : some z = some q := by simpa [bestO, c] using h
              exact .inr this
    · have key : ∀ y, bestO b o = some y → y ≤ x → ∃ q, l.foldl bestO (bestO b o) = some q ∧ q ≤ x := fun y e hy => by
        obtain ⟨q, h1, h2⟩ := i2 y (.inr e)
        exact ⟨q, h1, Rat.le_trans h2 hy⟩
      rcases h with h | h
      · rcases List.mem_cons.mp h with h | h
        · cases o with
          | none => cases h
          | some y =>
            cases h
            cases b with
            | none => exact key x rfl Rat.le_refl
            | some z =>
              by_cases c : x < z
              · exact key x (by simp [bestO, c]) Rat.le_refl
              · exact key z (by simp [bestO, c]) (by grind)
        · exact i2 x (.inl h)
      · subst h
        cases o with
        | none => exact key x rfl Rat.le_refl
        | some y =>
          by_cases c : y < x
          · exact key y (by simp [bestO, c]) (by grind)
          · exact key x (by simp [bestO, c]) Rat.le_refl
theorem leastP_mem {l : List (Option Rat)} {q : Rat} (h : leastP l = some q) : some q ∈ l := by
  rcases (leastP_or l none).1 q h with h | h
  · exact h
  · cases h
theorem leastP_le {l : List (Option Rat)} {x : Rat} (h : some x ∈ l) : ∃ q, leastP l = some q ∧ q ≤ x := (leastP_or l none).2 x (.inl h)
section
variable {g : Wgr} {U : List Nd} {M k : Nat}
theorem prF_fuel (ok : WgOk g U M k) : ∀ (i j : Nat) {n : Nd}, n ∈ U → (M : Int) - n.1 < i → (M : Int) - n.1 < j → prF g i n = prF g j n
  | 0, j, n, hn, h1, h2 => by have := ok.lo n hn; omega
  | i + 1, 0, n, hn, h1, h2 => by have := ok.lo n hn; omega
  | i + 1, j + 1, n, hn, h1, h2 => by
    unfold prF
    by_cases hf : g.fin n = true
    · rw [if_pos hf, if_pos hf]
    · rw [if_neg hf, if_neg hf]
      congr 1
      apply List.map_congr_left
      intro s hs
      have := ok.go n hn (by simpa using hf) s hs
      rw [prF_fuel ok i j this.1 (by omega) (by omega)]
/-- the price of a node -/
def prc (g : Wgr) (M : Nat) (n : Nd) : Option Rat := prF g (M + 1) n
theorem prc_end {n : Nd} (h : g.fin n = true) : prc g M n = some 0 := by unfold prc prF; rw [if_pos h]
theorem prc_eq (ok : WgOk g U M k) {n : Nd} (hn : n ∈ U) (h : g.fin n = false) : prc g M n = leastP ((g.st n).map fun s => addO s.1 (prc g M s.2)) := by
  show prF g (M + 1) n = _
  unfold prF
  rw [if_neg (by simp [h])]
  congr 1
  apply List.map_congr_left
  intro s hs
  have h1 := ok.go n hn h s hs
  have h2 := ok.lo n hn
  show addO s.1 (prF g M s.2) = addO s.1 (prF g (M + 1) s.2)
  rw [prF_fuel ok M (M + 1) h1.1 (by omega) (by omega)]
theorem Sz2.zero {j k : Nat} (hj : 0 < j) (hk : 0 < k) : Sz2 j k 0 := ⟨Bd.of 0 (by simp) (Nat.two_pow_pos _), Bd.of 1 (by simp) (by
  have : 2 ^ 1 ≤ 2 ^ k := Nat.pow_le_pow_right (by decide) hk
  omega)⟩
theorem prF_sz (ok : WgOk g U M k) : ∀ (i : Nat) {n : Nd} {q : Rat}, n ∈ U → prF g i n = some q → Sz2 (2002 + (k + 1) * i) (k * i + 1) q
  | 0, n, q, hn, h => by
    unfold prF at h
    split at h
    · cases h; exact Sz2.zero (by omega) (by omega)
    · cases h
  | i + 1, n, q, hn, h => by
    unfold prF at h
    split at h
    · cases h; exact Sz2.zero (by omega) (by omega)
    · rename_i hf
      have hm := leastP_mem h
      obtain ⟨s, hs, e⟩ := List.mem_map.mp hm
      cases hp : prF g i s.2 with
      | none => rw [hp] at e; cases e
      | some p =>
        rw [hp] at e
        cases e
        have h1 := ok.go n hn (by simpa using hf) s hs
        have h2 := prF_sz ok i h1.1 hp
        have h3 := ok.sz n hn s hs
        have e1 : (k + 1) * (i + 1) = (k + 1) * i + k + 1 := by rw [Nat.mul_add]; omega
        have e2 : k * (i + 1) = k * i + k := by rw [Nat.mul_add]; omega
        have e3 : k * i ≤ (k + 1) * i := Nat.mul_le_mul_right _ (by omega)
        exact (h3.add h2 (2002 + (k + 1) * (i + 1)) (by omega) (by omega)).mono (Nat.le_refl _) (by omega)
theorem prc_sz (ok : WgOk g U M k) {n : Nd} {q : Rat} (hn : n ∈ U) (h : prc g M n = some q) : Sz2 6000 3600 q := by
  have h1 := prF_sz ok _ hn h
  have h2 := ok.hk
  have e3 : k * (M + 1) ≤ (k + 1) * (M + 1) := Nat.mul_le_mul_right _ (by omega)
  have e4 : (k + 1) * (M + 1) ≤ (k + 1) * (M + 2) := Nat.mul_le_mul_left _ (by omega)
  exact h1.mono (by omega) (by omega)
theorem WgOk.k_le (ok : WgOk g U M k) : k ≤ 3500 := by
  have h := ok.hk
  have : (k + 1) * 1 ≤ (k + 1) * (M + 2) := Nat.mul_le_mul_left _ (by omega)
  omega
end
/-! tables by nodes -/
def tabN (f : Nd → D) (ns : List Nd) : List (List Key × D) := ns.map fun n => (ndK n, f n)
theorem ndK_inj {a b : Nd} (h : ndK a = ndK b) : a = b := by
  obtain ⟨a1, a2⟩ := a
  obtain ⟨b1, b2⟩ := b
  unfold ndK at h
  injection h with h1 h2
  injection h2 with h2 _
  cases h1
  cases h2
  rfl
theorem tab_get {f : Nd → D} {ns : List Nd} {n : Nd} : getP (tabN f ns) (ndK n) = if n ∈ ns then some (f n) else none := by
  induction ns with
  | nil => rfl
  | cons m ns ih =>
    unfold getP tabN at *
    rw [List.map_cons, List.find?_cons]
    by_cases e : m = n
    · subst e
      simp
    · have : ¬ ndK m = ndK n := fun h => e (ndK_inj h)
      simp only [this, decide_false, ih]
      by_cases hm : n ∈ ns
      · simp [hm]
      · simp [hm, Ne.symm e]
theorem tab_in {f : Nd → D} {ns : List Nd} {n : Nd} (h : n ∈ ns) : getP (tabN f ns) (ndK n) = some (f n) := by rw [tab_get, if_pos h]
theorem tab_any {f : Nd → D} {ns : List Nd} {n : Nd} (h : n ∉ ns) : ((tabN f ns).any fun kv => decide (kv.1 = ndK n)) = false := by
  unfold tabN
  rw [List.any_map, List.any_eq_false]
  intro m hm
  have : ¬ ndK m = ndK n := fun e => h (ndK_inj e ▸ hm)
  simp [Function.comp, this]
theorem tab_new {f : Nd → D} {ns : List Nd} {n : Nd} {d : D} (h : n ∉ ns) : putP (tabN f ns) (ndK n) d = tabN f ns ++ [(ndK n, d)] := by
  unfold putP
  rw [tab_any h]
  simp
theorem tab_again {f : Nd → D} {ns : List Nd} {n : Nd} {d d0 : D} (h : n ∉ ns) : putP (tabN f ns ++ [(ndK n, d0)]) (ndK n) d = tabN f ns ++ [(ndK n, d)] := by
  unfold putP
  rw [List.any_append, tab_any h]
  simp only [List.any_cons, decide_true, List.any_nil, Bool.or_false, Bool.false_or, if_true, List.map_append, List.map_cons, List.map_nil]
  congr 1
  unfold tabN
  rw [List.map_map]
  apply List.map_congr_left
  intro m hm
  have : ¬ ndK m = ndK n := fun e => h (ndK_inj e ▸ hm)
  simp [Function.comp, this]
theorem tab_snoc {f : Nd → D} {ns : List Nd} {n : Nd} : tabN f (ns ++ [n]) = tabN f ns ++ [(ndK n, f n)] := by unfold tabN; rw [List.map_append]; rfl
theorem tab_keys {f : Nd → D} {ns : List Nd} : (tabN f ns).map (·.1) = ns.map ndK := by unfold tabN; rw [List.map_map]; rfl
theorem tab_len {f : Nd → D} {ns : List Nd} : (tabN f ns).length = ns.length := by unfold tabN; rw [List.length_map]
/-! which nodes are reached -/
def fdD (g : Wgr) (n : Nd) : D := if g.fin n = true then .non else .lst ((g.st n).map stD)
structure StK (g : Wgr) (U ns wt : List Nd) : Prop where
  nd : ns.Nodup
  rn : ∀ n ∈ ns, Reach g n
  rw : ∀ n ∈ wt, Reach g n
  cl : ∀ n ∈ ns, g.fin n = false → ∀ s ∈ g.st n, s.2 ∈ ns ∨ s.2 ∈ wt
  z : (0, 0) ∈ ns ∨ (0, 0) ∈ wt
def restN (g : Wgr) (U ns : List Nd) : Nat := ((U.filter fun n => decide (n ∉ ns)).map fun n => (g.st n).length).sum
section
variable {g : Wgr} {U ns wt : List Nd} {M k : Nat} {n : Nd}
theorem StK.start : StK g U [] [(0, 0)] := ⟨List.nodup_nil, fun _ h => (nomatch h), fun n h => by rw [List.mem_singleton.mp h]; exact .z, fun _ h => (nomatch h), .inr List.mem_cons_self⟩
theorem StK.skip (h : StK g U ns (wt ++ [n])) (hn : n ∈ ns) : StK g U ns wt := ⟨h.nd, h.rn, fun m hm => h.rw m (List.mem_append_left _ hm), fun m hm hf s hs => by
  rcases h.cl m hm hf s hs with q | q
  · exact .inl q
  · rcases List.mem_append.mp q with q | q
    · exact .inr q
    · exact .inl (List.mem_singleton.mp q ▸ hn), by
  rcases h.z with q | q
  · exact .inl q
  · rcases List.mem_append.mp q with q | q
    · exact .inr q
    · exact .inl (List.mem_singleton.mp q ▸ hn)⟩
theorem StK.more {es : List Nd} (h : StK g U ns (wt ++ [n])) (hn : n ∉ ns) (he : ∀ m ∈ es, Reach g m) (hc : g.fin n = false → ∀ s ∈ g.st n, s.2 ∈ es) : StK g U (ns ++ [n]) (wt ++ es) := ⟨List.nodup_append.mpr ⟨h.nd, by simp, fun a ha b hb e => hn (by rw [List.mem_singleton.mp hb] at e; exact e ▸ ha)⟩, fun m hm => by
  rcases List.mem_append.mp hm with hm | hm
  · exact h.rn m hm
  · rw [List.mem_singleton.mp hm]; exact h.rw n (List.mem_append_right _ List.mem_cons_self), fun m hm => by
  rcases List.mem_append.mp hm with hm | hm
  · exact h.rw m (List.mem_append_left _ hm)
  · exact he m hm, fun m hm hf s hs => by
  rcases List.mem_append.mp hm with hm | hm
  · rcases h.cl m hm hf s hs with q | q
    · exact .inl (List.mem_append_left _ q)
    · rcases List.mem_append.mp q with q | q
      · exact .inr (List.mem_append_left _ q)
      · exact .inl (List.mem_append_right _ q)
  · rw [List.mem_singleton.mp hm] at hf hs
    exact .inr (List.mem_append_right _ (hc hf s hs)), by
  rcases h.z with q | q
  · exact .inl (List.mem_append_left _ q)
  · rcases List.mem_append.mp q with q | q
    · exact .inr (List.mem_append_left _ q)
    · exact .inl (List.mem_append_right _ q)⟩
theorem StK.all (h : StK g U ns []) : ∀ n, n ∈ ns ↔ Reach g n := fun n => ⟨h.rn n, fun r => by
  induction r with
  | z => exact h.z.resolve_right fun q => nomatch q
  | s _ h1 h2 ih => exact (h.cl _ ih h1 _ h2).resolve_right fun q => nomatch q⟩
theorem rest_all : restN g U [] = (U.map fun n => (g.st n).length).sum := by
  unfold restN
  congr 2
  rw [List.filter_eq_self]
  intro n _
  simp
theorem rest_less (hu : n ∈ U) (hn : n ∉ ns) : restN g U (ns ++ [n]) + (g.st n).length ≤ restN g U ns := by
  unfold restN
  induction U with
  | nil => cases hu
  | cons m U ih =>
    have mono : ∀ V : List Nd, ((V.filter fun x => decide (x ∉ ns ++ [n])).map fun x => (g.st x).length).sum ≤ ((V.filter fun x => decide (x ∉ ns)).map fun x => (g.st x).length).sum := fun V => by
      induction V with
      | nil => simp
      | cons y V ihV =>
        rw [List.filter_cons, List.filter_cons]
        by_cases h1 : y ∈ ns
        · simp [h1] at ihV ⊢; exact ihV
        · by_cases h2 : y = n
          · subst h2; simp [h1] at ihV ⊢; omega
          · simp [h1, h2] at ihV ⊢; exact ihV
    by_cases e : m = n
    · subst e
      have := mono U
      rw [List.filter_cons, List.filter_cons]
      simp [hn] at this ⊢
      omega
    · have hu' : n ∈ U := (List.mem_cons.mp hu).resolve_left fun z => e z.symm
      have := ih hu'
      rw [List.filter_cons, List.filter_cons]
      by_cases h1 : m ∈ ns
      · simp [h1] at this ⊢; exact this
      · simp [h1, e] at this ⊢; omega
theorem len_sub : ∀ {l m : List Nd}, l.Nodup → (∀ x ∈ l, x ∈ m) → l.length ≤ m.length
  | [], _, _, _ => Nat.zero_le _
  | x :: l, m, h, hs => by
    have h1 := List.nodup_cons.mp h
    have h2 := len_sub (l := l) (m := m.erase x) h1.2 fun y hy => (List.mem_erase_of_ne fun e => h1.1 (by rw [← e]; exact hy)).mpr (hs y (List.mem_cons_of_mem _ hy))
    have h3 := List.length_erase_of_mem (hs x List.mem_cons_self)
    have h4 := List.length_pos_of_mem (hs x List.mem_cons_self)
    rw [List.length_cons]
    omega
theorem StK.len (ok : WgOk g U M k) (h : StK g U ns wt) : ns.length ≤ 90000 := by
  have : ns.length ≤ U.length := len_sub h.nd fun n hn => (h.rn n hn).inU ok
  have := ok.ul
  omega
end
/-! the cheapest way -/
def nxtN (g : Wgr) (pr : Nd → Option Rat) (n : Nd) : Option Nd := ((g.st n).find? fun s => decide (addO s.1 (pr s.2) = pr n)).map (·.2)
def pathF (g : Wgr) (pr : Nd → Option Rat) : Nat → Nd → List Nd
  | 0, n => [n]
  | i + 1, n => if g.fin n = true then [n] else match nxtN g pr n with
    | none => [n]
    | some m => n :: pathF g pr i m
theorem nxt_some {g : Wgr} {U : List Nd} {M k : Nat} (ok : WgOk g U M k) {n : Nd} {q : Rat} (hn : n ∈ U) (hf : g.fin n = false) (h : prc g M n = some q) : ∃ s ∈ g.st n, nxtN g (prc g M) n = some s.2 ∧ addO s.1 (prc g M s.2) = some q := by
  have h1 := prc_eq ok hn hf
  rw [h] at h1
  obtain ⟨s0, hs0, e0⟩ := List.mem_map.mp (leastP_mem h1.symm)
  cases hfd : (g.st n).find? (fun s => decide (addO s.1 (prc g M s.2) = prc g M n)) with
  | none =>
    have := List.find?_eq_none.mp hfd s0 hs0
    simp [h, e0] at this
  | some s =>
    have h2 := List.find?_some hfd
    have h3 := List.mem_of_find?_eq_some hfd
    refine ⟨s, h3, by unfold nxtN; rw [hfd]; rfl, ?_⟩
    have := of_decide_eq_true h2
    rw [this, h]
theorem pathF_head (g : Wgr) (pr : Nd → Option Rat) : ∀ (i : Nat) (n : Nd), ∃ t, pathF g pr i n = n :: t
  | 0, n => ⟨[], rfl⟩
  | i + 1, n => by
    unfold pathF
    split
    · exact ⟨[], rfl⟩
    · split
      · exact ⟨[], rfl⟩
      · exact ⟨_, rfl⟩
theorem pathF_end {g : Wgr} {pr : Nd → Option Rat} {i : Nat} {n : Nd} (h : g.fin n = true) : pathF g pr i n = [n] := by
  cases i with
  | zero => rfl
  | succ i => unfold pathF; rw [if_pos h]
theorem pathF_step {g : Wgr} {pr : Nd → Option Rat} {i : Nat} {n m : Nd} (h : g.fin n = false) (hm : nxtN g pr n = some m) : pathF g pr (i + 1) n = n :: pathF g pr i m := by
  rw [pathF, if_neg (by rw [h]; simp), hm]
/-- the nodes of the cheapest way -/
def wayN (g : Wgr) (N : Nat) : List Nd := pathF g (prc g N) (N + 1) (0, 0)

abbrev s_Lines_first_node : Stmt := inClass (top 53) 1
theorem sc_Lines_first_node : FnScope ["self"] ["self"] (defScope s_Lines_first_node) := ⟨rfl, rfl, rfl, by decide +kernel, rfl, by decide +kernel, by decide +kernel⟩
def sp_Lines_first_node : Sp := fun vs H Q _ => ∃ F M v, vs = [v] ∧ Wf F H M ∧ ∀ r H', Wf ((r, nD (0, 0)) :: F) H' M → Q r H'
theorem n_lnfirst {F : List (V × D)} {H : Hp} {M : List ME} {v : V} {Q : VK} {E : XK} (w : Wf F H M) (q : ∀ r H', Wf ((r, nD (0, 0)) :: F) H' M → Q r H') : sp_Lines_first_node (v :: ([] ++ [])) H Q E := ⟨F, M, v, rfl, w, q⟩

theorem ok_Lines_first_node {f : Addr} {fd : FuncData} (F : Fun K "first_node" "Lines.first_node" s_Lines_first_node f fd) (B : Bn mg)  : FnOk P wd K mg base CX0 1 f fd ["self"] (sp_Lines_first_node) := by
  refine F.ok sc_Lines_first_node (fun vs H Q E h => ?_) (fun cdv A outer s H vs Q E hr h => ?_)
  · obtain ⟨F, M, v, rfl, w, k⟩ := h
    all_goals rfl
  · obtain ⟨F, M, v, rfl, w, k⟩ := h
    refine ⟨_, (pss_one (ps_ret (pe_tup (pa_cons pe_int (pa_cons pe_int pa_nil))))), ?_⟩
    try dsimp only [cxOf, Cx.nox, Cx.wish, Cx.blk]
    wtm_at "n"
    rename_i p H1 w
    exact k _ _ w
abbrev s_Columns_first_node : Stmt := inClass (top 47) 1
theorem sc_Columns_first_node : FnScope ["self"] ["self"] (defScope s_Columns_first_node) := ⟨rfl, rfl, rfl, by decide +kernel, rfl, by decide +kernel, by decide +kernel⟩
def sp_Columns_first_node : Sp := fun vs H Q _ => ∃ F M v, vs = [v] ∧ Wf F H M ∧ ∀ r H', Wf ((r, nD (0, 0)) :: F) H' M → Q r H'
theorem n_clfirst {F : List (V × D)} {H : Hp} {M : List ME} {v : V} {Q : VK} {E : XK} (w : Wf F H M) (q : ∀ r H', Wf ((r, nD (0, 0)) :: F) H' M → Q r H') : sp_Columns_first_node (v :: ([] ++ [])) H Q E := ⟨F, M, v, rfl, w, q⟩

theorem ok_Columns_first_node {f : Addr} {fd : FuncData} (F : Fun K "first_node" "Columns.first_node" s_Columns_first_node f fd) (B : Bn mg)  : FnOk P wd K mg base CX0 1 f fd ["self"] (sp_Columns_first_node) := by
  refine F.ok sc_Columns_first_node (fun vs H Q E h => ?_) (fun cdv A outer s H vs Q E hr h => ?_)
  · obtain ⟨F, M, v, rfl, w, k⟩ := h
    all_goals rfl
  · obtain ⟨F, M, v, rfl, w, k⟩ := h
    refine ⟨_, (pss_one (ps_ret (pe_tup (pa_cons pe_int (pa_cons pe_int pa_nil))))), ?_⟩
    try dsimp only [cxOf, Cx.nox, Cx.wish, Cx.blk]
    wtm_at "n"
    rename_i p H1 w
    exact k _ _ w
/-! ### lines as ways -/
theorem shc_sz2 {r : Row} (ok : ROk r) {sp m : Int} (hm : 0 ≤ m) (hm2 : m ≤ 200) (hl : m * leanI r.b r.l r.s ≤ sp) (h0 : 0 ≤ sp) (h1 : sp ≤ 1000000000000000) : Sz2 2000 18 (shcQ r sp m) := by
  by_cases h : m = 0
  · unfold shcQ
    rw [if_pos h]
    have d : Bd 60 sp := Bd.of 1000000000000000 (by omega)
    refine ⟨(d.mul d).mono (by decide), bd1⟩
  · have hm0 : 0 < m := by omega
    have w0 := ok.w0; have w1 := ok.w1; have s0 := ok.s0; have s1 := ok.s1
    have b0 := ok.l0; have b1 := ok.lb; have b2 := ok.bm
    have wt : ∀ gap, 0 < wtI r gap ∧ wtI r gap ≤ 1000 := fun gap => ⟨wt_pos r gap, by unfold wtI; split <;> split <;> omega⟩
    have key : ∀ gap left : Int, -1000000000000000 ≤ gap → gap ≤ 1000000000000000 → -1000000000000000 ≤ left → left ≤ 1000000000000000 → Sz2 2000 18 (Rat.divInt (gap * gap + left * left * m * wtI r gap) (m * wtI r gap)) := fun gap left g0 g1 l0 l1 => by
      obtain ⟨t0, t1⟩ := wt gap
      have e1 : Bd 50 gap := Bd.of 1000000000000000 (by omega)
      have e2 : Bd 50 left := Bd.of 1000000000000000 (by omega)
      have e3 : Bd 8 m := Bd.of 200 (by omega)
      have e4 : Bd 10 (wtI r gap) := Bd.of 1000 (by omega)
      have ne : m * wtI r gap ≠ 0 := Int.mul_ne_zero (by omega) (by omega)
      exact ⟨Bd.le ((((e1.mul e1).mono (by decide)).add (((e2.mul e2).mul e3).mul e4)).mono (by decide)) (num_le ne), Bd.le ((e3.mul e4).mono (by decide)) (den_le ne)⟩
    cases hf : (if 0 < r.w then r.g else some r.b) with
    | none =>
      have m0 : 0 ≤ m * r.b := Int.mul_nonneg hm (by omega)
      have m1 : m * r.b ≤ 200 * 1000000000000 := Int.mul_le_mul hm2 b2 (by omega) (by decide)
      rw [shc_even ok hm0 hl fun f e => by rw [hf] at e; cases e]
      exact key _ 0 (by omega) (by omega) (by decide) (by decide)
    | some f =>
      have hfb : r.b ≤ f := hi_b ok hf
      have hf1 : f ≤ 1000000000000 := by
        by_cases hw : 0 < r.w
        · rw [if_pos hw] at hf
          exact (ok.g0 hf).2
        · rw [if_neg hw] at hf
          cases hf
          exact b2
      have m0 : 0 ≤ m * r.b := Int.mul_nonneg hm (by omega)
      have m1 : m * r.b ≤ 200 * 1000000000000 := Int.mul_le_mul hm2 b2 (by omega) (by decide)
      have m2 : 0 ≤ m * f := Int.mul_nonneg hm (by omega)
      have m3 : m * f ≤ 200 * 1000000000000 := Int.mul_le_mul hm2 hf1 (by omega) (by decide)
      by_cases hc : m * f < sp
      · rw [shc_fat ok hm0 hl hf hc]
        have m4 : m * (f - r.b) = m * f - m * r.b := Int.mul_sub ..
        rw [m4]
        exact key _ _ (by omega) (by omega) (by omega) (by omega)
      · rw [shc_even ok hm0 hl fun f' e => by rw [hf] at e; cases e; omega]
        exact key _ 0 (by omega) (by omega) (by decide) (by decide)
theorem cst_sz2 {r : Row} (ok : ROk r) {so m room : Int} {la al : Bool} (s0 : 0 ≤ so) (s1 : so ≤ 1000000000000000) (m0 : 0 ≤ m) (m1 : m ≤ 200) (r0 : 0 ≤ room) (r1 : room ≤ 1000000000000) {p : Rat} (h : cstO r so m room la al = some p) : Sz2 2000 18 p := by
  obtain ⟨l0, l1⟩ := lean_bd ok
  have p0 : 0 ≤ m * leanI r.b r.l r.s := Int.mul_nonneg m0 l0
  have p1 : m * leanI r.b r.l r.s ≤ 200 * 1000000000000 := Int.mul_le_mul m1 l1 l0 (by decide)
  unfold cstO at h
  split at h
  · cases h
    exact Sz2.zero (by decide) (by decide)
  split at h
  · cases h
    exact shc_sz2 ok m0 m1 (by omega) (by omega) (by omega)
  split at h
  · cases h
    have g : Bd 60 (so + m * leanI r.b r.l r.s - room) := Bd.of 10000000000000000 (by omega)
    have h0 : Bd 140 (10000000000000000000000000000000000000000 : Int) := Bd.of 10000000000000000000000000000000000000000 (by decide)
    exact ⟨(h0.add ((g.mul g).mono (by decide))).mono (by decide), bd1⟩
  · cases h
/-- some steps, up to the first that is none -/
def upS (f : Nat → Option Rat) (mk : Nat → Nd) : Nat → Nat → List (Rat × Nd)
  | _, 0 => []
  | i, j + 1 => match f i with
    | none => []
    | some c => (c, mk i) :: upS f mk (i + 1) j
theorem upS_mem {f : Nat → Option Rat} {mk : Nat → Nd} : ∀ {j i : Nat} {s : Rat × Nd}, s ∈ upS f mk i j → ∃ t, i ≤ t ∧ t < i + j ∧ f t = some s.1 ∧ s.2 = mk t
  | 0, i, s, h => nomatch h
  | j + 1, i, s, h => by
    unfold upS at h
    cases hf : f i with
    | none => rw [hf] at h; cases h
    | some c =>
      rw [hf] at h
      rcases List.mem_cons.mp h with rfl | h
      · exact ⟨i, Nat.le_refl _, by omega, hf, rfl⟩
      · obtain ⟨t, h1, h2, h3, h4⟩ := upS_mem h
        exact ⟨t, by omega, by omega, h3, h4⟩
theorem upS_len {f : Nat → Option Rat} {mk : Nat → Nd} : ∀ (j i : Nat), (upS f mk i j).length ≤ j
  | 0, _ => Nat.le_refl _
  | j + 1, i => by
    unfold upS
    cases f i with
    | none => exact Nat.zero_le _
    | some c => exact Nat.succ_le_succ (upS_len j (i + 1))
theorem upS_some {f : Nat → Option Rat} {mk : Nat → Nd} {i j : Nat} {c : Rat} (h : f i = some c) : upS f mk i (j + 1) = (c, mk i) :: upS f mk (i + 1) j := by rw [upS, h]
theorem upS_none {f : Nat → Option Rat} {mk : Nat → Nd} {i j : Nat} (h : f i = none) : upS f mk i (j + 1) = [] := by rw [upS, h]
/-- the room of a line -/
def lnRm (rooms : List Int) (rest c : Int) : Int := if c < rooms.length then rooms.getD c.toNat 0 else rest
def lnC (ws : List Int) (r : Row) (room : Int) (b i : Nat) : Option Rat := cstO r ((ws.drop b).take (i + 1)).sum i room (b + i + 1 == ws.length) (i == 0)
def lnMk (L : Nat) (n : Nd) (i : Nat) : Nd := (n.1 + (i : Int) + 1, if n.2 + 1 < L then n.2 + 1 else L)
def lnG (ws : List Int) (r : Row) (rooms : List Int) (rest : Int) : Wgr where
  st := fun n => (upS (lnC ws r (lnRm rooms rest n.2) n.1.toNat) (lnMk rooms.length n) 0 (ws.length - n.1.toNat)).reverse
  fin := fun n => n.1 == (ws.length : Int)
def lnU (m L : Nat) : List Nd := (List.range (m + 1)).flatMap fun b : Nat => (List.range (L + 1)).map fun c : Nat => (((b : Nat) : Int), ((c : Nat) : Int))
theorem mem_lnU {m L : Nat} {n : Nd} : n ∈ lnU m L ↔ 0 ≤ n.1 ∧ n.1 ≤ m ∧ 0 ≤ n.2 ∧ n.2 ≤ L := by
  unfold lnU
  rw [List.mem_flatMap]
  constructor
  · rintro ⟨b, hb, h⟩
    obtain ⟨c, hc, rfl⟩ := List.mem_map.mp h
    have := List.mem_range.mp hb
    have := List.mem_range.mp hc
    simp only
    omega
  · rintro ⟨h1, h2, h3, h4⟩
    refine ⟨n.1.toNat, List.mem_range.mpr (by omega), List.mem_map.mpr ⟨n.2.toNat, List.mem_range.mpr (by omega), ?_⟩⟩
    ext <;> simp <;> omega
theorem lnU_len (m L : Nat) : (lnU m L).length = (m + 1) * (L + 1) := by
  unfold lnU
  generalize m + 1 = a
  induction a with
  | zero => simp
  | succ a ih =>
    rw [show List.range (a + 1) = List.range a ++ [a] from List.range_succ, List.flatMap_append, List.length_append, ih, Nat.add_mul]
    simp
structure LnOk (ws : List Int) (r : Row) (rooms : List Int) (rest : Int) : Prop where
  ok : ROk r
  w1 : 1 ≤ ws.length
  w60 : ws.length ≤ 60
  wb : ∀ w ∈ ws, 1 ≤ w ∧ w ≤ 1000000
  l60 : rooms.length ≤ 60
  rb : ∀ x ∈ rooms, 0 ≤ x ∧ x ≤ 1000000000000
  r0 : 0 ≤ rest
  r1 : rest ≤ 1000000000000
theorem sum_bound {l : List Int} {m : Int} (h : ∀ x ∈ l, 0 ≤ x ∧ x ≤ m) : 0 ≤ l.sum ∧ l.sum ≤ (l.length : Int) * m := by
  induction l with
  | nil => simp
  | cons y ys ih =>
    have h1 := h y List.mem_cons_self
    have h2 := ih fun z hz => h z (List.mem_cons_of_mem _ hz)
    rw [List.sum_cons, List.length_cons, Int.natCast_add, Int.add_mul]
    omega
section
variable {ws : List Int} {r : Row} {rooms : List Int} {rest : Int}
theorem LnOk.sum (h : LnOk ws r rooms rest) (b i : Nat) : 0 ≤ ((ws.drop b).take i).sum ∧ ((ws.drop b).take i).sum ≤ 60000000 := by
  have h1 := sum_bound (l := (ws.drop b).take i) (m := 1000000) fun x hx => by
    have := h.wb x (List.mem_of_mem_drop (List.mem_of_mem_take hx))
    omega
  have h2 : ((ws.drop b).take i).length ≤ 60 := by
    have := h.w60
    rw [List.length_take, List.length_drop]
    omega
  omega
theorem LnOk.rm (h : LnOk ws r rooms rest) {c : Int} (c0 : 0 ≤ c) : 0 ≤ lnRm rooms rest c ∧ lnRm rooms rest c ≤ 1000000000000 := by
  unfold lnRm
  split
  · have hl : c.toNat < rooms.length := by omega
    rw [List.getD_eq_getElem?_getD, List.getElem?_eq_getElem hl]
    exact h.rb _ (List.getElem_mem hl)
  · exact ⟨h.r0, h.r1⟩
theorem ln_ok (h : LnOk ws r rooms rest) : WgOk (lnG ws r rooms rest) (lnU ws.length rooms.length) ws.length 18 where
  u0 := mem_lnU.mpr ⟨by simp, by simp, by simp, by simp⟩
  go := fun n hn hf s hs => by
    have h1 := mem_lnU.mp hn
    have hf' : n.1 ≠ ws.length := by simpa [lnG] using hf
    obtain ⟨t, _, h3, _, e⟩ := upS_mem (List.mem_reverse.mp hs)
    rw [e]
    refine ⟨mem_lnU.mpr ?_, ?_⟩
    · unfold lnMk
      simp only
      refine ⟨by omega, by omega, ?_, ?_⟩ <;> split <;> omega
    · unfold lnMk
      simp only
      omega
  lo := fun n hn => by have := mem_lnU.mp hn; omega
  sz := fun n hn s hs => by
    have h1 := mem_lnU.mp hn
    obtain ⟨t, _, h3, e, _⟩ := upS_mem (List.mem_reverse.mp hs)
    have h4 := h.sum n.1.toNat (t + 1)
    have h5 := h.rm h1.2.2.1
    have h6 := h.w60
    exact cst_sz2 h.ok h4.1 (by omega) (by omega) (by omega) h5.1 h5.2 e
  tot := by
    have h1 : ((lnU ws.length rooms.length).map fun n => ((lnG ws r rooms rest).st n).length).sum ≤ (lnU ws.length rooms.length).length * 60 := by
      generalize lnU ws.length rooms.length = l
      induction l with
      | nil => simp
      | cons n l ih =>
        have : ((lnG ws r rooms rest).st n).length ≤ 60 := by
          show (upS _ _ 0 _).reverse.length ≤ 60
          rw [List.length_reverse]
          have := upS_len (f := lnC ws r (lnRm rooms rest n.2) n.1.toNat) (mk := lnMk rooms.length n) (ws.length - n.1.toNat) 0
          have := h.w60
          omega
        rw [List.map_cons, List.sum_cons, List.length_cons, Nat.add_mul]
        omega
    have h2 : (lnU ws.length rooms.length).length ≤ 61 * 61 := by
      rw [lnU_len]
      exact Nat.mul_le_mul (by have := h.w60; omega) (by have := h.l60; omega)
    omega
  ul := by
    rw [lnU_len]
    have : (ws.length + 1) * (rooms.length + 1) ≤ 61 * 61 := Nat.mul_le_mul (by have := h.w60; omega) (by have := h.l60; omega)
    omega
  hk := by
    have : (18 + 1) * (ws.length + 2) ≤ (18 + 1) * 62 := Nat.mul_le_mul_left _ (by have := h.w60; omega)
    omega
end
abbrev lnO (C CP : Addr) (ws : List Int) (r : Row) (rooms : List Int) (rest : Int) : D := .obj C [("widths", .lst (ws.map D.int)), ("blank", prtR CP r), ("rooms", .lst (rooms.map D.int)), ("rest", .int rest)]

abbrev s_Lines_is_end : Stmt := inClass (top 53) 3
theorem sc_Lines_is_end : FnScope ["self", "node"] ["self", "node"] (defScope s_Lines_is_end) := ⟨rfl, rfl, rfl, by decide +kernel, rfl, by decide +kernel, by decide +kernel⟩
def sp_Lines_is_end (C CP : Addr) : Sp := fun vs H Q _ => ∃ F M x v, ∃ (n : Nd) (ws : List Int) (r : Row) (rooms : List Int) (rest : Int), vs = [x, v] ∧ Wf F H M ∧ Rk F M x (lnO C CP ws r rooms rest) ∧ Rk F M v (nD n) ∧ ∀ H', Wf F H' M → Q (.bl ((lnG ws r rooms rest).fin n)) H'
theorem n_lnend {C CP : Addr} {F : List (V × D)} {H : Hp} {M : List ME} {x v : V} {n : Nd} {ws : List Int} {r : Row} {rooms : List Int} {rest : Int} {Q : VK} {E : XK} (w : Wf F H M) (hx : Rk F M x (lnO C CP ws r rooms rest)) (hv : Rk F M v (nD n)) (q : ∀ H', Wf F H' M → Q (.bl ((lnG ws r rooms rest).fin n)) H') : sp_Lines_is_end C CP (x :: ([v] ++ [])) H Q E := ⟨F, M, x, v, n, ws, r, rooms, rest, rfl, w, hx, hv, q⟩

theorem ok_Lines_is_end {f : Addr} {fd : FuncData} (F : Fun K "is_end" "Lines.is_end" s_Lines_is_end f fd) (B : Bn mg) (o_Lines : OwnC K C_Lines) (n_Lines : ∀ f ∈ (["widths", "blank", "rooms", "rest"] : List Str), NoAttr K C_Lines f)  : FnOk P wd K mg base CX0 1 f fd ["self", "node"] (sp_Lines_is_end C_Lines C_Part) := by
  refine F.ok sc_Lines_is_end (fun vs H Q E h => ?_) (fun cdv A outer s H vs Q E hr h => ?_)
  · obtain ⟨F, M, x, v, n, ws, r, rooms, rest, rfl, w, hx, hv, k⟩ := h
    all_goals rfl
  · obtain ⟨F, M, x, v, n, ws, r, rooms, rest, rfl, w, hx, hv, k⟩ := h
    refine ⟨_, (pss_one (ps_ret (pe_cmpR (k_eq (K := K) rfl hr.units) (pe_ix (k_ix (K := K) rfl) (pv 1) pe_int (fun _ _ => rfl)) (pe_callB (k_len (K := K) rfl) (by rfl) B.len_ (by decide +kernel) (pa_cons (kpe_fld (K := K) rfl (pv 0) rfl) pa_nil)) (nomark _)))), ?_⟩
    try dsimp only [cxOf, Cx.nox, Cx.wish, Cx.blk]
    have hv : Rk F M v (.tup [.int n.1, .int n.2]) := hv
    wtm_at "n"
    rw [List.length_map]
    have e : decide (V.int n.1 = V.int (ws.length : Int)) = (lnG ws r rooms rest).fin n := by
      show _ = (n.1 == (ws.length : Int))
      by_cases h : n.1 = ws.length
      · rw [h]; simp
      · simp [h]
    rw [e]
    exact k _ (by wtm_at "wf")
/-! ### strips -/
structure Sp3 where
  h : Int
  st : Option Int
  ns : List Int
abbrev spD (x : Sp3) : D := .tup [.int x.h, oD x.st, .lst (x.ns.map D.int)]
structure SpOk (x : Sp3) : Prop where
  h0 : 0 ≤ x.h
  h1 : x.h ≤ 1000000000000
  n0 : ∀ n ∈ x.ns, 0 ≤ n ∧ n ≤ 1000000
  nl : x.ns.length ≤ 60
  s0 : ∀ s, x.st = some s → 0 ≤ s ∧ s ≤ 1000000
def footI (xs : List Sp3) (rule : Int) : Int := if (xs.map fun x => (x.ns.length : Int)).sum = 0 then 0 else rule + (xs.map fun x => x.ns.sum).sum
def noteD (a : Int) (ns : List Int) : List D := (List.range ns.length).map fun i => .tup [.int (a + (ns.take i).sum), .int (a + (ns.take (i + 1)).sum)]
theorem note_snoc (a : Int) (ns : List Int) (x : Int) : noteD a (ns ++ [x]) = noteD a ns ++ [.tup [.int (a + ns.sum), .int (a + ns.sum + x)]] := by
  unfold noteD
  rw [List.length_append, List.length_singleton, List.range_succ, List.map_append]
  congr 1
  · apply List.map_congr_left
    intro i hi
    have := List.mem_range.mp hi
    rw [List.take_append_of_le_length (by omega), List.take_append_of_le_length (by omega)]
  · simp [List.take_of_length_le, List.sum_append, Int.add_assoc]
theorem note_len (a : Int) (ns : List Int) : (noteD a ns).length = ns.length := by simp [noteD]
theorem sum_bd {l : List Int} {m : Int} (h : ∀ x ∈ l, 0 ≤ x ∧ x ≤ m) : 0 ≤ l.sum ∧ l.sum ≤ (l.length : Int) * m := by
  induction l with
  | nil => simp
  | cons y ys ih =>
    have h1 := h y List.mem_cons_self
    have h2 := ih fun z hz => h z (List.mem_cons_of_mem _ hz)
    rw [List.sum_cons, List.length_cons, Int.natCast_add, Int.add_mul]
    omega
theorem SpOk.sum {x : Sp3} (h : SpOk x) : 0 ≤ x.ns.sum ∧ x.ns.sum ≤ 60000000 := by
  have h1 := sum_bd h.n0
  have h2 := h.nl
  omega
theorem foot_bd {xs : List Sp3} {rule : Int} (h : ∀ x ∈ xs, SpOk x) (hl : xs.length ≤ 120) (r0 : 0 ≤ rule) (r1 : rule ≤ 1000000) : 0 ≤ footI xs rule ∧ footI xs rule ≤ 10000000000 := by
  have h1 := sum_bd (l := xs.map fun x => x.ns.sum) (m := 60000000) fun y hy => by
    obtain ⟨x, hx, rfl⟩ := List.mem_map.mp hy
    exact (h x hx).sum
  rw [List.length_map] at h1
  unfold footI
  split <;> omega
theorem Wf.o0 {F : List (V × D)} {H : Hp} {M : List ME} {v : V} {o : Option Int} (w : Wf ((v, oD o) :: F) H M) : v = oV o := by
  cases o with
  | none => exact w.non0.1
  | some k => exact w.eq0.1

/-! ### columns as ways -/
theorem Sz2.addI {j k l n : Nat} {q : Rat} {m : Int} (hq : Sz2 j k q) (hm : Bd l m) (h1 : j + 1 ≤ n) (h2 : l + k + 1 ≤ n) : Sz2 n k (q + (m : Rat)) := by
  have e : q + (m : Rat) = Rat.divInt (q.num * ((m : Rat).den : Int) + (m : Rat).num * q.den) (q.den * ((m : Rat).den : Int)) := (add_dv q (m : Rat)).symm
  rw [e, show ((m : Rat).den : Int) = 1 from rfl, show (m : Rat).num = m from rfl, Int.mul_one, Int.mul_one]
  have ne : (q.den : Int) ≠ 0 := by have := q.den_pos; omega
  have b2 : Bd (n - 1) (m * q.den) := (hm.mul hq.d).mono (by omega)
  have b1 : Bd (n - 1) q.num := hq.n.mono (by omega)
  exact ⟨((b1.add b2).mono (show n - 1 + 1 ≤ n by omega)).le (num_le ne), hq.d.le (den_le ne)⟩
theorem shc_sz1 {r : Row} (ok : ROk r) {sp m : Int} (hm : 0 ≤ m) (hm2 : m ≤ 200) (hl : m * leanI r.b r.l r.s ≤ sp) (h0 : 0 ≤ sp) (h1 : sp ≤ 1000000000000000) : Sz2 1000 18 (shcQ r sp m) := by
  by_cases h : m = 0
  · unfold shcQ
    rw [if_pos h]
    have d : Bd 60 sp := Bd.of 1000000000000000 (by omega)
    refine ⟨(d.mul d).mono (by decide), bd1⟩
  · have hm0 : 0 < m := by omega
    have w0 := ok.w0; have w1 := ok.w1; have s0 := ok.s0; have s1 := ok.s1
    have b0 := ok.l0; have b1 := ok.lb; have b2 := ok.bm
    have wt : ∀ gap, 0 < wtI r gap ∧ wtI r gap ≤ 1000 := fun gap => ⟨wt_pos r gap, by unfold wtI; split <;> split <;> omega⟩
    have key : ∀ gap left : Int, -1000000000000000 ≤ gap → gap ≤ 1000000000000000 → -1000000000000000 ≤ left → left ≤ 1000000000000000 → Sz2 1000 18 (Rat.divInt (gap * gap + left * left * m * wtI r gap) (m * wtI r gap)) := fun gap left g0 g1 l0 l1 => by
      obtain ⟨t0, t1⟩ := wt gap
      have e1 : Bd 50 gap := Bd.of 1000000000000000 (by omega)
      have e2 : Bd 50 left := Bd.of 1000000000000000 (by omega)
      have e3 : Bd 8 m := Bd.of 200 (by omega)
      have e4 : Bd 10 (wtI r gap) := Bd.of 1000 (by omega)
      have ne : m * wtI r gap ≠ 0 := Int.mul_ne_zero (by omega) (by omega)
      exact ⟨Bd.le ((((e1.mul e1).mono (by decide)).add (((e2.mul e2).mul e3).mul e4)).mono (by decide)) (num_le ne), Bd.le ((e3.mul e4).mono (by decide)) (den_le ne)⟩
    cases hf : (if 0 < r.w then r.g else some r.b) with
    | none =>
      have m0 : 0 ≤ m * r.b := Int.mul_nonneg hm (by omega)
      have m1 : m * r.b ≤ 200 * 1000000000000 := Int.mul_le_mul hm2 b2 (by omega) (by decide)
      rw [shc_even ok hm0 hl fun f e => by rw [hf] at e; cases e]
      exact key _ 0 (by omega) (by omega) (by decide) (by decide)
    | some f =>
      have hfb : r.b ≤ f := hi_b ok hf
      have hf1 : f ≤ 1000000000000 := by
        by_cases hw : 0 < r.w
        · rw [if_pos hw] at hf
          exact (ok.g0 hf).2
        · rw [if_neg hw] at hf
          cases hf
          exact b2
      have m0 : 0 ≤ m * r.b := Int.mul_nonneg hm (by omega)
      have m1 : m * r.b ≤ 200 * 1000000000000 := Int.mul_le_mul hm2 b2 (by omega) (by decide)
      have m2 : 0 ≤ m * f := Int.mul_nonneg hm (by omega)
      have m3 : m * f ≤ 200 * 1000000000000 := Int.mul_le_mul hm2 hf1 (by omega) (by decide)
      by_cases hc : m * f < sp
      · rw [shc_fat ok hm0 hl hf hc]
        have m4 : m * (f - r.b) = m * f - m * r.b := Int.mul_sub ..
        rw [m4]
        exact key _ _ (by omega) (by omega) (by omega) (by omega)
      · rw [shc_even ok hm0 hl fun f' e => by rw [hf] at e; cases e; omega]
        exact key _ 0 (by omega) (by omega) (by decide) (by decide)
theorem cst_sz1 {r : Row} (ok : ROk r) {so m room : Int} {la al : Bool} (s0 : 0 ≤ so) (s1 : so ≤ 1000000000000000) (m0 : 0 ≤ m) (m1 : m ≤ 200) (r0 : 0 ≤ room) (r1 : room ≤ 1000000000000) {p : Rat} (h : cstO r so m room la al = some p) : Sz2 1000 18 p := by
  obtain ⟨l0, l1⟩ := lean_bd ok
  have p0 : 0 ≤ m * leanI r.b r.l r.s := Int.mul_nonneg m0 l0
  have p1 : m * leanI r.b r.l r.s ≤ 200 * 1000000000000 := Int.mul_le_mul m1 l1 l0 (by decide)
  unfold cstO at h
  split at h
  · cases h
    exact Sz2.zero (by decide) (by decide)
  split at h
  · cases h
    exact shc_sz1 ok m0 m1 (by omega) (by omega) (by omega)
  split at h
  · cases h
    have g : Bd 60 (so + m * leanI r.b r.l r.s - room) := Bd.of 10000000000000000 (by omega)
    have h0 : Bd 140 (10000000000000000000000000000000000000000 : Int) := Bd.of 10000000000000000000000000000000000000000 (by decide)
    exact ⟨(h0.add ((g.mul g).mono (by decide))).mono (by decide), bd1⟩
  · cases h
/-- what a fee tells; none: no fee -/
abbrev Fee := Option (Int → Int → Int → Int)
def feeI : Fee → Int → Int → Int → Int
  | none, _, _, _ => 0
  | some f, s, m, r => f s m r
def FeeOk (fe : Fee) : Prop := ∀ f, fe = some f → ∀ s m r, 0 ≤ s → s ≤ 1000000000000000 → 0 ≤ m → m ≤ 200 → 0 ≤ r → r ≤ 1000000000000 → 0 ≤ f s m r ∧ f s m r ≤ 1000000000000000000
def clSo (xs : List Sp3) (rule : Int) (b i : Nat) : Int := (((xs.drop b).take (i + 1)).map (·.h)).sum + footI ((xs.drop b).take (i + 1)) rule
def sp0 : Sp3 := ⟨0, none, []⟩
def stkI (xs : List Sp3) (e : Nat) : Int := if e < xs.length then ((xs.getD (e - 1) sp0).st).getD 0 else 0
def brkB (xs : List Sp3) (e : Nat) : Bool := (xs.getD (e - 1) sp0).st.isSome || e == xs.length
def clC (xs : List Sp3) (r : Row) (rule room : Int) (fe : Fee) (b i : Nat) (al : Bool) : Option Rat :=
  (cstO r (clSo xs rule b i) i room (b + i + 1 == xs.length) al).map fun c => c + (stkI xs (b + i + 1) : Int) + (feeI fe (clSo xs rule b i) i room : Int)
def clS (xs : List Sp3) (r : Row) (rule room : Int) (fe : Fee) (mk : Nat → Nd) (b : Nat) : Bool → Nat → Nat → List (Rat × Nd)
  | _, _, 0 => []
  | al, i, j + 1 => if brkB xs (b + i + 1) = true then
      match clC xs r rule room fe b i al with
      | none => []
      | some c => (c, mk i) :: clS xs r rule room fe mk b false (i + 1) j
    else clS xs r rule room fe mk b al (i + 1) j
def clG (xs : List Sp3) (r : Row) (rooms : List Int) (rest rule : Int) (fe : Fee) : Wgr where
  st := fun n => (clS xs r rule (lnRm rooms rest n.2) fe (lnMk rooms.length n) n.1.toNat true 0 (xs.length - n.1.toNat)).reverse
  fin := fun n => n.1 == (xs.length : Int)
structure ClOk (xs : List Sp3) (r : Row) (rooms : List Int) (rest rule : Int) : Prop where
  ok : ROk r
  xl : xs.length ≤ 120
  xb : ∀ x ∈ xs, SpOk x
  l24 : rooms.length ≤ 24
  rb : ∀ x ∈ rooms, 0 ≤ x ∧ x ≤ 1000000000000
  r0 : 0 ≤ rest
  r1 : rest ≤ 1000000000000
  u0 : 0 ≤ rule
  u1 : rule ≤ 1000000
section
variable {xs : List Sp3} {r : Row} {rooms : List Int} {rest rule room : Int} {fe : Fee} {mk : Nat → Nd} {b : Nat}
theorem ClOk.rm (h : ClOk xs r rooms rest rule) {c : Int} (c0 : 0 ≤ c) : 0 ≤ lnRm rooms rest c ∧ lnRm rooms rest c ≤ 1000000000000 := by
  unfold lnRm
  split
  · have hl : c.toNat < rooms.length := by omega
    rw [List.getD_eq_getElem?_getD, List.getElem?_eq_getElem hl]
    exact h.rb _ (List.getElem_mem hl)
  · exact ⟨h.r0, h.r1⟩
theorem ClOk.sol (h : ClOk xs r rooms rest rule) (b i : Nat) : 0 ≤ clSo xs rule b i ∧ clSo xs rule b i ≤ 1000000000000000 := by
  have sub : ∀ x ∈ (xs.drop b).take (i + 1), SpOk x := fun x hx => h.xb x (List.mem_of_mem_drop (List.mem_of_mem_take hx))
  have hl : ((xs.drop b).take (i + 1)).length ≤ 120 := by
    have := h.xl
    rw [List.length_take, List.length_drop]
    omega
  have h1 := sum_bd (l := ((xs.drop b).take (i + 1)).map (·.h)) (m := 1000000000000) fun y hy => by
    obtain ⟨x, hx, rfl⟩ := List.mem_map.mp hy
    exact ⟨(sub x hx).h0, (sub x hx).h1⟩
  have h2 := foot_bd sub hl h.u0 h.u1
  rw [List.length_map] at h1
  unfold clSo
  omega
theorem ClOk.stk (h : ClOk xs r rooms rest rule) (e : Nat) : 0 ≤ stkI xs e ∧ stkI xs e ≤ 1000000 := by
  unfold stkI
  split
  · cases hs : (xs.getD (e - 1) sp0).st with
    | none => exact ⟨by decide, by decide⟩
    | some s =>
      have hlt : e - 1 < xs.length := by omega
      rw [List.getD_eq_getElem?_getD, List.getElem?_eq_getElem hlt] at hs
      exact (h.xb _ (List.getElem_mem hlt)).s0 s hs
  · exact ⟨by decide, by decide⟩
theorem clS_mem : ∀ {j i : Nat} {al : Bool} {s : Rat × Nd}, s ∈ clS xs r rule room fe mk b al i j → ∃ t al', i ≤ t ∧ t < i + j ∧ clC xs r rule room fe b t al' = some s.1 ∧ s.2 = mk t ∧ brkB xs (b + t + 1) = true
  | 0, i, al, s, h => by cases h
  | j + 1, i, al, s, h => by
    unfold clS at h
    split at h
    · rename_i hb
      cases hf : clC xs r rule room fe b i al with
      | none => rw [hf] at h; cases h
      | some c =>
        rw [hf] at h
        rcases List.mem_cons.mp h with rfl | h
        · exact ⟨i, al, Nat.le_refl _, by omega, hf, rfl, hb⟩
        · obtain ⟨t, al', h1, h2, h3⟩ := clS_mem h
          exact ⟨t, al', by omega, by omega, h3⟩
    · obtain ⟨t, al', h1, h2, h3⟩ := clS_mem h
      exact ⟨t, al', by omega, by omega, h3⟩
theorem clS_len : ∀ (j i : Nat) (al : Bool), (clS xs r rule room fe mk b al i j).length ≤ j
  | 0, _, _ => Nat.le_refl _
  | j + 1, i, al => by
    unfold clS
    split
    · cases clC xs r rule room fe b i al with
      | none => exact Nat.zero_le _
      | some c => exact Nat.succ_le_succ (clS_len j (i + 1) false)
    · exact Nat.le_succ_of_le (clS_len j (i + 1) al)
theorem ClOk.csz (h : ClOk xs r rooms rest rule) (hf : FeeOk fe) (h0 : 0 ≤ room) (h1 : room ≤ 1000000000000) {i : Nat} (hi : i ≤ 200) {al : Bool} {q : Rat} (e : clC xs r rule room fe b i al = some q) : Sz2 2000 18 q := by
  unfold clC at e
  cases hc : cstO r (clSo xs rule b i) i room (b + i + 1 == xs.length) al with
  | none => rw [hc] at e; cases e
  | some c =>
    rw [hc] at e
    cases e
    obtain ⟨s0, s1⟩ := h.sol b i
    have h2 := cst_sz1 h.ok s0 s1 (by omega) (by omega) h0 h1 hc
    have h3 := h.stk (b + i + 1)
    have h4 : 0 ≤ feeI fe (clSo xs rule b i) i room ∧ feeI fe (clSo xs rule b i) i room ≤ 1000000000000000000 := by
      unfold feeI
      split
      · exact ⟨by decide, by decide⟩
      · exact hf _ rfl _ _ _ s0 s1 (by omega) (by omega) h0 h1
    exact ((h2.addI (n := 1500) (Bd.of (k := 60) 1000000 (by omega)) (by omega) (by omega)).addI (n := 2000) (Bd.of (k := 60) 1000000000000000000 (by omega)) (by omega) (by omega))
theorem cl_ok (h : ClOk xs r rooms rest rule) (hf : FeeOk fe) : WgOk (clG xs r rooms rest rule fe) (lnU xs.length rooms.length) xs.length 18 where
  u0 := mem_lnU.mpr ⟨by simp, by simp, by simp, by simp⟩
  go := fun n hn hf s hs => by
    have h1 := mem_lnU.mp hn
    have hf' : n.1 ≠ xs.length := by simpa [clG] using hf
    obtain ⟨t, _, _, h3, _, e, _⟩ := clS_mem (List.mem_reverse.mp hs)
    rw [e]
    refine ⟨mem_lnU.mpr ?_, ?_⟩
    · unfold lnMk
      simp only
      refine ⟨by omega, by omega, ?_, ?_⟩ <;> split <;> omega
    · unfold lnMk
      simp only
      omega
  lo := fun n hn => by have := mem_lnU.mp hn; omega
  sz := fun n hn s hs => by
    have h1 := mem_lnU.mp hn
    obtain ⟨t, _, _, h3, e, _⟩ := clS_mem (List.mem_reverse.mp hs)
    have h5 := h.rm h1.2.2.1
    have h6 := h.xl
    exact h.csz hf h5.1 h5.2 (by omega) e
  tot := by
    have h1 : ((lnU xs.length rooms.length).map fun n => ((clG xs r rooms rest rule fe).st n).length).sum ≤ (lnU xs.length rooms.length).length * 120 := by
      generalize lnU xs.length rooms.length = l
      induction l with
      | nil => simp
      | cons n l ih =>
        have : ((clG xs r rooms rest rule fe).st n).length ≤ 120 := by
          show (clS xs r rule _ fe _ _ true 0 _).reverse.length ≤ 120
          rw [List.length_reverse]
          have := clS_len (xs := xs) (r := r) (rule := rule) (room := lnRm rooms rest n.2) (fe := fe) (mk := lnMk rooms.length n) (b := n.1.toNat) (xs.length - n.1.toNat) 0 true
          have := h.xl
          omega
        rw [List.map_cons, List.sum_cons, List.length_cons, Nat.add_mul]
        omega
    have h2 : (lnU xs.length rooms.length).length ≤ 121 * 25 := by
      rw [lnU_len]
      exact Nat.mul_le_mul (by have := h.xl; omega) (by have := h.l24; omega)
    omega
  ul := by
    rw [lnU_len]
    have : (xs.length + 1) * (rooms.length + 1) ≤ 121 * 25 := Nat.mul_le_mul (by have := h.xl; omega) (by have := h.l24; omega)
    omega
  hk := by
    have : (18 + 1) * (xs.length + 2) ≤ (18 + 1) * 122 := Nat.mul_le_mul_left _ (by have := h.xl; omega)
    omega
theorem clC_alone {i : Nat} : ∃ q, clC xs r rule room fe b i true = some q := by
  unfold clC cstO
  split
  · exact ⟨_, rfl⟩
  · split
    · exact ⟨_, rfl⟩
    · exact ⟨_, by rw [if_pos rfl]; rfl⟩
/-- the first break may always be taken -/
theorem clS_first : ∀ (j i : Nat), b + i + (j + 1) = xs.length → ∃ s, s ∈ clS xs r rule room fe mk b true i (j + 1)
  | 0, i, h => by
    obtain ⟨q, hq⟩ := clC_alone (xs := xs) (r := r) (rule := rule) (room := room) (fe := fe) (b := b) (i := i)
    unfold clS
    rw [if_pos (by unfold brkB; rw [show (b + i + 1 == xs.length) = true by simp; omega, Bool.or_true]), hq]
    exact ⟨_, List.mem_cons_self⟩
  | j + 1, i, h => by
    unfold clS
    split
    · obtain ⟨q, hq⟩ := clC_alone (xs := xs) (r := r) (rule := rule) (room := room) (fe := fe) (b := b) (i := i)
      rw [hq]
      exact ⟨_, List.mem_cons_self⟩
    · exact clS_first j (i + 1) (by omega)
theorem cl_first {n : Nd} (hn : n ∈ lnU xs.length rooms.length) (hf : (clG xs r rooms rest rule fe).fin n = false) : ∃ s, s ∈ (clG xs r rooms rest rule fe).st n := by
  have h1 := mem_lnU.mp hn
  have hf' : n.1 ≠ xs.length := by simpa [clG] using hf
  obtain ⟨j, hj⟩ : ∃ j, xs.length - n.1.toNat = j + 1 := ⟨xs.length - n.1.toNat - 1, by omega⟩
  obtain ⟨s, hs⟩ := clS_first (xs := xs) (r := r) (rule := rule) (room := lnRm rooms rest n.2) (fe := fe) (mk := lnMk rooms.length n) (b := n.1.toNat) j 0 (by omega)
  exact ⟨s, List.mem_reverse.mpr (by rw [hj]; exact hs)⟩
theorem cl_some (ok : ClOk xs r rooms rest rule) (hfe : FeeOk fe) : ∀ (i : Nat) {n : Nd}, n ∈ lnU xs.length rooms.length → (xs.length : Int) - n.1 ≤ i → ∃ q, prF (clG xs r rooms rest rule fe) i n = some q
  | 0, n, hn, h => by
    have h1 := mem_lnU.mp hn
    have : (clG xs r rooms rest rule fe).fin n = true := by simp [clG]; omega
    exact ⟨0, by unfold prF; rw [if_pos this]⟩
  | i + 1, n, hn, h => by
    unfold prF
    cases hf : (clG xs r rooms rest rule fe).fin n with
    | true => exact ⟨0, by simp⟩
    | false =>
      obtain ⟨s, hq⟩ := cl_first hn hf
      have h2 := (cl_ok ok hfe).go n hn hf _ hq
      obtain ⟨p, hp⟩ := cl_some ok hfe i h2.1 (by have := h2.2; omega)
      have hm : some (s.1 + p) ∈ ((clG xs r rooms rest rule fe).st n).map fun s => addO s.1 (prF (clG xs r rooms rest rule fe) i s.2) := List.mem_map.mpr ⟨_, hq, by rw [hp]; rfl⟩
      obtain ⟨x, hx, _⟩ := leastP_le hm
      exact ⟨x, by simpa using hx⟩
theorem cl_prc (ok : ClOk xs r rooms rest rule) (hfe : FeeOk fe) {n : Nd} (hn : n ∈ lnU xs.length rooms.length) : ∃ q, prc (clG xs r rooms rest rule fe) xs.length n = some q := cl_some ok hfe _ hn (by have := mem_lnU.mp hn; omega)
end
/-! a fee as a value -/
def spFee (L : List ME) (f : Int → Int → Int → Int) : Sp := fun vs H Q _ => ∃ F M, ∃ (s m r : Int), vs = [.int s, .int m, .int r] ∧ Wf F H M ∧ (∀ e ∈ L, e ∈ M) ∧ 0 ≤ s ∧ s ≤ 1000000000000000 ∧ 0 ≤ m ∧ m ≤ 200 ∧ 0 ≤ r ∧ r ≤ 1000000000000 ∧ ∀ H', Wf F H' M → Q (.int (f s m r)) H'
def feeD (P : Program) (wd : World) (K : PySem.W.Frag) (mg : Str → Option Value) (base : Heap) (L : List ME) : Fee → D
  | none => .non
  | some f => .fact (FnV P wd K mg base 8 (spFee L f))
abbrev clO (P : Program) (wd : World) (K : PySem.W.Frag) (mg : Str → Option Value) (base : Heap) (C CP : Addr) (xs : List Sp3) (r : Row) (rooms : List Int) (rest rule : Int) (fe : Fee) (L : List ME) : D :=
  .obj C [("strips", .lst (xs.map spD)), ("feather", prtR CP r), ("rooms", .lst (rooms.map D.int)), ("rest", .int rest), ("rule", .int rule), ("fee", feeD P wd K mg base L fe)]

abbrev s_Columns_is_end : Stmt := inClass (top 47) 2
theorem sc_Columns_is_end : FnScope ["self", "node"] ["self", "node"] (defScope s_Columns_is_end) := ⟨rfl, rfl, rfl, by decide +kernel, rfl, by decide +kernel, by decide +kernel⟩
def sp_Columns_is_end (P : Program) (wd : World) (K : PySem.W.Frag) (mg : Str → Option Value) (base : Heap) (C CP : Addr) : Sp := fun vs H Q _ => ∃ F M x v, ∃ (n : Nd), ∃ (xs : List Sp3) (r : Row) (rooms : List Int) (rest rule : Int) (fe : Fee) (L : List ME), vs = [x, v] ∧ Wf F H M ∧ Rk F M x (clO P wd K mg base C CP xs r rooms rest rule fe L) ∧ Rk F M v (nD n) ∧ ∀ H', Wf F H' M → Q (.bl ((clG xs r rooms rest rule fe).fin n)) H'
theorem n_clend {P : Program} {wd : World} {K : PySem.W.Frag} {mg : Str → Option Value} {base : Heap} {C CP : Addr} {F : List (V × D)} {H : Hp} {M : List ME} {x v : V} {n : Nd} {xs : List Sp3} {r : Row} {rooms : List Int} {rest rule : Int} {fe : Fee} {L : List ME} {Q : VK} {E : XK} (ww : Wf F H M) (hx : Rk F M x (clO P wd K mg base C CP xs r rooms rest rule fe L)) (hv : Rk F M v (nD n)) (q : ∀ H', Wf F H' M → Q (.bl ((clG xs r rooms rest rule fe).fin n)) H') : sp_Columns_is_end P wd K mg base C CP (x :: ([v] ++ [])) H Q E := ⟨F, M, x, v, n, xs, r, rooms, rest, rule, fe, L, rfl, ww, hx, hv, q⟩

theorem ok_Columns_is_end {f : Addr} {fd : FuncData} (F : Fun K "is_end" "Columns.is_end" s_Columns_is_end f fd) (B : Bn mg) (o_Columns : OwnC K C_Columns) (n_Columns : ∀ f ∈ (["strips", "feather", "rooms", "rest", "rule", "fee"] : List Str), NoAttr K C_Columns f)  : FnOk P wd K mg base CX0 1 f fd ["self", "node"] (sp_Columns_is_end P wd K mg base C_Columns C_Part) := by
  refine F.ok sc_Columns_is_end (fun vs H Q E h => ?_) (fun cdv A outer s H vs Q E hr h => ?_)
  · obtain ⟨F, M, x, v, n, xs, r, rooms, rest, rule, fe, L, rfl, ww, hx, hv, k⟩ := h
    all_goals rfl
  · obtain ⟨F, M, x, v, n, xs, r, rooms, rest, rule, fe, L, rfl, ww, hx, hv, k⟩ := h
    refine ⟨_, (pss_one (ps_ret (pe_cmpR (k_eq (K := K) rfl hr.units) (pe_ix (k_ix (K := K) rfl) (pv 1) pe_int (fun _ _ => rfl)) (pe_callB (k_len (K := K) rfl) (by rfl) B.len_ (by decide +kernel) (pa_cons (kpe_fld (K := K) rfl (pv 0) rfl) pa_nil)) (nomark _)))), ?_⟩
    try dsimp only [cxOf, Cx.nox, Cx.wish, Cx.blk]
    have hv : Rk F M v (.tup [.int n.1, .int n.2]) := hv
    wtm_at "n"
    rw [List.length_map]
    have e : decide (V.int n.1 = V.int (xs.length : Int)) = (clG xs r rooms rest rule fe).fin n := by
      show _ = (n.1 == (xs.length : Int))
      by_cases h : n.1 = xs.length
      · rw [h]; simp
      · simp [h]
    rw [e]
    exact k _ (by wtm_at "wf")
abbrev s_Lines_steps_from : Stmt := inClass (top 53) 2
theorem sc_Lines_steps_from : FnScope ["self", "node", "begin", "line", "room", "many", "behind", "found", "solid", "end", "cost"] ["self", "node"] (defScope s_Lines_steps_from) := ⟨rfl, rfl, rfl, by decide +kernel, rfl, by decide +kernel, by decide +kernel⟩
def sp_Lines_steps_from (C CP : Addr) : Sp := fun vs H Q _ => ∃ F M x v, ∃ (n : Nd) (ws : List Int) (r : Row) (rooms : List Int) (rest : Int), vs = [x, v] ∧ Wf F H M ∧ Rk F M x (lnO C CP ws r rooms rest) ∧ Rk F M v (nD n) ∧ LnOk ws r rooms rest ∧ n ∈ lnU ws.length rooms.length ∧ ∀ p H', Wf F H' (.ml p (((lnG ws r rooms rest).st n).map stD) :: M) → Q (.ref p) H'
theorem n_lnsteps {C CP : Addr} {F : List (V × D)} {H : Hp} {M : List ME} {x v : V} {n : Nd} {ws : List Int} {r : Row} {rooms : List Int} {rest : Int} {Q : VK} {E : XK} (w : Wf F H M) (hx : Rk F M x (lnO C CP ws r rooms rest)) (hv : Rk F M v (nD n)) (ok : LnOk ws r rooms rest) (hn : n ∈ lnU ws.length rooms.length) (q : ∀ p H', Wf F H' (.ml p (((lnG ws r rooms rest).st n).map stD) :: M) → Q (.ref p) H') : sp_Lines_steps_from C CP (x :: ([v] ++ [])) H Q E := ⟨F, M, x, v, n, ws, r, rooms, rest, rfl, w, hx, hv, ok, hn, q⟩

theorem ok_Lines_steps_from {f : Addr} {fd : FuncData} (F : Fun K "steps_from" "Lines.steps_from" s_Lines_steps_from f fd) (B : Bn mg) (c_cost_of : Cal P wd K mg base "cost_of" 6 ["solid", "many", "blank", "room", "last", "alone"] [] (sp_cost_of C_Part)) (o_Lines : OwnC K C_Lines) (n_Lines : ∀ f ∈ (["widths", "blank", "rooms", "rest"] : List Str), NoAttr K C_Lines f)  : FnOk P wd K mg base CX0 7 f fd ["self", "node"] (sp_Lines_steps_from C_Lines C_Part) := by
  refine F.ok sc_Lines_steps_from (fun vs H Q E h => ?_) (fun cdv A outer s H vs Q E hr h => ?_)
  · obtain ⟨F, M, x, v, n, ws, r, rooms, rest, rfl, w, hx, hv, ok, hn, k⟩ := h
    all_goals rfl
  · obtain ⟨F, M, x, v, n, ws, r, rooms, rest, rfl, w, hx, hv, ok, hn, k⟩ := h
    refine ⟨_, (pss_cons (ps_asg (pv 1) (kpg_tup (K := K) (n := 2) rfl rfl (pgs_cons (pg_name (i := 2) sc_Lines_steps_from.nd rfl (Or.inl rfl)) (pgs_cons (pg_name (i := 3) sc_Lines_steps_from.nd rfl (Or.inl rfl)) pgs_nil))))
      (pss_cons (ps_set (i := 4) sc_Lines_steps_from.nd rfl (Or.inl rfl) (kpe_fld (K := K) rfl (pv 0) rfl))
      (pss_cons (ps_if (pt_cmpR op_lt (pv 3) (pe_callB (k_len (K := K) rfl) (by rfl) B.len_ (by decide +kernel) (pa_cons (kpe_fld (K := K) rfl (pv 0) rfl) pa_nil)) (nomark _)) (pss_one (ps_set (i := 4) sc_Lines_steps_from.nd rfl (Or.inl rfl) (pe_ix (k_ix (K := K) rfl) (kpe_fld (K := K) rfl (pv 0) rfl) (pv 3) (fun _ _ => rfl)))) pss_nil)
      (pss_cons (ps_set (i := 5) sc_Lines_steps_from.nd rfl (Or.inl rfl) (pe_callB (k_len (K := K) rfl) (by rfl) B.len_ (by decide +kernel) (pa_cons (kpe_fld (K := K) rfl (pv 0) rfl) pa_nil)))
      (pss_cons (ps_set (i := 6) sc_Lines_steps_from.nd rfl (Or.inl rfl) (pe_callB (k_min (K := K) rfl rfl) (by rfl) B.min_ (by decide +kernel) (pa_cons (pe_op (k_add (K := K) rfl) (pv 3) pe_int) (pa_cons (pe_callB (k_len (K := K) rfl) (by rfl) B.len_ (by decide +kernel) (pa_cons (kpe_fld (K := K) rfl (pv 0) rfl) pa_nil)) pa_nil))))
      (pss_cons (ps_set (i := 7) sc_Lines_steps_from.nd rfl (Or.inl rfl) (pe_lst pa_nil))
      (pss_cons (ps_set (i := 8) sc_Lines_steps_from.nd rfl (Or.inl rfl) pe_int)
      (pss_cons (ps_for PassesOwn.never rfl (pi_range2 (by rfl) B.range_ (pa_cons (pe_op (k_add (K := K) rfl) (pv 2) pe_int) (pa_cons (pe_op (k_add (K := K) rfl) (pv 5) pe_int) pa_nil))) (pg_name (i := 9) sc_Lines_steps_from.nd rfl (Or.inl rfl)) (pss_cons (ps_aug (i := 8) sc_Lines_steps_from.nd rfl (Or.inl rfl) (pe_ix (k_ix (K := K) rfl) (kpe_fld (K := K) rfl (pv 0) rfl) (pe_op op_sub (pv 9) pe_int) (fun _ _ => rfl)) ip_add)
      (pss_cons (ps_set (i := 10) sc_Lines_steps_from.nd rfl (Or.inl rfl) (pe_cal c_cost_of (hr.mono (by decide)) (by rfl) (pa_cons (pv 8) (pa_cons (pe_op op_sub (pe_op op_sub (pv 9) (pv 2)) pe_int) (pa_cons (kpe_fld (K := K) rfl (pv 0) rfl) (pa_cons (pv 4) (pa_cons (pe_cmpR (k_eq (K := K) rfl hr.units) (pv 9) (pv 5) (nomark _)) (pa_cons (pe_cmpR (k_eq (K := K) rfl hr.units) (pv 9) (pe_op (k_add (K := K) rfl) (pv 2) pe_int) (nomark _)) pa_nil))))))))
      (pss_cons (ps_if (pt_cmp (pc_isN (pv 10))) (pss_one ps_break) pss_nil)
      (pss_one (ps_expr (pe_bm PySem.F.plainAttrs_list PySem.F.slot_list_append PySem.F.type_list_append mt_append (pv 7) (pa_cons (pe_tup (pa_cons (pv 10) (pa_cons (pe_tup (pa_cons (pv 9) (pa_cons (pv 6) pa_nil))) pa_nil))) pa_nil))))))))
      (pss_one (ps_ret (pe_revL (pv 7)))))))))))), ?_⟩
    try dsimp only [cxOf, Cx.nox, Cx.wish, Cx.blk]
    have hv : Rk F M v (.tup [.int n.1, .int n.2]) := hv
    obtain ⟨n0, n1, c0, c1⟩ := mem_lnU.mp hn
    obtain ⟨nb, nc⟩ := n
    obtain ⟨b, rfl⟩ : ∃ b : Nat, nb = b := ⟨nb.toNat, by simp only at n0; omega⟩
    simp only at n0 n1 c0 c1 hv
    have hw60 := ok.w60
    have hl60 := ok.l60
    rw [show L2.start (["self", "node", "begin", "line", "room", "many", "behind", "found", "solid", "end", "cost"] : List Str) [x, v] = [some x, some v, none, none, none, none, none, none, none, none, none] from rfl]
    wtm_at "s1"
    wtm_at "st2"
    with_reducible refine s_seq ?_
    wtm_at "st2"
    with_reducible refine s_mid (fun σ' H' => σ' = [some x, some v, some (.int (b : Nat)), some (.int nc), some (.int (lnRm rooms rest nc)), none, none, none, none, none, none] ∧ Wf F H' M) ?_ (fun N fin => ?_)
    rotate_left
    · wtm_at "n"
      rw [List.length_map]
      wtm_at "fork"
      · rename_i hlt
        wtm_at "n"
        refine n_ixN (ns := rooms) (j := nc.toNat) (by assumption) (.mem List.mem_cons_self) (by omega) (by omega) ?_
        wtm_at "n"
        exact fin _ _ ⟨by rw [lnRm, if_pos hlt]; rfl, by wtm_at "wf"⟩
      · rename_i hlt
        wtm_at "n"
        exact fin _ _ ⟨by rw [lnRm, if_neg hlt]; rfl, by wtm_at "wf"⟩
    rintro σ' H' ⟨rfl, w⟩
    have hrm := ok.rm (c := nc) c0
    wtm_at "n"
    rename_i w
    rw [List.length_map, List.length_map]
    have eb : (if ((rooms.length : Nat) : Int) < nc + 1 then ((rooms.length : Nat) : Int) else nc + 1) = (if nc + 1 < (rooms.length : Int) then nc + 1 else (rooms.length : Int)) := by split <;> split <;> omega
    rw [eb]
    rename_i u1 w1 u2 w2 pf Hf
    have w : Wf F Hf (.ml pf [] :: M) := by wtm_at "wf"
    clear w1 w2
    have emk : lnMk rooms.length ((b : Int), nc) = fun i : Nat => ((b : Int) + (i : Int) + 1, if nc + 1 < (rooms.length : Int) then nc + 1 else (rooms.length : Int)) := rfl
    have est : (lnG ws r rooms rest).st ((b : Int), nc) = (upS (lnC ws r (lnRm rooms rest nc) b) (lnMk rooms.length ((b : Int), nc)) 0 (ws.length - b)).reverse := by
      show (upS (lnC ws r (lnRm rooms rest nc) (b : Int).toNat) _ 0 (ws.length - (b : Int).toNat)).reverse = _
      rw [Int.toNat_natCast]
    rw [est] at k
    generalize (if nc + 1 < (rooms.length : Int) then nc + 1 else (rooms.length : Int)) = be at *
    generalize lnMk rooms.length ((b : Int), nc) = mk at *
    generalize lnRm rooms rest nc = room at *
    refine s_rng2' (by omega) (by omega) (by omega) (by omega) ?_
    have en : ((ws.length : Int) + 1 - ((b : Int) + 1)).toNat = ws.length - b := by omega
    rw [en]
    refine n_forR w (fun i σ' F' M' => ∃ (acc : List (Rat × Nd)) (x9 x10 : Option V), σ' = [some x, some v, some (.int (b : Nat)), some (.int nc), some (.int room), some (.int (ws.length : Nat)), some (.int be), some (.ref pf), some (.int ((ws.drop b).take i).sum), x9, x10] ∧ F = F' ∧ M' = .ml pf (acc.map stD) :: M ∧ acc.length ≤ i ∧ acc ++ upS (lnC ws r room b) mk i (ws.length - b - i) = upS (lnC ws r room b) mk 0 (ws.length - b)) ⟨[], none, none, rfl, rfl, rfl, Nat.le_refl _, rfl⟩ ?_ ?_
    · clear w
      rintro i σ' H' F' M' hi ⟨acc, x9, x10, rfl, rfl, rfl, hal, ha⟩ w
      have hlt : b + i < ws.length := by omega
      obtain ⟨j, hj⟩ : ∃ j, ws.length - b - i = j + 1 := ⟨ws.length - b - i - 1, by omega⟩
      have hj2 : ws.length - b - (i + 1) = j := by omega
      rw [hj] at ha
      rw [hj2]
      have hs : ((ws.drop b).take (i + 1)).sum = ((ws.drop b).take i).sum + ws.getD (b + i) 0 := by
        have e : (ws.drop b)[i]? = some (ws.getD (b + i) 0) := by
          rw [List.getElem?_drop, List.getElem?_eq_getElem hlt, List.getD_eq_getElem?_getD, List.getElem?_eq_getElem hlt]
          rfl
        rw [List.take_add_one, e, List.sum_append]
        simp
      have hsb := ok.sum b (i + 1)
      wtm_at "n"
      refine n_ixN (ns := ws) (j := b + i) (by assumption) (.mem List.mem_cons_self) (by omega) hlt ?_
      wtm_at "n"
      rw [← hs]
      rename_i u3 w3 u4 w
      rw [show (b : Int) + 1 + (i : Int) - (b : Int) - 1 = ((i : Nat) : Int) by omega]
      have e1 : decide (V.int ((b : Int) + 1 + (i : Int)) = V.int ((ws.length : Nat) : Int)) = (b + i + 1 == ws.length) := by
        rw [Bool.eq_iff_iff, decide_eq_true_iff, beq_iff_eq]
        exact ⟨fun e => by have := V.int.inj e; omega, fun e => by rw [show (b : Int) + 1 + (i : Int) = ((ws.length : Nat) : Int) by omega]⟩
      have e2 : decide (V.int ((b : Int) + 1 + (i : Int)) = V.int ((b : Int) + 1)) = (i == 0) := by
        rw [Bool.eq_iff_iff, decide_eq_true_iff, beq_iff_eq]
        exact ⟨fun e => by have := V.int.inj e; omega, fun e => by rw [e]; simp⟩
      rw [e1, e2]
      refine n_costof (r := r) w (.mem List.mem_cons_self) ok.ok hsb.1 (by omega) (by omega) (by omega) hrm.1 hrm.2 fun cv H5 w => ?_
      have w : Wf ((cv, shD (lnC ws r room b i)) :: F) H5 (.ml pf (acc.map stD) :: M) := w.sub (KS.cons (.mem List.mem_cons_self) (KS.drop (KS.drop (KS.drop KS.refl)))) (.refl _)
      cases hc : lnC ws r room b i with
      | none =>
        rw [hc] at w
        obtain ⟨rfl, w⟩ := w.non0
        rw [upS_none hc, List.append_nil] at ha
        wtm_at "n"
        rename_i p2 H6 w2
        refine k p2 _ ?_
        rw [← ha, List.map_reverse]
        wtm_at "wf"
      | some c =>
        rw [hc] at w
        rw [upS_some hc] at ha
        obtain ⟨pc, rfl⟩ := (show Wf ((cv, .tup [.int c.num, .int (c.den : Int)]) :: F) H5 (.ml pf (acc.map stD) :: M) from w).tup0
        wtm_at "n"
        rename_i H6 w2
        have em : stD (c, mk i) = D.tup [shD (some c), D.tup [D.int ((b : Int) + 1 + (i : Int)), D.int be]] := by
          rw [emk]
          show D.tup [frq c, D.tup [D.int ((b : Int) + (i : Int) + 1), D.int be]] = _
          rw [show (b : Int) + (i : Int) + 1 = (b : Int) + 1 + (i : Int) by omega]
          rfl
        refine ⟨_, _, ⟨acc ++ [(c, mk i)], _, _, rfl, rfl, rfl, by rw [List.length_append, List.length_singleton]; omega, by rw [List.append_assoc]; exact ha⟩, ?_⟩
        rw [List.map_append, List.map_singleton, em]
        wtm_at "wf"
    clear w
    rintro σ' H' F' M' ⟨acc, x9, x10, rfl, rfl, rfl, hal, ha⟩ w
    rw [Nat.sub_self, show upS (lnC ws r room b) mk (ws.length - b) 0 = [] from rfl, List.append_nil] at ha
    wtm_at "n"
    rename_i p2 H6 w2
    refine k p2 _ ?_
    rw [← ha, List.map_reverse]
    wtm_at "wf"
abbrev s_foot_by : Stmt := top 46
theorem sc_foot_by : FnScope ["many", "high", "rule"] ["many", "high", "rule"] (defScope s_foot_by) := ⟨rfl, rfl, rfl, by decide +kernel, rfl, by decide +kernel, by decide +kernel⟩
def sp_foot_by : Sp := fun vs H Q _ => ∃ m h r : Int, vs = [.int m, .int h, .int r] ∧ Q (.int (if m = 0 then 0 else r + h)) H
theorem n_foot_by {H : Hp} {m h r : Int} {Q : VK} {E : XK} (q : Q (.int (if m = 0 then 0 else r + h)) H) : sp_foot_by ([.int m, .int h, .int r] ++ []) H Q E := ⟨m, h, r, rfl, q⟩

theorem ok_foot_by {f : Addr} {fd : FuncData} (F : Fun K "foot_by" "foot_by" s_foot_by f fd) (B : Bn mg)  : FnOk P wd K mg base CX0 1 f fd ["many", "high", "rule"] sp_foot_by := by
  refine F.ok sc_foot_by (fun vs H Q E h => ?_) (fun cdv A outer s H vs Q E hr h => ?_)
  · obtain ⟨m, h, r, rfl, k⟩ := h
    all_goals rfl
  · obtain ⟨m, h, r, rfl, k⟩ := h
    refine ⟨_, (pss_cons (ps_if (pt_cmpR (k_eq (K := K) rfl hr.units) (pv 0) pe_int (nomark _)) (pss_one (ps_ret pe_int)) pss_nil)
      (pss_one (ps_ret (pe_op (k_add (K := K) rfl) (pv 2) (pv 1))))), ?_⟩
    try dsimp only [cxOf, Cx.nox, Cx.wish, Cx.blk]
    wtm_at "n"
    wtm_at "fork"
    · rename_i e
      wtm_at "n"
      rw [if_pos e] at k
      exact k
    · rename_i e
      wtm_at "n"
      rw [if_neg e] at k
      exact k
abbrev s_Columns_steps_from : Stmt := inClass (top 47) 3
theorem sc_Columns_steps_from : FnScope ["self", "node", "begin", "column", "room", "behind", "many", "found", "highs", "called", "notes", "end", "strip", "solid", "cost", "fee"] ["self", "node"] (defScope s_Columns_steps_from) := ⟨rfl, rfl, rfl, by decide +kernel, rfl, by decide +kernel, by decide +kernel⟩
def sp_Columns_steps_from (P : Program) (wd : World) (K : PySem.W.Frag) (mg : Str → Option Value) (base : Heap) (C CP : Addr) : Sp := fun vs H Q _ => ∃ F M x v, ∃ (n : Nd), ∃ (xs : List Sp3) (r : Row) (rooms : List Int) (rest rule : Int) (fe : Fee) (L : List ME), vs = [x, v] ∧ Wf F H M ∧ Rk F M x (clO P wd K mg base C CP xs r rooms rest rule fe L) ∧ Rk F M v (nD n) ∧ ClOk xs r rooms rest rule ∧ FeeOk fe ∧ (∀ e ∈ L, e ∈ M) ∧ n ∈ lnU xs.length rooms.length ∧ ∀ p H', Wf F H' (.ml p (((clG xs r rooms rest rule fe).st n).map stD) :: M) → Q (.ref p) H'
theorem n_clsteps {P : Program} {wd : World} {K : PySem.W.Frag} {mg : Str → Option Value} {base : Heap} {C CP : Addr} {F : List (V × D)} {H : Hp} {M : List ME} {x v : V} {n : Nd} {xs : List Sp3} {r : Row} {rooms : List Int} {rest rule : Int} {fe : Fee} {L : List ME} {Q : VK} {E : XK} (ww : Wf F H M) (hx : Rk F M x (clO P wd K mg base C CP xs r rooms rest rule fe L)) (hv : Rk F M v (nD n)) (ok : ClOk xs r rooms rest rule) (hfe : FeeOk fe) (hL : ∀ e ∈ L, e ∈ M) (hn : n ∈ lnU xs.length rooms.length) (q : ∀ p H', Wf F H' (.ml p (((clG xs r rooms rest rule fe).st n).map stD) :: M) → Q (.ref p) H') : sp_Columns_steps_from P wd K mg base C CP (x :: ([v] ++ [])) H Q E := ⟨F, M, x, v, n, xs, r, rooms, rest, rule, fe, L, rfl, ww, hx, hv, ok, hfe, hL, hn, q⟩
theorem n_plusCl {F : List (V × D)} {H : Hp} {M : List ME} {u v : V} {p q : Rat} {Q : VK} {E : XK} (w : Wf F H M) (hu : Kn F u (frq p)) (hv : Kn F v (frq q)) (hp : Sz2 8000 3500 p) (hq : Sz2 8000 4400 q) (f : ∀ r H', Wf ((r, frq (p + q)) :: F) H' M → Q r H') : sp_plus ([u, v] ++ []) H Q E := by
  obtain ⟨I, Mc, w, k, h1, h2⟩ := w.old
  refine use_plus w (k _ _ hu) (k _ _ hv) (hp.sz (m := 8000) (by decide) (by decide)) (hq.sz (m := 8000) (by decide) (by decide)) (by decide) (by decide) ((hp.d.mul hq.d).mono (by decide)) fun r J H' s w' h => f r H' (h2 J H' r _ s w' h)
theorem s_midN {t : TS} {G : Ends} {σ : L2.St} {H : Hp} (Mid : L2.St → Hp → Prop) (k : ∀ σ H, Mid σ H → G.nx σ H) (h : ∀ N : L2.St → Hp → Prop, (∀ σ' H', Mid σ' H' → N σ' H') → t { G with nx := N } σ H) : t G σ H := h _ k
theorem s_ifC {c : TT} {t u : TS} {b : Bool} {G : Ends} {σ : L2.St} {H : Hp} (hc : ∀ R : Bool → Hp → Prop, R b H → c σ H R) (h1 : b = true → t G σ H) (h2 : b = false → u G σ H) : tIfS c t u G σ H := hc (fun b H1 => if b = true then t G σ H1 else u G σ H1) (by
  cases b with
  | true => show (if true = true then t G σ H else u G σ H); rw [if_pos rfl]; exact h1 rfl
  | false => show (if false = true then t G σ H else u G σ H); rw [if_neg (by simp)]; exact h2 rfl)
local macro_rules | `(tactic| wtm_at "sq") => `(tactic| repeat (first | ktr_call "x1" 0 | k_search "n1" | wtm_at "e1" | wtm_at "b1" | with_reducible refine s_seq ?_ | with_reducible refine s_next ?_))
theorem st_snd {xs : List Sp3} {i : Nat} {x : Sp3} (h : xs[i]? = some x) : xs.getD i sp0 = x := by rw [List.getD_eq_getElem?_getD, h]; rfl
theorem nb_stD (s : Rat × Nd) : NB 2 (stD s) := .tup fun d hd => by
  simp only [List.mem_cons, List.not_mem_nil, or_false] at hd
  rcases hd with rfl | rfl
  · exact .tup fun d hd => by simp only [List.mem_cons, List.not_mem_nil, or_false] at hd; rcases hd with rfl | rfl <;> exact .int _
  · exact .tup fun d hd => by simp only [List.mem_cons, List.not_mem_nil, or_false] at hd; rcases hd with rfl | rfl <;> exact .int _

theorem ok_Columns_steps_from {f : Addr} {fd : FuncData} (F : Fun K "steps_from" "Columns.steps_from" s_Columns_steps_from f fd) (B : Bn mg) (c_foot_by : Cal P wd K mg base "foot_by" 1 ["many", "high", "rule"] [] sp_foot_by) (c_cost_of : Cal P wd K mg base "cost_of" 6 ["solid", "many", "blank", "room", "last", "alone"] [] (sp_cost_of C_Part)) (c_plus : Cal P wd K mg base "plus" 3 ["one", "other"] [] sp_plus) (o_Columns : OwnC K C_Columns) (n_Columns : ∀ f ∈ (["strips", "feather", "rooms", "rest", "rule", "fee"] : List Str), NoAttr K C_Columns f)  : FnOk P wd K mg base CX0 9 f fd ["self", "node"] (sp_Columns_steps_from P wd K mg base C_Columns C_Part) := by
  refine F.ok sc_Columns_steps_from (fun vs H Q E h => ?_) (fun cdv A outer s H vs Q E hr h => ?_)
  · obtain ⟨F, M, x, v, n, xs, r, rooms, rest, rule, fe, L, rfl, ww, hx, hv, ok, hfe, hL, hn, k⟩ := h
    all_goals rfl
  · obtain ⟨F, M, x, v, n, xs, r, rooms, rest, rule, fe, L, rfl, ww, hx, hv, ok, hfe, hL, hn, k⟩ := h
    refine ⟨_, (pss_cons (ps_asg (pv 1) (kpg_tup (K := K) (n := 2) rfl rfl (pgs_cons (pg_name (i := 2) sc_Columns_steps_from.nd rfl (Or.inl rfl)) (pgs_cons (pg_name (i := 3) sc_Columns_steps_from.nd rfl (Or.inl rfl)) pgs_nil))))
      (pss_cons (ps_set (i := 4) sc_Columns_steps_from.nd rfl (Or.inl rfl) (kpe_fld (K := K) rfl (pv 0) rfl))
      (pss_cons (ps_if (pt_cmpR op_lt (pv 3) (pe_callB (k_len (K := K) rfl) (by rfl) B.len_ (by decide +kernel) (pa_cons (kpe_fld (K := K) rfl (pv 0) rfl) pa_nil)) (nomark _)) (pss_one (ps_set (i := 4) sc_Columns_steps_from.nd rfl (Or.inl rfl) (pe_ix (k_ix (K := K) rfl) (kpe_fld (K := K) rfl (pv 0) rfl) (pv 3) (fun _ _ => rfl)))) pss_nil)
      (pss_cons (ps_set (i := 5) sc_Columns_steps_from.nd rfl (Or.inl rfl) (pe_callB (k_min (K := K) rfl rfl) (by rfl) B.min_ (by decide +kernel) (pa_cons (pe_op (k_add (K := K) rfl) (pv 3) pe_int) (pa_cons (pe_callB (k_len (K := K) rfl) (by rfl) B.len_ (by decide +kernel) (pa_cons (kpe_fld (K := K) rfl (pv 0) rfl) pa_nil)) pa_nil))))
      (pss_cons (ps_set (i := 6) sc_Columns_steps_from.nd rfl (Or.inl rfl) (pe_callB (k_len (K := K) rfl) (by rfl) B.len_ (by decide +kernel) (pa_cons (kpe_fld (K := K) rfl (pv 0) rfl) pa_nil)))
      (pss_cons (ps_set (i := 7) sc_Columns_steps_from.nd rfl (Or.inl rfl) (pe_lst pa_nil))
      (pss_cons (ps_set (i := 8) sc_Columns_steps_from.nd rfl (Or.inl rfl) pe_int)
      (pss_cons (ps_set (i := 9) sc_Columns_steps_from.nd rfl (Or.inl rfl) pe_int)
      (pss_cons (ps_set (i := 10) sc_Columns_steps_from.nd rfl (Or.inl rfl) pe_int)
      (pss_cons (ps_for PassesOwn.never rfl (pi_range2 (by rfl) B.range_ (pa_cons (pe_op (k_add (K := K) rfl) (pv 2) pe_int) (pa_cons (pe_op (k_add (K := K) rfl) (pv 6) pe_int) pa_nil))) (pg_name (i := 11) sc_Columns_steps_from.nd rfl (Or.inl rfl)) (pss_cons (ps_set (i := 12) sc_Columns_steps_from.nd rfl (Or.inl rfl) (pe_ix (k_ix (K := K) rfl) (kpe_fld (K := K) rfl (pv 0) rfl) (pe_op op_sub (pv 11) pe_int) (fun _ _ => rfl)))
      (pss_cons (ps_aug (i := 8) sc_Columns_steps_from.nd rfl (Or.inl rfl) (pe_ix (k_ix (K := K) rfl) (pv 12) pe_int (fun _ _ => rfl)) ip_add)
      (pss_cons (ps_aug (i := 9) sc_Columns_steps_from.nd rfl (Or.inl rfl) (pe_callB (k_len (K := K) rfl) (by rfl) B.len_ (by decide +kernel) (pa_cons (pe_ix (k_ix (K := K) rfl) (pv 12) pe_int (fun _ _ => rfl)) pa_nil)) ip_add)
      (pss_cons (ps_aug (i := 10) sc_Columns_steps_from.nd rfl (Or.inl rfl) (pe_callB (k_sum (K := K) rfl rfl) (by rfl) B.sum_ (by decide +kernel) (pa_cons (pe_ix (k_ix (K := K) rfl) (pv 12) pe_int (fun _ _ => rfl)) pa_nil)) ip_add)
      (pss_one (ps_if (pw_or (pt_cmp (pc_notN (pe_ix (k_ix (K := K) rfl) (pv 12) pe_int (fun _ _ => rfl)))) (pw_or1 (pt_cmpR (k_eq (K := K) rfl hr.units) (pv 11) (pv 6) (nomark _)))).pt (pss_cons (ps_set (i := 13) sc_Columns_steps_from.nd rfl (Or.inl rfl) (pe_op (k_add (K := K) rfl) (pv 8) (pe_cal c_foot_by (hr.mono (by decide)) (by rfl) (pa_cons (pv 9) (pa_cons (pv 10) (pa_cons (kpe_fld (K := K) rfl (pv 0) rfl) pa_nil))))))
      (pss_cons (ps_set (i := 14) sc_Columns_steps_from.nd rfl (Or.inl rfl) (pe_cal c_cost_of (hr.mono (by decide)) (by rfl) (pa_cons (pv 13) (pa_cons (pe_op op_sub (pe_op op_sub (pv 11) (pv 2)) pe_int) (pa_cons (kpe_fld (K := K) rfl (pv 0) rfl) (pa_cons (pv 4) (pa_cons (pe_cmpR (k_eq (K := K) rfl hr.units) (pv 11) (pv 6) (nomark _)) (pa_cons (pe_cmpR (k_eq (K := K) rfl hr.units) (pv 7) (pe_lst pa_nil) (nomark _)) pa_nil))))))))
      (pss_cons (ps_if (pt_cmp (pc_isN (pv 14))) (pss_one ps_break) pss_nil)
      (pss_cons (ps_if (pt_cmpR op_lt (pv 11) (pv 6) (nomark _)) (pss_one (ps_set (i := 14) sc_Columns_steps_from.nd rfl (Or.inl rfl) (pe_cal c_plus (hr.mono (by decide)) (by rfl) (pa_cons (pv 14) (pa_cons (pe_tup (pa_cons (pe_ix (k_ix (K := K) rfl) (pv 12) pe_int (fun _ _ => rfl)) (pa_cons pe_int pa_nil))) pa_nil))))) pss_nil)
      (pss_cons (ps_if (pt_cmp (pc_notN (kpe_fld (K := K) rfl (pv 0) rfl))) (pss_cons (ps_set (i := 15) sc_Columns_steps_from.nd rfl (Or.inl rfl) (kpe_fld (K := K) rfl (pv 0) rfl))
      (pss_one (ps_set (i := 14) sc_Columns_steps_from.nd rfl (Or.inl rfl) (pe_cal c_plus (hr.mono (by decide)) (by rfl) (pa_cons (pv 14) (pa_cons (pe_tup (pa_cons (pe_callV (i := 15) (k := 8) rfl (Or.inl rfl) (hr.mono (by decide)) (pa_cons (pv 13) (pa_cons (pe_op op_sub (pe_op op_sub (pv 11) (pv 2)) pe_int) (pa_cons (pv 4) pa_nil)))) (pa_cons pe_int pa_nil))) pa_nil)))))) pss_nil)
      (pss_one (ps_expr (pe_bm PySem.F.plainAttrs_list PySem.F.slot_list_append PySem.F.type_list_append mt_append (pv 7) (pa_cons (pe_tup (pa_cons (pv 14) (pa_cons (pe_tup (pa_cons (pv 11) (pa_cons (pv 5) pa_nil))) pa_nil))) pa_nil))))))))) pss_nil)))))))
      (pss_one (ps_ret (pe_revL (pv 7)))))))))))))), ?_⟩
    try dsimp only [cxOf, Cx.nox, Cx.wish, Cx.blk]
    have hv : Rk F M v (.tup [.int n.1, .int n.2]) := hv
    obtain ⟨n0, n1, c0, c1⟩ := mem_lnU.mp hn
    obtain ⟨nb, nc⟩ := n
    obtain ⟨b, rfl⟩ : ∃ b : Nat, nb = b := ⟨nb.toNat, by simp only at n0; omega⟩
    simp only at n0 n1 c0 c1 hv
    have hxl := ok.xl
    have hl24 := ok.l24
    rw [show L2.start (["self", "node", "begin", "column", "room", "behind", "many", "found", "highs", "called", "notes", "end", "strip", "solid", "cost", "fee"] : List Str) [x, v] = [some x, some v, none, none, none, none, none, none, none, none, none, none, none, none, none, none] from rfl]
    wtm_at "s1"
    wtm_at "st2"
    with_reducible refine s_seq ?_
    wtm_at "st2"
    with_reducible refine s_mid (fun σ' H' => σ' = [some x, some v, some (.int (b : Nat)), some (.int nc), some (.int (lnRm rooms rest nc)), none, none, none, none, none, none, none, none, none, none, none] ∧ Wf F H' M) ?_ (fun N fin => ?_)
    rotate_left
    · wtm_at "n"
      rw [List.length_map]
      wtm_at "fork"
      · rename_i hlt
        wtm_at "n"
        refine n_ixN (ns := rooms) (j := nc.toNat) (by assumption) (.mem List.mem_cons_self) (by omega) (by omega) ?_
        wtm_at "n"
        exact fin _ _ ⟨by rw [lnRm, if_pos hlt]; rfl, by wtm_at "wf"⟩
      · rename_i hlt
        wtm_at "n"
        exact fin _ _ ⟨by rw [lnRm, if_neg hlt]; rfl, by wtm_at "wf"⟩
    clear ww
    rintro σ' H' ⟨rfl, ww⟩
    have hrm := ok.rm (c := nc) c0
    wtm_at "n"
    rw [List.length_map, List.length_map]
    have eb : (if ((rooms.length : Nat) : Int) < nc + 1 then ((rooms.length : Nat) : Int) else nc + 1) = (if nc + 1 < (rooms.length : Int) then nc + 1 else (rooms.length : Int)) := by split <;> split <;> omega
    rw [eb]
    rename_i u1 w1 u2 w2 pf Hf w3
    have ww : Wf F Hf (.ml pf [] :: M) := by wtm_at "wf"
    clear w1 w2 w3
    have est : (clG xs r rooms rest rule fe).st ((b : Int), nc) = (clS xs r rule (lnRm rooms rest nc) fe (lnMk rooms.length ((b : Int), nc)) b true 0 (xs.length - b)).reverse := by
      show (clS xs r rule _ fe _ (b : Int).toNat true 0 (xs.length - (b : Int).toNat)).reverse = _
      rw [Int.toNat_natCast]
    have emk : lnMk rooms.length ((b : Int), nc) = fun i : Nat => ((b : Int) + (i : Int) + 1, if nc + 1 < (rooms.length : Int) then nc + 1 else (rooms.length : Int)) := rfl
    rw [est] at k
    generalize (if nc + 1 < (rooms.length : Int) then nc + 1 else (rooms.length : Int)) = be at *
    generalize lnMk rooms.length ((b : Int), nc) = mk at *
    generalize lnRm rooms rest nc = room at *
    refine s_rng2' (by omega) (by omega) (by omega) (by omega) ?_
    have en : ((xs.length : Int) + 1 - ((b : Int) + 1)).toNat = xs.length - b := by omega
    rw [en]
    refine n_forR ww (fun i σ' F' M' => ∃ (acc : List (Rat × Nd)) (x11 x12 x13 x14 x15 : Option V), σ' = [some x, some v, some (.int (b : Nat)), some (.int nc), some (.int room), some (.int be), some (.int (xs.length : Nat)), some (.ref pf), some (.int (((xs.drop b).take i).map (·.h)).sum), some (.int (((xs.drop b).take i).map fun x => (x.ns.length : Int)).sum), some (.int (((xs.drop b).take i).map fun x => x.ns.sum).sum), x11, x12, x13, x14, x15] ∧ F = F' ∧ M' = .ml pf (acc.map stD) :: M ∧ acc.length ≤ i ∧ acc ++ clS xs r rule room fe mk b acc.isEmpty i (xs.length - b - i) = clS xs r rule room fe mk b true 0 (xs.length - b)) ⟨[], _, _, _, _, _, rfl, rfl, rfl, Nat.le_refl _, rfl⟩ ?_ ?_
    rotate_left
    · clear ww
      rintro σ' H' F' M' ⟨acc, x11, x12, x13, x14, x15, rfl, rfl, rfl, hal, ha⟩ ww
      rw [Nat.sub_self, show clS xs r rule room fe mk b acc.isEmpty (xs.length - b) 0 = [] from rfl, List.append_nil] at ha
      wtm_at "n"
      rename_i p2 H6 w2
      refine k p2 _ ?_
      rw [← ha, List.map_reverse]
      wtm_at "wf"
    clear ww
    rintro i σ' H' F' M' hi ⟨acc, x11, x12, x13, x14, x15, rfl, rfl, rfl, hal, ha⟩ ww
    have hlt : b + i < xs.length := by omega
    obtain ⟨s, hs⟩ : ∃ s, xs[b + i]? = some s := ⟨_, List.getElem?_eq_getElem hlt⟩
    have sok := ok.xb s (List.mem_of_getElem? hs)
    have hsd := st_snd hs
    obtain ⟨j, hj⟩ : ∃ j, xs.length - b - i = j + 1 := ⟨xs.length - b - i - 1, by omega⟩
    have hj2 : xs.length - b - (i + 1) = j := by omega
    rw [hj] at ha
    rw [hj2]
    have hdr : (xs.drop b)[i]? = some s := by rw [List.getElem?_drop]; exact hs
    have e1 : (((xs.drop b).take (i + 1)).map (·.h)).sum = (((xs.drop b).take i).map (·.h)).sum + s.h := by rw [List.take_add_one, hdr, List.map_append, List.sum_append]; simp
    have e2 : (((xs.drop b).take (i + 1)).map fun x => (x.ns.length : Int)).sum = (((xs.drop b).take i).map fun x => (x.ns.length : Int)).sum + (s.ns.length : Int) := by rw [List.take_add_one, hdr, List.map_append, List.sum_append]; simp
    have e3 : (((xs.drop b).take (i + 1)).map fun x => x.ns.sum).sum = (((xs.drop b).take i).map fun x => x.ns.sum).sum + s.ns.sum := by rw [List.take_add_one, hdr, List.map_append, List.sum_append]; simp
    have eso : (((xs.drop b).take (i + 1)).map (·.h)).sum + (if (((xs.drop b).take (i + 1)).map fun x => (x.ns.length : Int)).sum = 0 then 0 else rule + (((xs.drop b).take (i + 1)).map fun x => x.ns.sum).sum) = clSo xs rule b i := rfl
    have hso := ok.sol b i
    wtm_at "sq"
    refine n_ixM (f := spD) (z := sp0) (j := b + i) (by assumption) (.mem List.mem_cons_self) (by omega) hlt fun ps w2 => ?_
    rw [hsd] at w2
    have ww : Wf ((ps, spD s) :: F) H' (.ml pf (acc.map stD) :: M) := by wtm_at "wf"
    clear w2
    wtm_at "sq"
    rw [List.length_map]
    wtm_at "sq"
    refine n_sum (ns := s.ns) (by assumption) (.mem List.mem_cons_self) ?_
    wtm_at "sq"
    simp only [List.set_cons_succ, List.set_cons_zero]
    rw [← e1, ← e2, ← e3]
    clear e1 e2 e3
    have hps : ∀ G, Kn ((ps, spD s) :: G) ps (.tup [.int s.h, oD s.st, .lst (s.ns.map D.int)]) := fun G => .mem List.mem_cons_self
    have heq : decide (V.int ((b : Int) + 1 + (i : Int)) = V.int ((xs.length : Nat) : Int)) = (b + i + 1 == xs.length) := by
      rw [Bool.eq_iff_iff, decide_eq_true_iff, beq_iff_eq]
      exact ⟨fun e => by have := V.int.inj e; omega, fun e => by rw [show (b : Int) + 1 + (i : Int) = ((xs.length : Nat) : Int) by omega]⟩
    refine s_ifC (b := brkB xs (b + i + 1)) (fun R hR => ?_) (fun hbk => ?_) fun hbk => ?_
    · unfold brkB at hR
      rw [Nat.add_sub_cancel, hsd] at hR
      wtm_at "n"
      rename_i u3 w3
      cases hst : s.st with
      | some z =>
        rw [hst] at hR w3
        obtain ⟨rfl, _⟩ := (show Wf ((u3, .int z) :: _) H' _ from w3).eq0
        wtm_at "n"
        exact hR
      | none =>
        rw [hst] at hR w3
        obtain ⟨rfl, _⟩ := (show Wf ((u3, .non) :: _) H' _ from w3).non0
        wtm_at "n"
        rw [heq]
        exact hR
    rotate_left
    · have ha' : acc ++ clS xs r rule room fe mk b acc.isEmpty (i + 1) j = clS xs r rule room fe mk b true 0 (xs.length - b) := by
        rw [← ha]
        congr 1
        rw [clS, if_neg (by rw [hbk]; simp)]
      wtm_at "n"
      exact ⟨_, _, ⟨acc, _, _, _, _, _, rfl, rfl, rfl, by omega, ha'⟩, by wtm_at "wf"⟩
    have ha2 : clS xs r rule room fe mk b acc.isEmpty i (j + 1) = match clC xs r rule room fe b i acc.isEmpty with
        | none => []
        | some c => (c, mk i) :: clS xs r rule room fe mk b false (i + 1) j := by rw [clS, if_pos hbk]
    rw [ha2] at ha
    clear ha2
    wtm_at "sq"
    refine n_foot_by ?_
    wtm_at "sq"
    rw [eso]
    rw [show (b : Int) + 1 + (i : Int) - (b : Int) - 1 = ((i : Nat) : Int) by omega, heq]
    refine n_eq (d := .lst (acc.map stD)) (e := .lst []) (b := acc.isEmpty) (j := 5) (k := 5) (by assumption) (.ml (by simp)) (.ml List.mem_cons_self) (.lst fun d hd => by obtain ⟨t, _, rfl⟩ := List.mem_map.mp hd; exact (nb_stD t).mono (by decide)) (.lst fun d hd => (nomatch hd)) (by decide) (by decide) (by cases acc <;> simp) ?_
    wtm_at "sq"
    refine n_costof (r := r) (by assumption) (.mem (by simp)) ok.ok hso.1 hso.2 (by omega) (by omega) hrm.1 hrm.2 fun cv H5 w4 => ?_
    have ww : Wf ((cv, shD (cstO r (clSo xs rule b i) i room (b + i + 1 == xs.length) acc.isEmpty)) :: (ps, spD s) :: F) H5 (.ml pf (acc.map stD) :: M) := w4.sub (KS.cons (.mem List.mem_cons_self) (KS.cons (.mem (by simp)) fun f hf => .mem (by simp [hf]))) (by ktf_call "sl")
    clear w4
    have hcl : clC xs r rule room fe b i acc.isEmpty = (cstO r (clSo xs rule b i) i room (b + i + 1 == xs.length) acc.isEmpty).map fun c : Rat => c + ((stkI xs (b + i + 1) : Int) : Rat) + ((feeI fe (clSo xs rule b i) i room : Int) : Rat) := rfl
    cases hc : cstO r (clSo xs rule b i) i room (b + i + 1 == xs.length) acc.isEmpty with
    | none =>
      rw [hc] at ww
      rw [hcl, hc] at ha
      obtain ⟨rfl, ww⟩ := ww.non0
      rw [show (match Option.map (fun c : Rat => c + ((stkI xs (b + i + 1) : Int) : Rat) + ((feeI fe (clSo xs rule b i) i room : Int) : Rat)) (none : Option Rat) with | none => [] | some c => (c, mk i) :: clS xs r rule room fe mk b false (i + 1) j) = [] from rfl, List.append_nil] at ha
      wtm_at "n"
      rename_i p2 H6 w2
      refine k p2 _ ?_
      rw [← ha, List.map_reverse]
      wtm_at "wf"
    | some c =>
      rw [hc] at ww
      rw [hcl, hc] at ha
      have ha : acc ++ (c + ((stkI xs (b + i + 1) : Int) : Rat) + ((feeI fe (clSo xs rule b i) i room : Int) : Rat), mk i) :: clS xs r rule room fe mk b false (i + 1) j = clS xs r rule room fe mk b true 0 (xs.length - b) := ha
      have hcz := cst_sz1 ok.ok hso.1 hso.2 (m := i) (by omega) (by omega) hrm.1 hrm.2 hc
      have hstk := ok.stk (b + i + 1)
      have hfz : 0 ≤ feeI fe (clSo xs rule b i) i room ∧ feeI fe (clSo xs rule b i) i room ≤ 1000000000000000000 := by
        unfold feeI
        split
        · exact ⟨by decide, by decide⟩
        · exact hfe _ rfl _ _ _ hso.1 hso.2 (by omega) (by omega) hrm.1 hrm.2
      obtain ⟨pc, rfl⟩ := (show Wf ((cv, .tup [.int c.num, .int (c.den : Int)]) :: (ps, spD s) :: F) H5 (.ml pf (acc.map stD) :: M) from ww).tup0
      wtm_at "sq"
      with_reducible refine s_ifS ?_
      wtm_at "sq"
      simp only [List.set_cons_succ, List.set_cons_zero]
      with_reducible refine s_midN (fun σ' H' => ∃ cv2, σ' = [some x, some v, some (.int (b : Nat)), some (.int nc), some (.int room), some (.int be), some (.int (xs.length : Nat)), some (.ref pf), some (.int (((xs.drop b).take (i + 1)).map (·.h)).sum), some (.int (((xs.drop b).take (i + 1)).map fun x => (x.ns.length : Int)).sum), some (.int (((xs.drop b).take (i + 1)).map fun x => x.ns.sum).sum), some (.int ((b : Int) + 1 + (i : Int))), some ps, some (.int (clSo xs rule b i)), some cv2, x15] ∧ Wf ((cv2, frq (c + ((stkI xs (b + i + 1) : Int) : Rat))) :: (ps, spD s) :: F) H' (.ml pf (acc.map stD) :: M)) ?_ (fun N fin => ?_)
      rotate_left
      · wtm_at "n"
        wtm_at "fork"
        · rename_i hlt2
          have es : ∃ z, s.st = some z := by
            unfold brkB at hbk
            rw [Nat.add_sub_cancel, hsd, show (b + i + 1 == xs.length) = false by simp; omega, Bool.or_false] at hbk
            exact Option.isSome_iff_exists.mp hbk
          obtain ⟨z, ez⟩ := es
          have ek : stkI xs (b + i + 1) = z := by
            unfold stkI
            rw [if_pos (by omega), Nat.add_sub_cancel, hsd, ez]
            rfl
          rw [ek] at hstk fin
          wtm_at "sq"
          rename_i u4 w4 t4 H6 w6
          rw [ez] at w6
          refine n_plusCl (p := c) (q := (z : Rat)) w6 (.mem (List.mem_cons_of_mem _ (List.mem_cons_of_mem _ List.mem_cons_self))) (.mem List.mem_cons_self) (hcz.mono (by decide) (by decide)) ⟨Bd.of (k := 8000) 1000000 (by show (z : Rat).num.natAbs ≤ _; rw [show (z : Rat).num = z from rfl]; omega) (by decide), Bd.of (k := 4400) 1 (by show ((1 : Nat) : Int).natAbs ≤ 1; decide) (by decide)⟩ fun r4 H7 w7 => ?_
          wtm_at "sq"
          exact fin _ _ ⟨r4, rfl, w7.sub (KS.cons (.mem List.mem_cons_self) (KS.cons (.mem (by simp)) fun f hf => .mem (by simp [hf]))) (.refl _)⟩
        · rename_i hlt2
          have ek : stkI xs (b + i + 1) = 0 := by
            unfold stkI
            rw [if_neg (by omega)]
          wtm_at "sq"
          refine fin _ _ ⟨_, rfl, ?_⟩
          rw [ek, show c + ((0 : Int) : Rat) = c from Rat.add_zero c]
          exact ww
      clear ww
      rintro σ' H' ⟨cv2, rfl, ww⟩
      have hcz2 : Sz2 1500 18 (c + ((stkI xs (b + i + 1) : Int) : Rat)) := hcz.addI (n := 1500) (Bd.of (k := 60) 1000000 (by omega)) (by omega) (by omega)
      with_reducible refine s_mid (fun σ' H' => ∃ cv3 x15, σ' = [some x, some v, some (.int (b : Nat)), some (.int nc), some (.int room), some (.int be), some (.int (xs.length : Nat)), some (.ref pf), some (.int (((xs.drop b).take (i + 1)).map (·.h)).sum), some (.int (((xs.drop b).take (i + 1)).map fun x => (x.ns.length : Int)).sum), some (.int (((xs.drop b).take (i + 1)).map fun x => x.ns.sum).sum), some (.int ((b : Int) + 1 + (i : Int))), some ps, some (.int (clSo xs rule b i)), some cv3, x15] ∧ Wf ((cv3, frq (c + ((stkI xs (b + i + 1) : Int) : Rat) + ((feeI fe (clSo xs rule b i) i room : Int) : Rat))) :: F) H' (.ml pf (acc.map stD) :: M)) ?_ (fun N fin => ?_)
      rotate_left
      · cases fe with
        | none =>
          wtm_at "n"
          exact fin _ _ ⟨cv2, _, rfl, by
            rw [show c + ((stkI xs (b + i + 1) : Int) : Rat) + ((feeI none (clSo xs rule b i) i room : Int) : Rat) = c + ((stkI xs (b + i + 1) : Int) : Rat) from Rat.add_zero _]
            wtm_at "wf"⟩
        | some fee =>
          have hfz : 0 ≤ fee (clSo xs rule b i) i room ∧ fee (clSo xs rule b i) i room ≤ 1000000000000000000 := hfz
          wtm_at "sq"
          with_reducible refine s_ifS ?_
          wtm_at "sq"
          rename_i u5 w5
          obtain ⟨I5, ⟨f5, ef5, _⟩, _⟩ := w5.fnV (P := P) (w := wd) (K := K) (mg := mg) (base := base) (k := 8) (sp := spFee L fee) (.mem List.mem_cons_self)
          subst ef5
          wtm_at "sq"
          rename_i u6 w6
          refine ⟨_, rfl, n_isFn w6 (P := P) (w := wd) (K := K) (mg := mg) (base := base) (k := 8) (sp := spFee L fee) (.mem List.mem_cons_self), ?_⟩
          wtm_at "sq"
          rw [show (b : Int) + 1 + (i : Int) - (b : Int) - 1 = ((i : Nat) : Int) by omega]
          refine n_callV w6 (P := P) (w := wd) (K := K) (mg := mg) (base := base) (k := 8) (sp := spFee L fee) (.mem List.mem_cons_self) ⟨_, _, _, _, _, rfl, w6, fun e he => List.mem_cons_of_mem _ (hL e he), hso.1, hso.2, by omega, by omega, hrm.1, hrm.2, fun H6 w7 => ?_⟩
          wtm_at "sq"
          rename_i t4 H7 w8
          refine n_plusCl (p := c + ((stkI xs (b + i + 1) : Int) : Rat)) (q := ((fee (clSo xs rule b i) i room : Int) : Rat)) w8 (.mem (by simp)) (.mem List.mem_cons_self) (hcz2.mono (by decide) (by decide)) ⟨Bd.of (k := 8000) 1000000000000000000 (by show ((fee (clSo xs rule b i) i room : Int) : Rat).num.natAbs ≤ _; rw [show ((fee (clSo xs rule b i) i room : Int) : Rat).num = fee (clSo xs rule b i) i room from rfl]; omega) (by decide), Bd.of (k := 4400) 1 (by show ((1 : Nat) : Int).natAbs ≤ 1; decide) (by decide)⟩ fun r4 H8 w9 => ?_
          wtm_at "sq"
          exact fin _ _ ⟨r4, _, rfl, w9.sub (KS.cons (.mem List.mem_cons_self) fun f hf => .mem (by simp [hf])) (.refl _)⟩
      clear ww
      rintro σ' H' ⟨cv3, x15', rfl, ww⟩
      have hcz3 : Sz2 2000 18 (c + ((stkI xs (b + i + 1) : Int) : Rat) + ((feeI fe (clSo xs rule b i) i room : Int) : Rat)) := hcz2.addI (n := 2000) (Bd.of (k := 60) 1000000000000000000 (by omega)) (by omega) (by omega)
      obtain ⟨pc3, rfl⟩ := (show Wf ((cv3, .tup [.int (c + ((stkI xs (b + i + 1) : Int) : Rat) + ((feeI fe (clSo xs rule b i) i room : Int) : Rat)).num, .int ((c + ((stkI xs (b + i + 1) : Int) : Rat) + ((feeI fe (clSo xs rule b i) i room : Int) : Rat)).den : Int)]) :: F) H' (.ml pf (acc.map stD) :: M) from ww).tup0
      wtm_at "n"
      rename_i H6 w2
      have em : stD (c + ((stkI xs (b + i + 1) : Int) : Rat) + ((feeI fe (clSo xs rule b i) i room : Int) : Rat), mk i) = D.tup [frq (c + ((stkI xs (b + i + 1) : Int) : Rat) + ((feeI fe (clSo xs rule b i) i room : Int) : Rat)), D.tup [D.int ((b : Int) + 1 + (i : Int)), D.int be]] := by
        rw [emk]
        show D.tup [_, D.tup [D.int ((b : Int) + (i : Int) + 1), D.int be]] = _
        rw [show (b : Int) + (i : Int) + 1 = (b : Int) + 1 + (i : Int) by omega]
      refine ⟨_, _, ⟨acc ++ [(c + ((stkI xs (b + i + 1) : Int) : Rat) + ((feeI fe (clSo xs rule b i) i room : Int) : Rat), mk i)], _, _, _, _, _, rfl, rfl, rfl, by rw [List.length_append, List.length_singleton]; omega, by rw [List.append_assoc, show (acc ++ [(c + ((stkI xs (b + i + 1) : Int) : Rat) + ((feeI fe (clSo xs rule b i) i room : Int) : Rat), mk i)]).isEmpty = false by simp]; exact ha⟩, ?_⟩
      rw [List.map_append, List.map_singleton, em]
      wtm_at "wf"
/-! ### the ways of this law: lines and columns -/
def WOl (C CP : Addr) (F : List (V × D)) (M : List ME) (x : V) (g : Wgr) (U : List Nd) (N : Nat) : Prop := ∃ (ws : List Int) (r : Row) (rooms : List Int) (rest : Int), Rk F M x (lnO C CP ws r rooms rest) ∧ LnOk ws r rooms rest ∧ g = lnG ws r rooms rest ∧ U = lnU ws.length rooms.length ∧ N = ws.length
def WOc (P : Program) (wo : World) (K : PySem.W.Frag) (mg : Str → Option Value) (base : Heap) (C CP : Addr) (F : List (V × D)) (M : List ME) (x : V) (g : Wgr) (U : List Nd) (N : Nat) : Prop := ∃ (xs : List Sp3) (r : Row) (rooms : List Int) (rest rule : Int) (fe : Fee) (L : List ME), Rk F M x (clO P wo K mg base C CP xs r rooms rest rule fe L) ∧ ClOk xs r rooms rest rule ∧ FeeOk fe ∧ (∀ e ∈ L, e ∈ M) ∧ g = clG xs r rooms rest rule fe ∧ U = lnU xs.length rooms.length ∧ N = xs.length
def WO (P : Program) (wo : World) (K : PySem.W.Frag) (mg : Str → Option Value) (base : Heap) (CL CP CC : Addr) (F : List (V × D)) (M : List ME) (x : V) (g : Wgr) (U : List Nd) (N : Nat) : Prop := WOl CL CP F M x g U N ∨ WOc P wo K mg base CC CP F M x g U N
section
variable {P : Program} {wo : World} {K : PySem.W.Frag} {mg : Str → Option Value} {base : Heap} {CL CP CC : Addr} {F : List (V × D)} {H : Hp} {M : List ME} {x v : V} {n : Nd} {g : Wgr} {U : List Nd} {N : Nat} {Q : VK} {σ : L2.St} {i : Nat} {tA : TA}
theorem WO.ok (h : WO P wo K mg base CL CP CC F M x g U N) : WgOk g U N 18 := by
  rcases h with ⟨ws, r, rooms, rest, _, ok, rfl, rfl, rfl⟩ | ⟨xs, r, rooms, rest, rule, fe, L, _, ok, fk, _, rfl, rfl, rfl⟩
  · exact ln_ok ok
  · exact cl_ok ok fk
theorem WO.more {f : V × D} (h : WO P wo K mg base CL CP CC F M x g U N) : WO P wo K mg base CL CP CC (f :: F) M x g U N := by
  rcases h with ⟨ws, r, rooms, rest, a, b⟩ | ⟨xs, r, rooms, rest, rule, fe, L, a, b⟩
  · exact .inl ⟨ws, r, rooms, rest, a.moreF, b⟩
  · exact .inr ⟨xs, r, rooms, rest, rule, fe, L, a.moreF, b⟩
theorem WO.moreM {e : ME} (h : WO P wo K mg base CL CP CC F M x g U N) : WO P wo K mg base CL CP CC F (e :: M) x g U N := by
  rcases h with ⟨ws, r, rooms, rest, a, b⟩ | ⟨xs, r, rooms, rest, rule, fe, L, a, b, c, d, e⟩
  · exact .inl ⟨ws, r, rooms, rest, a.more, b⟩
  · exact .inr ⟨xs, r, rooms, rest, rule, fe, L, a.more, b, c, fun q hq => List.mem_cons_of_mem _ (d q hq), e⟩
theorem WO.of {ws : List Int} {r : Row} {rooms : List Int} {rest : Int} (h : Rk F M x (lnO CL CP ws r rooms rest)) (ok : LnOk ws r rooms rest) : WO P wo K mg base CL CP CC F M x (lnG ws r rooms rest) (lnU ws.length rooms.length) ws.length := .inl ⟨ws, r, rooms, rest, h, ok, rfl, rfl, rfl⟩
theorem WO.ofC {xs : List Sp3} {r : Row} {rooms : List Int} {rest rule : Int} {fe : Fee} {L : List ME} (h : Rk F M x (clO P wo K mg base CC CP xs r rooms rest rule fe L)) (ok : ClOk xs r rooms rest rule) (fk : FeeOk fe) (hL : ∀ e ∈ L, e ∈ M) : WO P wo K mg base CL CP CC F M x (clG xs r rooms rest rule fe) (lnU xs.length rooms.length) xs.length := .inr ⟨xs, r, rooms, rest, rule, fe, L, h, ok, fk, hL, rfl, rfl, rfl⟩
theorem n_wofirst (hi : σ[i]? = some (some x)) (w : Wf F H M) (h : WO P wo K mg base CL CP CC F M x g U N) (q : ∀ r H', Wf ((r, nD (0, 0)) :: F) H' M → Q r H') : tMeth CL "first_node" sp_Lines_first_node [] E0 (tVar i) tNil σ H Q ∨ tMeth CC "first_node" sp_Columns_first_node [] E0 (tVar i) tNil σ H Q := by
  rcases h with ⟨ws, r, rooms, rest, a, b⟩ | ⟨xs, r, rooms, rest, rule, fe, L, a, b⟩
  · exact .inl (s_meth ⟨x, hi, n_meth w a (by simp only [List.map_cons, List.map_nil]; decide) (s_nil (n_lnfirst w q))⟩)
  · exact .inr (s_meth ⟨x, hi, n_meth w a (by simp only [List.map_cons, List.map_nil]; decide) (s_nil (n_clfirst w q))⟩)
theorem n_woend (hi : σ[i]? = some (some x)) (ha : ∀ R : List V → Hp → Prop, R [v] H → tA σ H R) (w : Wf F H M) (h : WO P wo K mg base CL CP CC F M x g U N) (hv : Rk F M v (nD n)) (q : ∀ H', Wf F H' M → Q (.bl (g.fin n)) H') : tMeth CL "is_end" (sp_Lines_is_end CL CP) [] E0 (tVar i) tA σ H Q ∨ tMeth CC "is_end" (sp_Columns_is_end P wo K mg base CC CP) [] E0 (tVar i) tA σ H Q := by
  rcases h with ⟨ws, r, rooms, rest, a, lok, rfl, rfl, rfl⟩ | ⟨xs, r, rooms, rest, rule, fe, L, a, lok, fk, hL, rfl, rfl, rfl⟩
  · exact .inl (s_meth ⟨x, hi, n_meth w a (by simp only [List.map_cons, List.map_nil]; decide) (ha _ (n_lnend w a hv q))⟩)
  · exact .inr (s_meth ⟨x, hi, n_meth w a (by simp only [List.map_cons, List.map_nil]; decide) (ha _ (n_clend w a hv q))⟩)
theorem n_wosteps (hi : σ[i]? = some (some x)) (ha : ∀ R : List V → Hp → Prop, R [v] H → tA σ H R) (w : Wf F H M) (h : WO P wo K mg base CL CP CC F M x g U N) (hv : Rk F M v (nD n)) (hn : n ∈ U) (q : ∀ p H', Wf F H' (.ml p ((g.st n).map stD) :: M) → Q (.ref p) H') : tMeth CL "steps_from" (sp_Lines_steps_from CL CP) [] E0 (tVar i) tA σ H Q ∨ tMeth CC "steps_from" (sp_Columns_steps_from P wo K mg base CC CP) [] E0 (tVar i) tA σ H Q := by
  rcases h with ⟨ws, r, rooms, rest, a, lok, rfl, rfl, rfl⟩ | ⟨xs, r, rooms, rest, rule, fe, L, a, lok, fk, hL, rfl, rfl, rfl⟩
  · exact .inl (s_meth ⟨x, hi, n_meth w a (by simp only [List.map_cons, List.map_nil]; decide) (ha _ (n_lnsteps w a hv lok hn q))⟩)
  · exact .inr (s_meth ⟨x, hi, n_meth w a (by simp only [List.map_cons, List.map_nil]; decide) (ha _ (n_clsteps w a hv lok fk hL hn q))⟩)
end
local macro_rules | `(tactic| wtm_at "wo") => `(tactic| first | assumption | ((refine' WO.more ?h); (case h => wtm_at "wo")) | ((refine' WO.moreM ?h); (case h => wtm_at "wo")))
local macro_rules | `(tactic| wtm_at "wopen") => `(tactic| skip)
local macro_rules | `(tactic| wtm_at "wfirst") => `(tactic| ((refine' n_wofirst ?i (by assumption) ?x ?_); (case i => exact rfl); (case x => wtm_at "wo"); (intro r H' w')))
local macro_rules | `(tactic| wtm_at "wend") => `(tactic| ((refine' n_woend ?i ?a (by assumption) ?x ?v ?_); (case i => exact rfl); (case a => (intro R hR; wtm_at "n"; exact hR)); (case x => wtm_at "wo"); (case v => ktf_call "rk"); (intro H' w')))
local macro_rules | `(tactic| wtm_at "wsteps") => `(tactic| ((refine' n_wosteps ?i ?a (by assumption) ?x ?v ?u ?_); (case i => exact rfl); (case a => (intro R hR; wtm_at "n"; exact hR)); (case x => wtm_at "wo"); (case v => ktf_call "rk"); (case u => assumption); (intro p H' w')))

abbrev s_steps_known : Stmt := top 33
theorem sc_steps_known : FnScope ["ways", "found", "waiting", "node", "cost", "after"] ["ways"] (defScope s_steps_known) := ⟨rfl, rfl, rfl, by decide +kernel, rfl, by decide +kernel, by decide +kernel⟩
def sp_steps_known (P : Program) (wo : World) (K : PySem.W.Frag) (mg : Str → Option Value) (base : Heap) (C_Lines C_Part C_Columns : Addr) : Sp := fun vs H Q _ => ∃ F M x, ∃ (g : Wgr) (U : List Nd) (N : Nat), vs = [x] ∧ Wf F H M ∧ WO P wo K mg base C_Lines C_Part C_Columns F M x g U N ∧ ∀ p H' (ns : List Nd), ns.Nodup → (∀ n, n ∈ ns ↔ Reach g n) → Wf F H' (.dt p (tabN (fdD g) ns) :: M) → Q (.ref p) H'
theorem n_known {P : Program} {wo : World} {K : PySem.W.Frag} {mg : Str → Option Value} {base : Heap} {C_Lines C_Part C_Columns : Addr} {F : List (V × D)} {H : Hp} {M : List ME} {x : V} {g : Wgr} {U : List Nd} {N : Nat} {Q : VK} {E : XK} (w : Wf F H M) (h : WO P wo K mg base C_Lines C_Part C_Columns F M x g U N) (q : ∀ p H' (ns : List Nd), ns.Nodup → (∀ n, n ∈ ns ↔ Reach g n) → Wf F H' (.dt p (tabN (fdD g) ns) :: M) → Q (.ref p) H') : sp_steps_known P wo K mg base C_Lines C_Part C_Columns ([x] ++ []) H Q E := ⟨F, M, x, g, U, N, rfl, w, h, q⟩

theorem ok_steps_known {f : Addr} {fd : FuncData} (F : Fun K "steps_known" "steps_known" s_steps_known f fd) (B : Bn mg) (t_Lines_first_node : Met P wd K mg base "first_node" C_Lines 1 ["self"] [] (sp_Lines_first_node)) (t_Columns_first_node : Met P wd K mg base "first_node" C_Columns 1 ["self"] [] (sp_Columns_first_node)) (t_Lines_is_end : Met P wd K mg base "is_end" C_Lines 1 ["self", "node"] [] (sp_Lines_is_end C_Lines C_Part)) (t_Columns_is_end : Met P wd K mg base "is_end" C_Columns 1 ["self", "node"] [] (sp_Columns_is_end P wd K mg base C_Columns C_Part)) (t_Lines_steps_from : Met P wd K mg base "steps_from" C_Lines 7 ["self", "node"] [] (sp_Lines_steps_from C_Lines C_Part)) (t_Columns_steps_from : Met P wd K mg base "steps_from" C_Columns 9 ["self", "node"] [] (sp_Columns_steps_from P wd K mg base C_Columns C_Part))  : FnOk P wd K mg base CX0 10 f fd ["ways"] (sp_steps_known P wd K mg base C_Lines C_Part C_Columns) := by
  refine F.ok sc_steps_known (fun vs H Q E h => ?_) (fun cdv A outer s H vs Q E hr h => ?_)
  · obtain ⟨F, M, x, g, U, N, rfl, w, h, k⟩ := h
    all_goals rfl
  · obtain ⟨F, M, x, g, U, N, rfl, w, h, k⟩ := h
    refine ⟨_, (pss_cons (ps_set (i := 1) sc_steps_known.nd rfl (Or.inl rfl) pe_dnewT)
      (pss_cons (ps_set (i := 2) sc_steps_known.nd rfl (Or.inl rfl) (pe_lst (pa_cons (pe_two (pe_met0 (pv 0) t_Lines_first_node (hr.mono (by decide))) (pe_met0 (pv 0) t_Columns_first_node (hr.mono (by decide)))) pa_nil)))
      (pss_cons (ps_while PassesOwn.never (pt_cmpR op_gt (pe_callB (k_len (K := K) rfl) (by rfl) B.len_ (by decide +kernel) (pa_cons (pv 2) pa_nil)) pe_int (nomark _)) (pss_cons (ps_set (i := 3) sc_steps_known.nd rfl (Or.inl rfl) (pe_bm0 PySem.F.plainAttrs_list PySem.F.slot_list_pop PySem.F.type_list_pop mt_pop (pv 2)))
      (pss_one (ps_if (pt_cmp (pc_dnotin (hu1 hr.units) (pv 3) (pv 1))) (pss_cons (ps_dput (hu1 hr.units) (pv 1) (pv 3) pe_non rfl)
      (pss_one (ps_if (pt_not (pt_val (pe_two (pe_met (pv 0) t_Lines_is_end (hr.mono (by decide)) (pa_cons (pv 3) pa_nil)) (pe_met (pv 0) t_Columns_is_end (hr.mono (by decide)) (pa_cons (pv 3) pa_nil))))) (pss_cons (ps_dput (hu1 hr.units) (pv 1) (pv 3) (pe_two (pe_met (pv 0) t_Lines_steps_from (hr.mono (by decide)) (pa_cons (pv 3) pa_nil)) (pe_met (pv 0) t_Columns_steps_from (hr.mono (by decide)) (pa_cons (pv 3) pa_nil))) rfl)
      (pss_one (ps_for PassesOwn.never rfl (kpi_list (K := K) rfl (pe_dget (hu1 hr.units) (pv 1) (pv 3) (fun _ _ => rfl))) (kpg_tup (K := K) (n := 2) rfl rfl (pgs_cons (pg_name (i := 4) sc_steps_known.nd rfl (Or.inl rfl)) (pgs_cons (pg_name (i := 5) sc_steps_known.nd rfl (Or.inl rfl)) pgs_nil))) (pss_one (ps_expr (pe_bm PySem.F.plainAttrs_list PySem.F.slot_list_append PySem.F.type_list_append mt_append (pv 2) (pa_cons (pv 5) pa_nil))))))) pss_nil))) pss_nil))))
      (pss_one (ps_ret (pv 1)))))), ?_⟩
    try dsimp only [cxOf, Cx.nox, Cx.wish, Cx.blk]
    have ok := h.ok
    rw [show L2.start (["ways", "found", "waiting", "node", "cost", "after"] : List Str) [x] = [some x, none, none, none, none, none] from rfl]
    wtm_at "n"
    refine s_dnewT w fun pf H1 w => ?_
    wtm_at "wopen"
    wtm_at "n"
    wtm_at "wfirst"
    rename_i r0 H2 w
    wtm_at "n"
    rename_i pw H3 w
    have w : Wf F H3 (.ml pw [nD (0, 0)] :: .dt pf [] :: M) := by wtm_at "wf"
    refine n_whileG w (fun μ σ' F' M' => ∃ (ns wt : List Nd) (x3 x4 x5 : Option V), σ' = [some x, some (.ref pf), some (.ref pw), x3, x4, x5] ∧ F = F' ∧ M' = .ml pw (wt.map nD) :: .dt pf (tabN (fdD g) ns) :: M ∧ StK g U ns wt ∧ μ = wt.length + restN g U ns ∧ μ ≤ 5000001) (1 + restN g U []) ⟨[], [(0, 0)], _, _, _, rfl, rfl, rfl, StK.start, rfl, by rw [rest_all]; have := ok.tot; omega⟩ ?_
    rintro μ σ' H' F' M' ⟨ns, wt, x3, x4, x5, rfl, rfl, rfl, hs, hμ, hb⟩ w
    wtm_at "n"
    rw [List.length_map]
    wtm_at "fork"
    · rename_i hpos
      refine n_wG ?_
      obtain ⟨wt', n, rfl⟩ : ∃ wt' n, wt = wt' ++ [n] := ⟨wt.dropLast, wt.getLast (fun e => by rw [e] at hpos; simp at hpos), (List.dropLast_concat_getLast _).symm⟩
      wtm_at "n"
      refine n_popD (d := nD n) w .here (by simp) fun y H4 w => ?_
      rw [List.map_append, List.map_singleton, List.dropLast_concat] at w
      have hrn : Reach g n := hs.rw n (List.mem_append_right _ List.mem_cons_self)
      have hnU : n ∈ U := hrn.inU ok
      rw [List.length_append, List.length_singleton] at hμ
      wtm_at "n"
      refine n_dinT (k := ndK n) w (by ktf_call "mem") (.mem List.mem_cons_self) ?_
      rw [tab_get]
      by_cases hin : n ∈ ns
      · rw [if_pos hin, Option.isSome_some]
        wtm_at "n"
        exact ⟨wt'.length + restN g U ns, by omega, F, _, ⟨ns, wt', _, _, _, rfl, rfl, rfl, hs.skip hin, rfl, by omega⟩, by wtm_at "wf"⟩
      · rw [if_neg hin, Option.isSome_none]
        have hless := rest_less (g := g) hnU hin
        have hlen := hs.len ok
        wtm_at "n"
        refine n_dputT (k := ndK n) (d := .non) w (by ktf_call "foc") (.mem List.mem_cons_self) .non (by rw [tab_len]; omega) fun H5 w => ?_
        rw [tab_new hin] at w
        have hyn : Rk ((y, nD n) :: F) (.ml pw (wt'.map nD) :: .dt pf (tabN (fdD g) ns ++ [(ndK n, .non)]) :: M) y (nD n) := .mem List.mem_cons_self
        have hwo : WO P wd K mg base C_Lines C_Part C_Columns ((y, nD n) :: F) (.ml pw (wt'.map nD) :: .dt pf (tabN (fdD g) ns ++ [(ndK n, .non)]) :: M) x g U N := by wtm_at "wo"
        wtm_at "wopen"
        wtm_at "n"
        wtm_at "wend"
        rename_i H6 w
        wtm_at "n"
        cases hf : g.fin n with
        | true =>
          wtm_at "n"
          refine ⟨wt'.length + restN g U (ns ++ [n]), by omega, F, _, ⟨ns ++ [n], wt', _, _, _, rfl, rfl, rfl, ?_, rfl, by omega⟩, ?_⟩
          · have := hs.more (es := []) hin (fun _ h => nomatch h) fun e => by rw [hf] at e; cases e
            rw [List.append_nil] at this
            exact this
          · rw [tab_snoc, show fdD g n = .non from if_pos hf]
            wtm_at "wf"
        | false =>
          wtm_at "n"
          wtm_at "wsteps"
          rename_i pl H7 w
          have w := w.frzL .here
          wtm_at "n"
          refine n_dputT (k := ndK n) (d := .lst ((g.st n).map stD)) w (by ktf_call "foc") (.mem (List.mem_cons_of_mem _ List.mem_cons_self)) (.mem List.mem_cons_self) (by rw [List.length_append, tab_len, List.length_singleton]; omega) fun H8 w => ?_
          rw [tab_again hin] at w
          have efd : fdD g n = .lst ((g.st n).map stD) := by unfold fdD; rw [if_neg (by rw [hf]; simp)]
          rw [← efd, ← tab_snoc] at w
          have w : Wf ((y, nD n) :: F) H8 (.ml pw (wt'.map nD) :: .dt pf (tabN (fdD g) (ns ++ [n])) :: M) := by wtm_at "wf"
          wtm_at "n"
          refine n_dgetT (k := ndK n) w (by ktf_call "mem") (.mem List.mem_cons_self) (tab_in (List.mem_append_right _ List.mem_cons_self)) fun u w => ?_
          rw [efd] at w
          have w : Wf ((u, .lst ((g.st n).map stD)) :: F) H8 (.ml pw (wt'.map nD) :: .dt pf (tabN (fdD g) (ns ++ [n])) :: M) := by wtm_at "wf"
          refine n_forL w (fun i σ' F' M' => ∃ (x4 x5 : Option V), σ' = [some x, some (.ref pf), some (.ref pw), some y, x4, x5] ∧ F' = (u, .lst ((g.st n).map stD)) :: F ∧ M' = .ml pw ((wt' ++ ((g.st n).take i).map (·.2)).map nD) :: .dt pf (tabN (fdD g) (ns ++ [n])) :: M) (by rintro i σ' F' M' ⟨_, _, rfl, rfl, rfl⟩; exact .mem List.mem_cons_self) ⟨_, _, rfl, rfl, by simp⟩ ?_ ?_
          · clear w
            rintro i d z σ' H9 F' M' hd ⟨x4, x5, rfl, rfl, rfl⟩ w
            obtain ⟨s, hs', rfl⟩ := map_get hd
            have hi : i < (g.st n).length := (List.getElem?_eq_some_iff.mp hs').1
            refine n_gtup2 (d0 := frq s.1) (d1 := nD s.2) w (.mem List.mem_cons_self) fun a c w => ?_
            wtm_at "n"
            refine n_appB (d := nD s.2) w (by ktf_call "foc") (by ktf_call "kn") (by rw [List.length_map, List.length_append, List.length_map, List.length_take]; omega) fun H10 w => ?_
            wtm_at "n"
            refine ⟨_, _, ⟨_, _, rfl, rfl, rfl⟩, ?_⟩
            rw [show (wt' ++ ((g.st n).take (i + 1)).map (·.2)).map nD = (wt' ++ ((g.st n).take i).map (·.2)).map nD ++ [nD s.2] by rw [take_snoc hs']; simp]
            exact w.sub (KS.cons (.mem (by simp)) (KS.drop (KS.drop (KS.drop (KS.drop KS.refl))))) (.refl _)
          · clear w
            rintro σ' H9 F' M' ⟨x4, x5, rfl, rfl, rfl⟩ w
            rw [List.length_map, List.take_length] at w
            refine ⟨(wt' ++ (g.st n).map (·.2)).length + restN g U (ns ++ [n]), by rw [List.length_append, List.length_map]; omega, F, _, ⟨ns ++ [n], wt' ++ (g.st n).map (·.2), _, _, _, rfl, rfl, rfl, hs.more hin (fun m hm => ?_) (fun _ s hs' => List.mem_map_of_mem hs'), rfl, by rw [List.length_append, List.length_map]; omega⟩, w.tail⟩
            obtain ⟨s, hs', rfl⟩ := List.mem_map.mp hm
            exact .s hrn hf hs'
    · rename_i hpos
      have e : wt = [] := List.eq_nil_of_length_eq_zero (by omega)
      subst e
      wtm_at "n"
      exact k pf _ ns hs.nd hs.all (by wtm_at "wf")
abbrev s_least_price : Stmt := top 34
theorem sc_least_price : FnScope ["steps", "prices", "best", "cost", "after", "price"] ["steps", "prices"] (defScope s_least_price) := ⟨rfl, rfl, rfl, by decide +kernel, rfl, by decide +kernel, by decide +kernel⟩
def sp_least_price : Sp := fun vs H Q _ => ∃ F M v pp, ∃ (ss : List (Rat × Nd)) (ns : List Nd) (pr : Nd → Option Rat), vs = [v, .ref pp] ∧ Wf F H M ∧ Rk F M v (.lst (ss.map stD)) ∧ .dt pp (tabN (fun n => oqD (pr n)) ns) ∈ M ∧ (∀ s ∈ ss, s.2 ∈ ns ∧ Sz2 2000 3500 s.1) ∧ (∀ n ∈ ns, ∀ q, pr n = some q → Sz2 6000 3600 q) ∧ ∀ r H', Wf ((r, oqD (leastP (ss.map fun s => addO s.1 (pr s.2)))) :: F) H' M → Q r H'
theorem n_leastprice {F : List (V × D)} {H : Hp} {M : List ME} {v : V} {pp : Addr} {ss : List (Rat × Nd)} {ns : List Nd} {pr : Nd → Option Rat} {Q : VK} {E : XK} (w : Wf F H M) (hv : Rk F M v (.lst (ss.map stD))) (hp : .dt pp (tabN (fun n => oqD (pr n)) ns) ∈ M) (hs : ∀ s ∈ ss, s.2 ∈ ns ∧ Sz2 2000 3500 s.1) (hz : ∀ n ∈ ns, ∀ q, pr n = some q → Sz2 6000 3600 q) (q : ∀ r H', Wf ((r, oqD (leastP (ss.map fun s => addO s.1 (pr s.2)))) :: F) H' M → Q r H') : sp_least_price ([v, .ref pp] ++ []) H Q E := ⟨F, M, v, pp, ss, ns, pr, rfl, w, hv, hp, hs, hz, q⟩
theorem n_plusW {F : List (V × D)} {H : Hp} {M : List ME} {u v : V} {p q : Rat} {Q : VK} {E : XK} (w : Wf F H M) (hu : Kn F u (frq p)) (hv : Kn F v (frq q)) (hp : Sz2 8000 3500 p) (hq : Sz2 8000 4400 q) (f : ∀ r H', Wf ((r, frq (p + q)) :: F) H' M → Q r H') : sp_plus ([u, v] ++ []) H Q E := by
  obtain ⟨I, Mc, w, is, _, up⟩ := w.old
  exact use_plus w (is _ _ hu) (is _ _ hv) (hp.sz (Nat.le_refl _) (by decide)) (hq.sz (Nat.le_refl _) (by decide)) (by decide) (by decide) ((hp.d.mul hq.d).mono (by decide)) fun r J H' s w' h => f r H' (up J H' r _ s w' h)
theorem n_below {F : List (V × D)} {H : Hp} {M : List ME} {u v : V} {p q : Rat} {Q : VK} {E : XK} {j k : Nat} (w : Wf F H M) (hu : Kn F u (frq p)) (hv : Kn F v (frq q)) (hp : Sz j p) (hq : Sz k q) (hj : j ≤ 100000) (hk : k ≤ 100000) (f : Q (.bl (decide (p < q))) H) : sp_is_below ([u, v] ++ []) H Q E := by
  obtain ⟨I, Mc, w, is, _, up⟩ := w.old
  refine ⟨I, Mc, u, v, _, _, _, _, rfl, w, is _ _ hu, is _ _ hv, (hp.mono hj).n, (hp.mono hj).d, (hq.mono hk).n, (hq.mono hk).d, ?_⟩
  have e : decide (p < q) = decide (p.num * q.den < q.num * p.den) := by rw [Bool.eq_iff_iff, decide_eq_true_iff, decide_eq_true_iff]; exact Rat.lt_iff _ _
  rw [← e]
  exact f

theorem ok_least_price {f : Addr} {fd : FuncData} (F : Fun K "least_price" "least_price" s_least_price f fd) (B : Bn mg) (c_plus : Cal P wd K mg base "plus" 3 ["one", "other"] [] sp_plus) (c_is_below : Cal P wd K mg base "is_below" 1 ["one", "other"] [] sp_is_below)  : FnOk P wd K mg base CX0 4 f fd ["steps", "prices"] sp_least_price := by
  refine F.ok sc_least_price (fun vs H Q E h => ?_) (fun cdv A outer s H vs Q E hr h => ?_)
  · obtain ⟨F, M, v, pp, ss, ns, pr, rfl, w, hv, hp, hs, hz, k⟩ := h
    all_goals rfl
  · obtain ⟨F, M, v, pp, ss, ns, pr, rfl, w, hv, hp, hs, hz, k⟩ := h
    refine ⟨_, (pss_cons (ps_set (i := 2) sc_least_price.nd rfl (Or.inl rfl) pe_non)
      (pss_cons (ps_for PassesOwn.never rfl (kpi_list (K := K) rfl (pv 0)) (kpg_tup (K := K) (n := 2) rfl rfl (pgs_cons (pg_name (i := 3) sc_least_price.nd rfl (Or.inl rfl)) (pgs_cons (pg_name (i := 4) sc_least_price.nd rfl (Or.inl rfl)) pgs_nil))) (pss_one (ps_if (pt_cmp (pc_notN (pe_dget (hu1 hr.units) (pv 1) (pv 4) (fun _ _ => rfl)))) (pss_cons (ps_set (i := 5) sc_least_price.nd rfl (Or.inl rfl) (pe_cal c_plus (hr.mono (by decide)) (by rfl) (pa_cons (pv 3) (pa_cons (pe_dget (hu1 hr.units) (pv 1) (pv 4) (fun _ _ => rfl)) pa_nil))))
      (pss_one (ps_if (pw_or (pt_cmp (pc_isN (pv 2))) (pw_or1 (pt_val (pe_cal c_is_below (hr.mono (by decide)) (by rfl) (pa_cons (pv 5) (pa_cons (pv 2) pa_nil)))))).pt (pss_one (ps_set (i := 2) sc_least_price.nd rfl (Or.inl rfl) (pv 5))) pss_nil))) pss_nil)))
      (pss_one (ps_ret (pv 2))))), ?_⟩
    try dsimp only [cxOf, Cx.nox, Cx.wish, Cx.blk]
    rw [show L2.start (["steps", "prices", "best", "cost", "after", "price"] : List Str) [v, .ref pp] = [some v, some (.ref pp), none, none, none, none] from rfl]
    wtm_at "n"
    have w : Wf ((.non, oqD (leastP [])) :: F) H M := w.add .non
    refine n_forL w (fun i σ' F' M' => ∃ (bv : V) (x3 x4 x5 : Option V), σ' = [some v, some (.ref pp), some bv, x3, x4, x5] ∧ F' = (bv, oqD (leastP ((ss.take i).map fun s => addO s.1 (pr s.2)))) :: F ∧ M = M') (by rintro i σ' F' M' ⟨_, _, _, _, rfl, rfl, rfl⟩; exact hv.moreF) ⟨_, _, _, _, rfl, rfl, rfl⟩ ?_ ?_
    · clear w
      rintro i d z σ' H' F' M' hd ⟨bv, x3, x4, x5, rfl, rfl, rfl⟩ w
      obtain ⟨s, hs', rfl⟩ := map_get hd
      obtain ⟨hsn, hsz⟩ := hs s (List.mem_of_getElem? hs')
      have hsum : Sz2 8000 8000 (0 : Rat) := Sz2.zero (by decide) (by decide)
      rw [take_snoc hs', List.map_append, List.map_singleton, leastP_snoc]
      have hbz : ∀ q, leastP ((ss.take i).map fun s => addO s.1 (pr s.2)) = some q → Sz2 10000 8000 q := fun q hq => by
        obtain ⟨t, ht, e⟩ := List.mem_map.mp (leastP_mem hq)
        obtain ⟨h1, h2⟩ := hs t (List.mem_of_mem_take ht)
        cases hpt : pr t.2 with
        | none => rw [hpt] at e; cases e
        | some p =>
          rw [hpt] at e
          cases e
          exact (h2.add (hz _ h1 p hpt) 10000 (by decide) (by decide)).mono (Nat.le_refl _) (by decide)
      generalize leastP ((ss.take i).map fun s => addO s.1 (pr s.2)) = best at *
      refine n_gtup2 (d0 := frq s.1) (d1 := nD s.2) w (.mem List.mem_cons_self) fun a c w => ?_
      wtm_at "n"
      refine n_dgetT (k := ndK s.2) (d := oqD (pr s.2)) w hp (.mem (List.mem_cons_of_mem _ List.mem_cons_self)) (tab_in (f := fun n => oqD (pr n)) hsn) fun u w => ?_
      cases hpr : pr s.2 with
      | none =>
        rw [hpr] at w
        obtain ⟨rfl, w⟩ := w.non0
        wtm_at "n"
        refine ⟨_, _, ⟨bv, _, _, _, rfl, rfl, rfl⟩, ?_⟩
        show Wf ((bv, oqD best) :: F) H' M
        wtm_at "wf"
      | some p =>
        have hpz := hz _ hsn p hpr
        rw [hpr] at w
        obtain ⟨pu, rfl⟩ := (show Wf ((u, .tup [.int p.num, .int (p.den : Int)]) :: _) H' M from w).tup0
        wtm_at "n"
        refine n_dgetT (k := ndK s.2) (d := oqD (pr s.2)) w hp (.mem (by simp [nD, ndK, keyD])) (tab_in (f := fun n => oqD (pr n)) hsn) fun u w => ?_
        rw [hpr] at w
        wtm_at "n"
        refine n_plusW (p := s.1) (q := p) w (.mem (by simp)) (.mem List.mem_cons_self) (hsz.mono (by decide) (Nat.le_refl _)) (hpz.mono (by decide) (by decide)) fun r H5 w => ?_
        have hrz := hsz.add hpz 10000 (by decide) (by decide)
        have w : Wf ((r, frq (s.1 + p)) :: (bv, oqD best) :: F) H5 M := w.sub (KS.cons (.mem List.mem_cons_self) (KS.cons (.mem (by simp)) fun f hf => .mem (by simp [hf]))) (.refl _)
        cases best with
        | none =>
          have e0 : bv = .non := (show Wf ((bv, .non) :: F) H5 M from w.sub (KS.cons (.mem (List.mem_cons_of_mem _ List.mem_cons_self)) (KS.drop (KS.drop KS.refl))) (.refl _)).non0.1
          subst e0
          wtm_at "n"
          refine ⟨_, _, ⟨r, _, _, _, rfl, rfl, rfl⟩, ?_⟩
          show Wf ((r, frq (s.1 + p)) :: F) H5 M
          wtm_at "wf"
        | some y =>
          obtain ⟨pb, rfl⟩ := (show Wf ((bv, .tup [.int y.num, .int (y.den : Int)]) :: F) H5 M from w.sub (KS.cons (.mem (List.mem_cons_of_mem _ List.mem_cons_self)) (KS.drop (KS.drop KS.refl))) (.refl _)).tup0
          have hby := hbz y rfl
          wtm_at "n"
          refine n_below (p := s.1 + p) (q := y) w (.mem List.mem_cons_self) (.mem (List.mem_cons_of_mem _ List.mem_cons_self)) (hrz.sz (Nat.le_refl _) (by decide)) (hby.sz (Nat.le_refl _) (by decide)) (by decide) (by decide) ?_
          by_cases hc : s.1 + p < y
          · rw [decide_eq_true hc]
            wtm_at "n"
            refine ⟨_, _, ⟨r, _, _, _, rfl, rfl, rfl⟩, ?_⟩
            rw [show bestO (some y) (addO s.1 (some p)) = some (s.1 + p) from if_pos hc]
            show Wf ((r, frq (s.1 + p)) :: F) H5 M
            wtm_at "wf"
          · rw [decide_eq_false hc]
            wtm_at "n"
            refine ⟨_, _, ⟨V.ref pb, _, _, _, rfl, rfl, rfl⟩, ?_⟩
            rw [show bestO (some y) (addO s.1 (some p)) = some y from if_neg hc]
            wtm_at "wf"
    · clear w
      rintro σ' H' F' M' ⟨bv, x3, x4, x5, rfl, rfl, rfl⟩ w
      rw [List.length_map, List.take_length] at w
      wtm_at "n"
      exact k _ _ w
abbrev s_prices_known : Stmt := top 35
theorem sc_prices_known : FnScope ["found", "prices", "node"] ["found"] (defScope s_prices_known) := ⟨rfl, rfl, rfl, by decide +kernel, rfl, by decide +kernel, by decide +kernel⟩
def sp_prices_known : Sp := fun vs H Q _ => ∃ F M pf, ∃ (g : Wgr) (U : List Nd) (N k : Nat) (ns : List Nd), vs = [.ref pf] ∧ Wf F H M ∧ .dt pf (tabN (fdD g) ns) ∈ M ∧ WgOk g U N k ∧ ns.Nodup ∧ (∀ n, n ∈ ns ↔ Reach g n) ∧ ∀ p H' (ms : List Nd), ms.Perm ns → Wf F H' (.dt p (tabN (fun n => oqD (prc g N n)) ms) :: M) → Q (.ref p) H'
theorem n_pricesk {F : List (V × D)} {H : Hp} {M : List ME} {pf : Addr} {g : Wgr} {U : List Nd} {N k : Nat} {ns : List Nd} {Q : VK} {E : XK} (w : Wf F H M) (hf : .dt pf (tabN (fdD g) ns) ∈ M) (ok : WgOk g U N k) (hn : ns.Nodup) (hr : ∀ n, n ∈ ns ↔ Reach g n) (q : ∀ p H' (ms : List Nd), ms.Perm ns → Wf F H' (.dt p (tabN (fun n => oqD (prc g N n)) ms) :: M) → Q (.ref p) H') : sp_prices_known ([.ref pf] ++ []) H Q E := ⟨F, M, pf, g, U, N, k, ns, rfl, w, hf, ok, hn, hr, q⟩
/-- what lies farther stands ahead -/
theorem ahead_in {ms : List Nd} (hp : ms.Pairwise lexGe) {i : Nat} {m x : Nd} (hm : ms[i]? = some m) (hx : x ∈ ms) (hlt : m.1 < x.1) : x ∈ ms.take i := by
  obtain ⟨j, hj, e⟩ := List.mem_iff_getElem.mp hx
  obtain ⟨hi, e2⟩ := List.getElem?_eq_some_iff.mp hm
  by_cases h : j < i
  · rw [← e]
    exact List.mem_take_iff_getElem.mpr ⟨j, by omega, rfl⟩
  · by_cases h2 : j = i
    · subst h2
      rw [e2] at e
      subst e
      omega
    · have := List.pairwise_iff_getElem.mp hp i j hi hj (by omega)
      rw [e, e2] at this
      unfold lexGe at this
      omega
theorem not_take {ms : List Nd} (hp : ms.Nodup) {i : Nat} {m : Nd} (hm : ms[i]? = some m) : m ∉ ms.take i := fun h => by
  obtain ⟨j, hj, e⟩ := List.mem_take_iff_getElem.mp h
  obtain ⟨hi, e2⟩ := List.getElem?_eq_some_iff.mp hm
  have := List.pairwise_iff_getElem.mp hp j i (by omega) hi (by omega)
  exact this (e.trans e2.symm)

theorem ok_prices_known {f : Addr} {fd : FuncData} (F : Fun K "prices_known" "prices_known" s_prices_known f fd) (B : Bn mg) (c_least_price : Cal P wd K mg base "least_price" 4 ["steps", "prices"] [] sp_least_price)  : FnOk P wd K mg base CX0 5 f fd ["found"] sp_prices_known := by
  refine F.ok sc_prices_known (fun vs H Q E h => ?_) (fun cdv A outer s H vs Q E hr h => ?_)
  · obtain ⟨F, M, pf, g, U, N, kk, ns, rfl, w, hf, ok, hn, hr', k⟩ := h
    all_goals rfl
  · obtain ⟨F, M, pf, g, U, N, kk, ns, rfl, w, hf, ok, hn, hr', k⟩ := h
    refine ⟨_, (pss_cons (ps_set (i := 1) sc_prices_known.nd rfl (Or.inl rfl) pe_dnewT)
      (pss_cons (ps_for PassesOwn.never rfl (kpi_list (K := K) rfl (pe_callBK (k_sortRT rfl) (by rfl) B.sorted_ (by decide +kernel) (pa_cons (pv 0) pa_nil) (pk_cons pe_bl pk_nil))) (pg_name (i := 2) sc_prices_known.nd rfl (Or.inl rfl)) (pss_one (ps_if (pt_cmp (pc_isN (pe_dget (hu1 hr.units) (pv 0) (pv 2) (fun _ _ => rfl)))) (pss_one (ps_dput (hu1 hr.units) (pv 1) (pv 2) (pe_tup (pa_cons pe_int (pa_cons pe_int pa_nil))) rfl)) (pss_one (ps_dput (hu1 hr.units) (pv 1) (pv 2) (pe_cal c_least_price (hr.mono (by decide)) (by rfl) (pa_cons (pe_dget (hu1 hr.units) (pv 0) (pv 2) (fun _ _ => rfl)) (pa_cons (pv 1) pa_nil))) rfl)))))
      (pss_one (ps_ret (pv 1))))), ?_⟩
    try dsimp only [cxOf, Cx.nox, Cx.wish, Cx.blk]
    rw [show L2.start (["found", "prices", "node"] : List Str) [.ref pf] = [some (.ref pf), none, none] from rfl]
    wtm_at "n"
    refine s_dnewT w fun pp H1 w => ?_
    wtm_at "n"
    refine s_ckw ?_
    wtm_at "n"
    refine n_sortRT w (List.mem_cons_of_mem _ hf) tab_keys fun ms ps H2 hperm hsort w => ?_
    have hms : ms.Nodup := hperm.nodup_iff.mpr hn
    have hlen : ms.length ≤ 90000 := by
      have := len_sub (l := ms) (m := U) hms fun n h => ((hr' n).mp (hperm.mem_iff.mp h)).inU ok
      have := ok.ul
      omega
    refine n_forL w (fun i σ' F' M' => ∃ x2, σ' = [some (.ref pf), some (.ref pp), x2] ∧ F = F' ∧ M' = .ml ps (ms.map nD) :: .dt pp (tabN (fun n => oqD (prc g N n)) (ms.take i)) :: M) (by rintro i σ' F' M' ⟨_, rfl, rfl, rfl⟩; exact .ml List.mem_cons_self) ⟨_, rfl, rfl, rfl⟩ ?_ ?_
    · clear w
      rintro i d z σ' H' F' M' hd ⟨x2, rfl, rfl, rfl⟩ w
      obtain ⟨m, hm, rfl⟩ := map_get hd
      have hmm : m ∈ ms := List.mem_of_getElem? hm
      have hmn : m ∈ ns := hperm.mem_iff.mp hmm
      have hmr := (hr' m).mp hmn
      have hmU := hmr.inU ok
      have hnt := not_take hms hm
      have htl : (ms.take i).length ≤ 90000 := by rw [List.length_take]; omega
      have eput : ∀ d, oqD (prc g N m) = d → putP (tabN (fun n => oqD (prc g N n)) (ms.take i)) (ndK m) d = tabN (fun n => oqD (prc g N n)) (ms.take (i + 1)) := fun d e => by
        rw [tab_new hnt, take_snoc hm, tab_snoc, e]
      wtm_at "n"
      refine n_dgetT (k := ndK m) (d := fdD g m) w (by simp [hf]) (.mem List.mem_cons_self) (tab_in hmn) fun u w => ?_
      cases hfm : g.fin m with
      | true =>
        rw [show fdD g m = .non from if_pos hfm] at w
        obtain ⟨rfl, w⟩ := w.non0
        wtm_at "n"
        rename_i pz Hz w
        refine n_dputT (k := ndK m) (d := .tup [.int 0, .int 1]) w (by ktf_call "foc") (.mem (by simp [nD, ndK, keyD])) (.mem List.mem_cons_self) (by rw [tab_len]; omega) fun H5 w => ?_
        rw [eput _ (by rw [prc_end hfm]; rfl)] at w
        exact ⟨_, _, ⟨_, rfl, rfl, rfl⟩, by wtm_at "wf"⟩
      | false =>
        have efd : fdD g m = .lst ((g.st m).map stD) := by unfold fdD; rw [if_neg (by rw [hfm]; simp)]
        rw [efd] at w
        obtain ⟨pu, rfl⟩ := w.lst0
        wtm_at "n"
        refine n_dgetT (k := ndK m) (d := fdD g m) w (by simp [hf]) (.mem (List.mem_cons_of_mem _ List.mem_cons_self)) (tab_in hmn) fun u2 w => ?_
        rw [efd] at w
        wtm_at "n"
        refine n_leastprice (ss := g.st m) (ns := ms.take i) (pr := prc g N) w (.mem List.mem_cons_self) (by ktf_call "mem") (fun s hs => ⟨?_, (ok.sz m hmU s hs).mono (Nat.le_refl _) ok.k_le⟩) (fun n hn' q hq => prc_sz ok (((hr' n).mp (hperm.mem_iff.mp (List.mem_of_mem_take hn'))).inU ok) hq) fun r H5 w => ?_
        · exact ahead_in hsort hm (hperm.mem_iff.mpr ((hr' _).mpr (.s hmr hfm hs))) (ok.go m hmU hfm s hs).2
        wtm_at "n"
        refine n_dputT (k := ndK m) w (by ktf_call "foc") (.mem (by simp [nD, ndK, keyD])) (.mem List.mem_cons_self) (by rw [tab_len]; omega) fun H6 w => ?_
        rw [eput _ (by rw [prc_eq ok hmU hfm])] at w
        exact ⟨_, _, ⟨_, rfl, rfl, rfl⟩, by wtm_at "wf"⟩
    · clear w
      rintro σ' H' F' M' ⟨x2, rfl, rfl, rfl⟩ w
      rw [List.length_map, List.take_length] at w
      wtm_at "n"
      exact k pp _ ms hperm (by wtm_at "wf")
abbrev s_next_chosen : Stmt := top 36
theorem sc_next_chosen : FnScope ["steps", "prices", "price", "cost", "after"] ["steps", "prices", "price"] (defScope s_next_chosen) := ⟨rfl, rfl, rfl, by decide +kernel, rfl, by decide +kernel, by decide +kernel⟩
def sp_next_chosen : Sp := fun vs H Q _ => ∃ F M v pp u, ∃ (ss : List (Rat × Nd)) (ns : List Nd) (pr : Nd → Option Rat) (q : Rat) (m : Nd), vs = [v, .ref pp, u] ∧ Wf F H M ∧ Rk F M v (.lst (ss.map stD)) ∧ .dt pp (tabN (fun n => oqD (pr n)) ns) ∈ M ∧ Kn F u (frq q) ∧ (∀ s ∈ ss, s.2 ∈ ns ∧ Sz2 2000 3500 s.1) ∧ (∀ n ∈ ns, ∀ q, pr n = some q → Sz2 6000 3600 q) ∧ (ss.find? fun s => decide (addO s.1 (pr s.2) = some q)).map (·.2) = some m ∧ ∀ r H', Wf ((r, nD m) :: F) H' M → Q r H'
theorem n_nextc {F : List (V × D)} {H : Hp} {M : List ME} {v u : V} {pp : Addr} {ss : List (Rat × Nd)} {ns : List Nd} {pr : Nd → Option Rat} {q : Rat} {m : Nd} {Q : VK} {E : XK} (w : Wf F H M) (hv : Rk F M v (.lst (ss.map stD))) (hp : .dt pp (tabN (fun n => oqD (pr n)) ns) ∈ M) (hu : Kn F u (frq q)) (hs : ∀ s ∈ ss, s.2 ∈ ns ∧ Sz2 2000 3500 s.1) (hz : ∀ n ∈ ns, ∀ q, pr n = some q → Sz2 6000 3600 q) (hm : (ss.find? fun s => decide (addO s.1 (pr s.2) = some q)).map (·.2) = some m) (k : ∀ r H', Wf ((r, nD m) :: F) H' M → Q r H') : sp_next_chosen ([v, .ref pp, u] ++ []) H Q E := ⟨F, M, v, pp, u, ss, ns, pr, q, m, rfl, w, hv, hp, hu, hs, hz, hm, k⟩
theorem find_skip {α : Type} {P : α → Bool} : ∀ {l : List α} {i : Nat}, (∀ x ∈ l.take i, P x = false) → l.find? P = (l.drop i).find? P
  | [], i, _ => by simp
  | x :: l, 0, _ => rfl
  | x :: l, i + 1, h => by
    rw [List.find?_cons, h x (by simp)]
    simp only [List.drop_succ_cons]
    exact find_skip fun y hy => h y (by simp [hy])

theorem ok_next_chosen {f : Addr} {fd : FuncData} (F : Fun K "next_chosen" "next_chosen" s_next_chosen f fd) (B : Bn mg) (c_plus : Cal P wd K mg base "plus" 3 ["one", "other"] [] sp_plus)  : FnOk P wd K mg base CX0 4 f fd ["steps", "prices", "price"] sp_next_chosen := by
  refine F.ok sc_next_chosen (fun vs H Q E h => ?_) (fun cdv A outer s H vs Q E hr h => ?_)
  · obtain ⟨F, M, v, pp, u, ss, ns, pr, q, m, rfl, w, hv, hp, hu, hs, hz, hm, k⟩ := h
    all_goals rfl
  · obtain ⟨F, M, v, pp, u, ss, ns, pr, q, m, rfl, w, hv, hp, hu, hs, hz, hm, k⟩ := h
    refine ⟨_, (pss_cons (ps_for PassesOwn.never rfl (kpi_list (K := K) rfl (pv 0)) (kpg_tup (K := K) (n := 2) rfl rfl (pgs_cons (pg_name (i := 3) sc_next_chosen.nd rfl (Or.inl rfl)) (pgs_cons (pg_name (i := 4) sc_next_chosen.nd rfl (Or.inl rfl)) pgs_nil))) (pss_one (ps_if (pw_and (pt_cmp (pc_notN (pe_dget (hu1 hr.units) (pv 1) (pv 4) (fun _ _ => rfl)))) (pw_and1 (pt_cmpR (k_eq (K := K) rfl hr.units) (pe_cal c_plus (hr.mono (by decide)) (by rfl) (pa_cons (pv 3) (pa_cons (pe_dget (hu1 hr.units) (pv 1) (pv 4) (fun _ _ => rfl)) pa_nil))) (pv 2) (nomark _)))).pt (pss_one (ps_ret (pv 4))) pss_nil)))
      (pss_one (ps_ret pe_non))), ?_⟩
    try dsimp only [cxOf, Cx.nox, Cx.wish, Cx.blk]
    rw [show L2.start (["steps", "prices", "price", "cost", "after"] : List Str) [v, .ref pp, u] = [some v, some (.ref pp), some u, none, none] from rfl]
    wtm_at "n"
    refine n_forL w (fun i σ' F' M' => ∃ (x3 x4 : Option V), σ' = [some v, some (.ref pp), some u, x3, x4] ∧ F = F' ∧ M = M' ∧ ∀ s ∈ ss.take i, decide (addO s.1 (pr s.2) = some q) = false) (by rintro i σ' F' M' ⟨_, _, rfl, rfl, rfl, _⟩; exact hv) ⟨_, _, rfl, rfl, rfl, fun _ h => (by simp at h)⟩ ?_ ?_
    · clear w
      rintro i d z σ' H' F' M' hd ⟨x3, x4, rfl, rfl, rfl, hno⟩ w
      obtain ⟨s, hs', rfl⟩ := map_get hd
      obtain ⟨hsn, hsz⟩ := hs s (List.mem_of_getElem? hs')
      have hno' : decide (addO s.1 (pr s.2) = some q) = false → ∀ t ∈ ss.take (i + 1), decide (addO t.1 (pr t.2) = some q) = false := fun e t ht => by
        rw [take_snoc hs'] at ht
        rcases List.mem_append.mp ht with ht | ht
        · exact hno t ht
        · rw [List.mem_singleton.mp ht]; exact e
      refine n_gtup2 (d0 := frq s.1) (d1 := nD s.2) w (.mem List.mem_cons_self) fun a c w => ?_
      wtm_at "n"
      refine n_dgetT (k := ndK s.2) (d := oqD (pr s.2)) w hp (.mem (List.mem_cons_of_mem _ List.mem_cons_self)) (tab_in (f := fun n => oqD (pr n)) hsn) fun u2 w => ?_
      cases hpr : pr s.2 with
      | none =>
        rw [hpr] at w
        obtain ⟨rfl, w⟩ := w.non0
        wtm_at "n"
        exact ⟨_, _, ⟨_, _, rfl, rfl, rfl, hno' (by rw [hpr]; rfl)⟩, by wtm_at "wf"⟩
      | some p =>
        have hpz := hz _ hsn p hpr
        rw [hpr] at w
        obtain ⟨pu, rfl⟩ := (show Wf ((u2, .tup [.int p.num, .int (p.den : Int)]) :: _) H' M from w).tup0
        wtm_at "n"
        refine n_dgetT (k := ndK s.2) (d := oqD (pr s.2)) w hp (.mem (by simp [nD, ndK, keyD])) (tab_in (f := fun n => oqD (pr n)) hsn) fun u3 w => ?_
        rw [hpr] at w
        wtm_at "n"
        refine n_plusW (p := s.1) (q := p) w (.mem (by simp)) (.mem List.mem_cons_self) (hsz.mono (by decide) (Nat.le_refl _)) (hpz.mono (by decide) (by decide)) fun r H5 w => ?_
        wtm_at "n"
        have hu2 : Rk F M u (frq q) := Rk.of hu fun z => by rcases z with ⟨n, e⟩ | ⟨n, e⟩ <;> cases e
        refine n_eq (d := frq (s.1 + p)) (e := frq q) (b := decide (s.1 + p = q)) (j := 1) (k := 1) w (.mem List.mem_cons_self) (by ktf_call "rk") (NB.fr (k := 0)) (NB.fr (k := 0)) (by decide) (by decide) (by rw [decide_eq_true_iff]; exact ⟨fun e => by rw [e], frq_inj⟩) ?_
        by_cases hc : s.1 + p = q
        · rw [decide_eq_true hc]
          wtm_at "n"
          rw [find_skip hno] at hm
          have hdr : ss.drop i = s :: ss.drop (i + 1) := List.drop_eq_getElem?_toList_append.trans (by rw [hs']; rfl)
          rw [hdr, List.find?_cons, show decide (addO s.1 (pr s.2) = some q) = true from by rw [hpr]; simp [addO, hc]] at hm
          cases hm
          exact k _ _ (w.sub (KS.cons (.mem (by simp)) fun f hf => .mem (by simp [hf])) (.refl _))
        · rw [decide_eq_false hc]
          wtm_at "n"
          exact ⟨_, _, ⟨_, _, rfl, rfl, rfl, hno' (by rw [hpr]; simp [addO, hc])⟩, w.sub (fun f hf => .mem (by simp [hf])) (.refl _)⟩
    · clear w
      rintro σ' H' F' M' ⟨x3, x4, rfl, rfl, rfl, hno⟩ w
      rw [List.length_map] at hno
      rw [find_skip hno, List.drop_length] at hm
      cases hm
abbrev s_way_of : Stmt := top 37
theorem sc_way_of : FnScope ["ways", "found", "prices", "node", "nodes"] ["ways"] (defScope s_way_of) := ⟨rfl, rfl, rfl, by decide +kernel, rfl, by decide +kernel, by decide +kernel⟩
def sp_way_of (P : Program) (wo : World) (K : PySem.W.Frag) (mg : Str → Option Value) (base : Heap) (C_Lines C_Part C_Columns : Addr) : Sp := fun vs H Q _ => ∃ F M x, ∃ (g : Wgr) (U : List Nd) (N : Nat), vs = [x] ∧ Wf F H M ∧ WO P wo K mg base C_Lines C_Part C_Columns F M x g U N ∧ (∀ H', prc g N (0, 0) = none → Wf F H' M → Q .non H') ∧ ∀ r p H' c, prc g N (0, 0) = some c → Wf ((r, .tup [frq c, .ref p]) :: F) H' (.ml p ((wayN g N).map nD) :: M) → Q r H'
theorem n_wayof {P : Program} {wo : World} {K : PySem.W.Frag} {mg : Str → Option Value} {base : Heap} {C_Lines C_Part C_Columns : Addr} {F : List (V × D)} {H : Hp} {M : List ME} {x : V} {g : Wgr} {U : List Nd} {N : Nat} {Q : VK} {E : XK} (w : Wf F H M) (h : WO P wo K mg base C_Lines C_Part C_Columns F M x g U N) (q1 : ∀ H', prc g N (0, 0) = none → Wf F H' M → Q .non H') (q2 : ∀ r p H' c, prc g N (0, 0) = some c → Wf ((r, .tup [frq c, .ref p]) :: F) H' (.ml p ((wayN g N).map nD) :: M) → Q r H') : sp_way_of P wo K mg base C_Lines C_Part C_Columns ([x] ++ []) H Q E := ⟨F, M, x, g, U, N, rfl, w, h, q1, q2⟩

theorem ok_way_of {f : Addr} {fd : FuncData} (F : Fun K "way_of" "way_of" s_way_of f fd) (B : Bn mg) (c_steps_known : Cal P wd K mg base "steps_known" 10 ["ways"] [] (sp_steps_known P wd K mg base C_Lines C_Part C_Columns)) (c_prices_known : Cal P wd K mg base "prices_known" 5 ["found"] [] sp_prices_known) (c_next_chosen : Cal P wd K mg base "next_chosen" 4 ["steps", "prices", "price"] [] sp_next_chosen) (t_Lines_first_node : Met P wd K mg base "first_node" C_Lines 1 ["self"] [] (sp_Lines_first_node)) (t_Columns_first_node : Met P wd K mg base "first_node" C_Columns 1 ["self"] [] (sp_Columns_first_node))  : FnOk P wd K mg base CX0 11 f fd ["ways"] (sp_way_of P wd K mg base C_Lines C_Part C_Columns) := by
  refine F.ok sc_way_of (fun vs H Q E h => ?_) (fun cdv A outer s H vs Q E hr h => ?_)
  · obtain ⟨F, M, x, g, U, N, rfl, w, h, k1, k2⟩ := h
    all_goals rfl
  · obtain ⟨F, M, x, g, U, N, rfl, w, h, k1, k2⟩ := h
    refine ⟨_, (pss_cons (ps_set (i := 1) sc_way_of.nd rfl (Or.inl rfl) (pe_cal c_steps_known (hr.mono (by decide)) (by rfl) (pa_cons (pv 0) pa_nil)))
      (pss_cons (ps_set (i := 2) sc_way_of.nd rfl (Or.inl rfl) (pe_cal c_prices_known (hr.mono (by decide)) (by rfl) (pa_cons (pv 1) pa_nil)))
      (pss_cons (ps_set (i := 3) sc_way_of.nd rfl (Or.inl rfl) (pe_two (pe_met0 (pv 0) t_Lines_first_node (hr.mono (by decide))) (pe_met0 (pv 0) t_Columns_first_node (hr.mono (by decide)))))
      (pss_cons (ps_if (pt_cmp (pc_isN (pe_dget (hu1 hr.units) (pv 2) (pv 3) (fun _ _ => rfl)))) (pss_one (ps_ret pe_non)) pss_nil)
      (pss_cons (ps_set (i := 4) sc_way_of.nd rfl (Or.inl rfl) (pe_lst (pa_cons (pv 3) pa_nil)))
      (pss_cons (ps_while PassesOwn.never (pt_cmp (pc_notN (pe_dget (hu1 hr.units) (pv 1) (pv 3) (fun _ _ => rfl)))) (pss_cons (ps_set (i := 3) sc_way_of.nd rfl (Or.inl rfl) (pe_cal c_next_chosen (hr.mono (by decide)) (by rfl) (pa_cons (pe_dget (hu1 hr.units) (pv 1) (pv 3) (fun _ _ => rfl)) (pa_cons (pv 2) (pa_cons (pe_dget (hu1 hr.units) (pv 2) (pv 3) (fun _ _ => rfl)) pa_nil)))))
      (pss_one (ps_expr (pe_bm PySem.F.plainAttrs_list PySem.F.slot_list_append PySem.F.type_list_append mt_append (pv 4) (pa_cons (pv 3) pa_nil))))))
      (pss_one (ps_ret (pe_tup (pa_cons (pe_dget (hu1 hr.units) (pv 2) (pe_ix (k_ix (K := K) rfl) (pv 4) pe_int (fun _ _ => rfl)) (fun _ _ => rfl)) (pa_cons (pv 4) pa_nil))))))))))), ?_⟩
    try dsimp only [cxOf, Cx.nox, Cx.wish, Cx.blk]
    have ok := h.ok
    rw [show L2.start (["ways", "found", "prices", "node", "nodes"] : List Str) [x] = [some x, none, none, none, none] from rfl]
    wtm_at "n"
    refine n_known w h fun pf H1 ns hn hr' w => ?_
    wtm_at "n"
    refine n_pricesk w List.mem_cons_self ok hn hr' fun pp H2 ms hp w => ?_
    have hpm : ∀ n, Reach g n → n ∈ ms := fun n r => hp.mem_iff.mpr ((hr' n).mpr r)
    have hz : ∀ n ∈ ms, ∀ q, prc g N n = some q → Sz2 6000 3600 q := fun n hn' q hq => prc_sz ok (((hr' n).mp (hp.mem_iff.mp hn')).inU ok) hq
    have hwo : WO P wd K mg base C_Lines C_Part C_Columns F (.dt pp (tabN (fun n => oqD (prc g N n)) ms) :: .dt pf (tabN (fdD g) ns) :: M) x g U N := by wtm_at "wo"
    wtm_at "wopen"
    wtm_at "n"
    wtm_at "wfirst"
    rename_i r0 H3 w
    wtm_at "n"
    refine n_dgetT (k := ndK (0, 0)) (d := oqD (prc g N (0, 0))) w (by ktf_call "mem") (.mem List.mem_cons_self) (tab_in (f := fun n => oqD (prc g N n)) (hpm _ .z)) fun u w => ?_
    cases hc : prc g N (0, 0) with
    | none =>
      rw [hc] at w
      obtain ⟨rfl, w⟩ := w.non0
      wtm_at "n"
      exact k1 _ hc (by wtm_at "wf")
    | some c =>
      rw [hc] at w
      obtain ⟨pu, rfl⟩ := (show Wf ((u, .tup [.int c.num, .int (c.den : Int)]) :: _) H3 _ from w).tup0
      wtm_at "n"
      rename_i pn H4 w
      have w : Wf ((r0, nD (0, 0)) :: F) H4 (.ml pn [nD (0, 0)] :: .dt pp (tabN (fun n => oqD (prc g N n)) ms) :: .dt pf (tabN (fdD g) ns) :: M) := by wtm_at "wf"
      refine n_whileG w (fun μ σ' F' M' => ∃ (pre : List Nd) (n : Nd) (nv : V) (q : Rat), σ' = [some x, some (.ref pf), some (.ref pp), some nv, some (.ref pn)] ∧ F' = (nv, nD n) :: F ∧ M' = .ml pn ((pre ++ [n]).map nD) :: .dt pp (tabN (fun n => oqD (prc g N n)) ms) :: .dt pf (tabN (fdD g) ns) :: M ∧ Reach g n ∧ prc g N n = some q ∧ (N : Int) - n.1 < μ ∧ pre.length + μ ≤ N + 1 ∧ wayN g N = pre ++ pathF g (prc g N) μ n) (N + 1) ⟨[], (0, 0), r0, c, rfl, rfl, rfl, .z, hc, by simp; omega, by simp, rfl⟩ ?_
      clear w
      rintro μ σ' H' F' M' ⟨pre, n, nv, q, rfl, rfl, rfl, hrn, hq, hμ, hpl, hway⟩ w
      have hnU := hrn.inU ok
      have hN := ok.hk
      have hN2 : N ≤ 3500 := by
        have : 1 * (N + 2) ≤ (18 + 1) * (N + 2) := Nat.mul_le_mul_right _ (by omega)
        omega
      wtm_at "n"
      refine n_dgetT (k := ndK n) (d := fdD g n) w (by ktf_call "mem") (.mem List.mem_cons_self) (tab_in ((hr' n).mpr hrn)) fun u2 w => ?_
      cases hfn : g.fin n with
      | true =>
        rw [show fdD g n = .non from if_pos hfn] at w
        obtain ⟨rfl, w⟩ := w.non0
        wtm_at "n"
        rw [pathF_end hfn] at hway
        rw [← hway] at w
        have w : Wf ((nv, nD n) :: F) H' (.ml pn ((wayN g N).map nD) :: .dt pp (tabN (fun n => oqD (prc g N n)) ms) :: .dt pf (tabN (fdD g) ns) :: M) := by wtm_at "wf"
        obtain ⟨tl, htl⟩ := pathF_head g (prc g N) (N + 1) (0, 0)
        refine n_ixL (d := nD (0, 0)) w (.ml List.mem_cons_self) (by rw [show wayN g N = (0, 0) :: tl from htl]; exact atI_head) fun u3 w => ?_
        wtm_at "n"
        refine n_dgetT (k := ndK (0, 0)) (d := oqD (prc g N (0, 0))) w (by ktf_call "mem") (.mem List.mem_cons_self) (tab_in (f := fun n => oqD (prc g N n)) (hpm _ .z)) fun u4 w => ?_
        rw [hc] at w
        wtm_at "n"
        refine n_newT (ds := [frq c, .ref pn]) w (.cons (.mem List.mem_cons_self) (.cons (.ref _) .nil)) (by simp) fun t H5 w => ?_
        exact k2 _ pn _ c hc (by wtm_at "wf")
      | false =>
        have efd : fdD g n = .lst ((g.st n).map stD) := by unfold fdD; rw [if_neg (by rw [hfn]; simp)]
        rw [efd] at w
        obtain ⟨pu2, rfl⟩ := w.lst0
        obtain ⟨s, hs, hnx, hsq⟩ := nxt_some ok hnU hfn hq
        have hgo := ok.go n hnU hfn s hs
        have hM := ok.lo n hnU
        have hM2 := ok.lo _ hgo.1
        obtain ⟨ν, rfl⟩ : ∃ ν, μ = ν + 1 := ⟨μ - 1, by omega⟩
        rw [pathF_step hfn hnx] at hway
        have hq2 : ∃ q2, prc g N s.2 = some q2 := by
          cases e : prc g N s.2 with
          | none => rw [e] at hsq; cases hsq
          | some q2 => exact ⟨q2, rfl⟩
        obtain ⟨q2, hq2⟩ := hq2
        wtm_at "n"
        refine n_wG ?_
        wtm_at "n"
        refine n_dgetT (k := ndK n) (d := fdD g n) w (by ktf_call "mem") (.mem (by simp [nD, ndK, keyD])) (tab_in ((hr' n).mpr hrn)) fun u3 w => ?_
        rw [efd] at w
        wtm_at "n"
        refine n_dgetT (k := ndK n) (d := oqD (prc g N n)) w (by ktf_call "mem") (.mem (by simp [nD, ndK, keyD])) (tab_in (f := fun n => oqD (prc g N n)) (hpm _ hrn)) fun u4 w => ?_
        rw [hq] at w
        wtm_at "n"
        refine n_nextc (ss := g.st n) (ns := ms) (pr := prc g N) (q := q) (m := s.2) w (.mem (by simp)) (by ktf_call "mem") (.mem List.mem_cons_self) (fun t ht => ⟨hpm _ (.s hrn hfn ht), (ok.sz n hnU t ht).mono (Nat.le_refl _) ok.k_le⟩) hz (by unfold nxtN at hnx; rw [hq] at hnx; exact hnx) fun r H5 w => ?_
        have hln : ((pre ++ [n]).map nD).length ≤ 100000 := by rw [List.length_map, List.length_append, List.length_singleton]; omega
        wtm_at "n"
        rename_i H6 w
        refine ⟨ν, by omega, _, _, ⟨pre ++ [n], s.2, r, q2, rfl, rfl, rfl, .s hrn hfn hs, hq2, by omega, by rw [List.length_append, List.length_singleton]; omega, by rw [hway, List.append_assoc]; rfl⟩, ?_⟩
        rw [List.map_append (l₁ := pre ++ [n])]
        exact w.sub (KS.cons (.mem List.mem_cons_self) fun f hf => .mem (by simp [hf])) (.refl _)
abbrev s_is_strip : Stmt := top 42
theorem sc_is_strip : FnScope ["thing", "high", "stick", "notes", "note"] ["thing"] (defScope s_is_strip) := ⟨rfl, rfl, rfl, by decide +kernel, rfl, by decide +kernel, by decide +kernel⟩
def sp_is_strip : Sp := fun vs H Q _ => ∃ F M v x, vs = [v] ∧ Wf F H M ∧ Rk F M v (spD x) ∧ SpOk x ∧ ∀ H', Wf F H' M → Q (.bl true) H'
theorem n_is_strip {F : List (V × D)} {H : Hp} {M : List ME} {v : V} {x : Sp3} {Q : VK} {E : XK} (w : Wf F H M) (hv : Rk F M v (spD x)) (ok : SpOk x) (q : ∀ H', Wf F H' M → Q (.bl true) H') : sp_is_strip ([v] ++ []) H Q E := ⟨F, M, v, x, rfl, w, hv, ok, q⟩

theorem ok_is_strip {f : Addr} {fd : FuncData} (F : Fun K "is_strip" "is_strip" s_is_strip f fd) (B : Bn mg) (c_is_length : Cal P wd K mg base "is_length" 2 ["thing"] [] (sp_is_length K)) (c_is_small : Cal P wd K mg base "is_small" 2 ["thing"] [] (sp_is_small K)) (g_MOST_NOTES : ∃ t, mg "MOST_NOTES" = some (.int 60 t))  : FnOk P wd K mg base CX0 3 f fd ["thing"] sp_is_strip := by
  refine F.ok sc_is_strip (fun vs H Q E h => ?_) (fun cdv A outer s H vs Q E hr h => ?_)
  · obtain ⟨F, M, v, x, rfl, w, hv, ok, k⟩ := h
    all_goals rfl
  · obtain ⟨F, M, v, x, rfl, w, hv, ok, k⟩ := h
    refine ⟨_, (pss_cons (ps_if (pw_or (pt_not (pt_val (pe_callB (k_isi (K := K) rfl) (by rfl) B.isinstance_ (by decide +kernel) (pa_cons (pv 0) (pa_cons (pe_bltn (v := .ty "tuple") (by rfl) B.tuple_ (by decide +kernel) rfl) pa_nil))))) (pw_or1 (pt_cmpR (k_ne (K := K) rfl hr.units) (pe_callB (k_len (K := K) rfl) (by rfl) B.len_ (by decide +kernel) (pa_cons (pv 0) pa_nil)) pe_int (nomark _)))).pt (pss_one (ps_ret pe_bl)) pss_nil)
      (pss_cons (ps_asg (pv 0) (kpg_tup (K := K) (n := 3) rfl rfl (pgs_cons (pg_name (i := 1) sc_is_strip.nd rfl (Or.inl rfl)) (pgs_cons (pg_name (i := 2) sc_is_strip.nd rfl (Or.inl rfl)) (pgs_cons (pg_name (i := 3) sc_is_strip.nd rfl (Or.inl rfl)) pgs_nil)))))
      (pss_cons (ps_if (pw_or (pt_not (pt_val (pe_cal c_is_length (hr.mono (by decide)) (by rfl) (pa_cons (pv 1) pa_nil)))) (pw_or1 (pt_not (pw_or (pt_cmp (pc_isN (pv 2))) (pw_or1 (pt_val (pe_cal c_is_small (hr.mono (by decide)) (by rfl) (pa_cons (pv 2) pa_nil))))).pt))).pt (pss_one (ps_ret pe_bl)) pss_nil)
      (pss_cons (ps_if (pw_or (pt_not (pt_val (pe_callB (k_isi (K := K) rfl) (by rfl) B.isinstance_ (by decide +kernel) (pa_cons (pv 3) (pa_cons (pe_bltn (v := .ty "list") (by rfl) B.list_ (by decide +kernel) rfl) pa_nil))))) (pw_or1 (pt_cmpR op_gt (pe_callB (k_len (K := K) rfl) (by rfl) B.len_ (by decide +kernel) (pa_cons (pv 3) pa_nil)) (pe_globI (by rfl) g_MOST_NOTES) (nomark _)))).pt (pss_one (ps_ret pe_bl)) pss_nil)
      (pss_cons (ps_for PassesOwn.never rfl (kpi_list (K := K) rfl (pv 3)) (pg_name (i := 4) sc_is_strip.nd rfl (Or.inl rfl)) (pss_one (ps_if (pt_not (pt_val (pe_cal c_is_small (hr.mono (by decide)) (by rfl) (pa_cons (pv 4) pa_nil)))) (pss_one (ps_ret pe_bl)) pss_nil)))
      (pss_one (ps_ret pe_bl))))))), ?_⟩
    try dsimp only [cxOf, Cx.nox, Cx.wish, Cx.blk]
    wtm_at "n"
    rename_i a b c w
    obtain ⟨rfl, w1⟩ := w.eq0
    refine use_is_length (I := H) (M := []) W.self ok.h0 ok.h1 ?_
    have hs := ok.s0
    have nl := ok.nl
    have w2 : Wf ((c, .lst (x.ns.map D.int)) :: F) H M := by wtm_at "wf"
    have hb : b = .non ∨ ∃ s, b = .int s ∧ 0 ≤ s ∧ s ≤ 1000000 := by
      cases hst : x.st with
      | none =>
        rw [hst] at w1
        exact .inl (w1.non0).1
      | some s =>
        rw [hst] at w1
        exact .inr ⟨s, (w1.eq0).1, hs s hst⟩
    clear w1 w
    rcases hb with rfl | ⟨s, rfl, s0, s1⟩
    rotate_left
    wtm_at "n"
    refine use_is_small (I := H) (M := []) W.self s0 s1 ?_
    all_goals wtm_at "n"
    all_goals (
      rw [List.length_map]
      refine s_iteDn (by omega) ?_
      wtm_at "n"
      refine n_forL w2 (fun i σ' F' M' => ∃ x4, σ' = [some v, some (.int x.h), some _, some c, x4] ∧ F' = (c, .lst (x.ns.map D.int)) :: F ∧ M' = M) (by rintro i σ' F' M' ⟨_, rfl, rfl, rfl⟩; ktf_call "rk") ⟨_, rfl, rfl, rfl⟩ ?_ ?_
      · rintro i d y σ' H' F' M' hd ⟨x4, rfl, rfl, rfl⟩ w
        obtain ⟨n, hn, rfl⟩ := map_get hd
        obtain ⟨rfl, w⟩ := w.eq0
        have h2 := ok.n0 n (List.mem_of_getElem? hn)
        wtm_at "n"
        refine use_is_small (I := H') (M := []) W.self h2.1 h2.2 ?_
        wtm_at "n"
        exact ⟨_, _, ⟨_, rfl, rfl, rfl⟩, by wtm_at "wf"⟩
      · rintro σ' H' F' M' ⟨x4, rfl, rfl, rfl⟩ w
        wtm_at "n"
        exact k _ w.tail)
abbrev s_look_at_strips : Stmt := top 43
theorem sc_look_at_strips : FnScope ["at", "strips", "k", "strip"] ["at", "strips"] (defScope s_look_at_strips) := ⟨rfl, rfl, rfl, by decide +kernel, rfl, by decide +kernel, by decide +kernel⟩
def sp_look_at_strips : Sp := fun vs H Q _ => ∃ F M v, ∃ (at' : Int) (xs : List Sp3), vs = [.int at', v] ∧ Wf F H M ∧ Rk F M v (.lst (xs.map spD)) ∧ (∀ x ∈ xs, SpOk x) ∧ xs.length ≤ 120 ∧ ∀ H', Wf F H' M → Q .non H'
theorem n_lookstrips {F : List (V × D)} {H : Hp} {M : List ME} {v : V} {at' : Int} {xs : List Sp3} {Q : VK} {E : XK} (w : Wf F H M) (hv : Rk F M v (.lst (xs.map spD))) (hx : ∀ x ∈ xs, SpOk x) (hl : xs.length ≤ 120) (q : ∀ H', Wf F H' M → Q .non H') : sp_look_at_strips ([.int at', v] ++ []) H Q E := ⟨F, M, v, at', xs, rfl, w, hv, hx, hl, q⟩

theorem ok_look_at_strips {f : Addr} {fd : FuncData} (F : Fun K "look_at_strips" "look_at_strips" s_look_at_strips f fd) (B : Bn mg) (c_is_strip : Cal P wd K mg base "is_strip" 3 ["thing"] [] sp_is_strip) (g_MOST_STRIPS : ∃ t, mg "MOST_STRIPS" = some (.int 120 t))  : FnOk P wd K mg base CX0 4 f fd ["at", "strips"] sp_look_at_strips := by
  refine F.ok sc_look_at_strips (fun vs H Q E h => ?_) (fun cdv A outer s H vs Q E hr h => ?_)
  · obtain ⟨F, M, v, at', xs, rfl, w, hv, hx, hl, k⟩ := h
    all_goals rfl
  · obtain ⟨F, M, v, at', xs, rfl, w, hv, hx, hl, k⟩ := h
    refine ⟨_, (pss_cons (ps_if (pt_not (pt_val (pe_callB (k_isi (K := K) rfl) (by rfl) B.isinstance_ (by decide +kernel) (pa_cons (pv 1) (pa_cons (pe_bltn (v := .ty "list") (by rfl) B.list_ (by decide +kernel) rfl) pa_nil))))) pss_never pss_nil)
      (pss_cons (ps_if (pt_cmpR op_gt (pe_callB (k_len (K := K) rfl) (by rfl) B.len_ (by decide +kernel) (pa_cons (pv 1) pa_nil)) (pe_globI (by rfl) g_MOST_STRIPS) (nomark _)) pss_never pss_nil)
      (pss_one (ps_for PassesOwn.never rfl (pi_enum (by rfl) B.enumerate_ (pa_cons (pv 1) pa_nil)) (kpg_tup (K := K) (n := 2) rfl rfl (pgs_cons (pg_name (i := 2) sc_look_at_strips.nd rfl (Or.inl rfl)) (pgs_cons (pg_name (i := 3) sc_look_at_strips.nd rfl (Or.inl rfl)) pgs_nil))) (pss_one (ps_if (pt_not (pt_val (pe_cal c_is_strip (hr.mono (by decide)) (by rfl) (pa_cons (pv 3) pa_nil)))) pss_never pss_nil)))))), ?_⟩
    try dsimp only [cxOf, Cx.nox, Cx.wish, Cx.blk]
    wtm_at "n"
    rw [List.length_map]
    refine s_iteDn (by omega) ?_
    wtm_at "n"
    refine n_enum w (fun i σ' F' M' => ∃ x1 x2, σ' = [some (.int at'), some v, x1, x2] ∧ F = F' ∧ M = M') (fun i σ F' M' h => by obtain ⟨_, _, _, rfl, rfl⟩ := h; exact hv) ⟨_, _, rfl, rfl, rfl⟩ ?_ ?_
    · rintro i d x σ' H' F' M' hd ⟨x1, x2, rfl, rfl, rfl⟩ w
      obtain ⟨r, hr', rfl⟩ := map_get hd
      wtm_at "n"
      refine n_is_strip (by assumption) (.mem (by ktf_call "mem")) (hx r (List.mem_of_getElem? hr')) fun H2 w => ?_
      wtm_at "n"
      exact ⟨_, _, ⟨_, _, rfl, rfl, rfl⟩, by wtm_at "wf"⟩
    · rintro σ' H' F' M' ⟨x1, x2, rfl, rfl, rfl⟩ w
      wtm_at "n"
      exact k _ w
abbrev s_look_at_frame : Stmt := top 44
theorem sc_look_at_frame : FnScope ["at", "feather", "rooms", "rest", "rule", "k", "room"] ["at", "feather", "rooms", "rest", "rule"] (defScope s_look_at_frame) := ⟨rfl, rfl, rfl, by decide +kernel, rfl, by decide +kernel, by decide +kernel⟩
def sp_look_at_frame (CP : Addr) : Sp := fun vs H Q _ => ∃ F M u vr, ∃ (at' : Int) (r : Row) (rooms : List Int) (rest rule : Int), vs = [.int at', u, vr, .int rest, .int rule] ∧ Wf F H M ∧ Kn F u (prtR CP r) ∧ Rk F M vr (.lst (rooms.map D.int)) ∧ rooms.length ≤ 24 ∧ (∀ x ∈ rooms, 0 ≤ x ∧ x ≤ 1000000000000) ∧ 0 ≤ rest ∧ rest ≤ 1000000000000 ∧ 0 ≤ rule ∧ rule ≤ 1000000 ∧ ∀ H', Wf F H' M → Q .non H'
theorem n_lookframe {CP : Addr} {F : List (V × D)} {H : Hp} {M : List ME} {u vr : V} {at' : Int} {r : Row} {rooms : List Int} {rest rule : Int} {Q : VK} {E : XK} (w : Wf F H M) (hu : Kn F u (prtR CP r)) (hr : Rk F M vr (.lst (rooms.map D.int))) (hl : rooms.length ≤ 24) (hb : ∀ x ∈ rooms, 0 ≤ x ∧ x ≤ 1000000000000) (r0 : 0 ≤ rest) (r1 : rest ≤ 1000000000000) (u0 : 0 ≤ rule) (u1 : rule ≤ 1000000) (q : ∀ H', Wf F H' M → Q .non H') : sp_look_at_frame CP ([.int at', u, vr, .int rest, .int rule] ++ []) H Q E := ⟨F, M, u, vr, at', r, rooms, rest, rule, rfl, w, hu, hr, hl, hb, r0, r1, u0, u1, q⟩

theorem ok_look_at_frame {f : Addr} {fd : FuncData} (F : Fun K "look_at_frame" "look_at_frame" s_look_at_frame f fd) (B : Bn mg) (c_is_length : Cal P wd K mg base "is_length" 2 ["thing"] [] (sp_is_length K)) (c_is_small : Cal P wd K mg base "is_small" 2 ["thing"] [] (sp_is_small K)) (o_Part : OwnC K C_Part) (n_Part : ∀ f ∈ (["base", "least", "greatest", "grow", "shrink"] : List Str), NoAttr K C_Part f) (g_MOST_COLUMNS : ∃ t, mg "MOST_COLUMNS" = some (.int 24 t)) (g_Part : mg "Part" = some (.ref C_Part))  : FnOk P wd K mg base CX0 3 f fd ["at", "feather", "rooms", "rest", "rule"] (sp_look_at_frame C_Part) := by
  refine F.ok sc_look_at_frame (fun vs H Q E h => ?_) (fun cdv A outer s H vs Q E hr h => ?_)
  · obtain ⟨F, M, u, vr, at', r, rooms, rest, rule, rfl, w, hu, hr', hl, hb, r0, r1, u0, u1, k⟩ := h
    all_goals rfl
  · obtain ⟨F, M, u, vr, at', r, rooms, rest, rule, rfl, w, hu, hr', hl, hb, r0, r1, u0, u1, k⟩ := h
    refine ⟨_, (pss_cons (ps_if (pt_not (pt_val (pe_callB (k_isi (K := K) rfl) (by rfl) B.isinstance_ (by decide +kernel) (pa_cons (pv 1) (pa_cons (pe_glob (v := .ref C_Part) (by rfl) g_Part rfl) pa_nil))))) pss_never pss_nil)
      (pss_cons (ps_if (pt_not (pt_val (pe_callB (k_isi (K := K) rfl) (by rfl) B.isinstance_ (by decide +kernel) (pa_cons (pv 2) (pa_cons (pe_bltn (v := .ty "list") (by rfl) B.list_ (by decide +kernel) rfl) pa_nil))))) pss_never pss_nil)
      (pss_cons (ps_if (pt_cmpR op_gt (pe_callB (k_len (K := K) rfl) (by rfl) B.len_ (by decide +kernel) (pa_cons (pv 2) pa_nil)) (pe_globI (by rfl) g_MOST_COLUMNS) (nomark _)) pss_never pss_nil)
      (pss_cons (ps_for PassesOwn.never rfl (pi_enum (by rfl) B.enumerate_ (pa_cons (pv 2) pa_nil)) (kpg_tup (K := K) (n := 2) rfl rfl (pgs_cons (pg_name (i := 5) sc_look_at_frame.nd rfl (Or.inl rfl)) (pgs_cons (pg_name (i := 6) sc_look_at_frame.nd rfl (Or.inl rfl)) pgs_nil))) (pss_one (ps_if (pt_not (pt_val (pe_cal c_is_length (hr.mono (by decide)) (by rfl) (pa_cons (pv 6) pa_nil)))) pss_never pss_nil)))
      (pss_cons (ps_if (pt_not (pt_val (pe_cal c_is_length (hr.mono (by decide)) (by rfl) (pa_cons (pv 3) pa_nil)))) pss_never pss_nil)
      (pss_one (ps_if (pt_not (pt_val (pe_cal c_is_small (hr.mono (by decide)) (by rfl) (pa_cons (pv 4) pa_nil)))) pss_never pss_nil))))))), ?_⟩
    try dsimp only [cxOf, Cx.nox, Cx.wish, Cx.blk]
    have hu' : Rk F M u (prtR C_Part r) := Rk.of hu fun q => by rcases q with ⟨n, e⟩ | ⟨n, e⟩ <;> cases e
    rw [show L2.start (["at", "feather", "rooms", "rest", "rule", "k", "room"] : List Str) [.int at', u, vr, .int rest, .int rule] = [some (.int at'), some u, some vr, some (.int rest), some (.int rule), none, none] from rfl]
    wtm_at "n"
    refine n_isiOC o_Part w hu' kit_self ?_
    wtm_at "n"
    rw [List.length_map]
    refine s_iteDn (by omega) ?_
    wtm_at "n"
    refine n_enum w (fun i σ' F' M' => ∃ x5 x6, σ' = [some (.int at'), some u, some vr, some (.int rest), some (.int rule), x5, x6] ∧ F = F' ∧ M = M') (fun i σ F' M' h => by obtain ⟨_, _, _, rfl, rfl⟩ := h; exact hr') ⟨_, _, rfl, rfl, rfl⟩ ?_ ?_
    · rintro i d x σ' H' F' M' hd ⟨x5, x6, rfl, rfl, rfl⟩ w
      obtain ⟨z, hz, rfl⟩ := map_get hd
      have hx := hb z (List.mem_of_getElem? hz)
      wtm_at "n"
      rename_i w2
      refine use_is_length (I := H') (M := []) Fs.W.self hx.1 hx.2 ?_
      wtm_at "n"
      exact ⟨_, _, ⟨_, _, rfl, rfl, rfl⟩, by wtm_at "wf"⟩
    rintro σ' H' F' M' ⟨x5, x6, rfl, rfl, rfl⟩ w
    wtm_at "n"
    refine use_is_length (I := H') (M := []) Fs.W.self r0 r1 ?_
    wtm_at "n"
    refine use_is_small (I := H') (M := []) Fs.W.self u0 u1 ?_
    wtm_at "n"
    exact k _ w
/-! ### what was frozen is changed again: strips whose notes stand at known places -/
abbrev HS := Addr × Addr × Sp3
def exS (hs : List HS) : List (V × D) := hs.flatMap fun h => [(.ref h.1, .tup [.int h.2.2.h, oD h.2.2.st, .ref h.2.1]), (.ref h.2.1, .lst (h.2.2.ns.map D.int))]
abbrev hsR (hs : List HS) : List D := hs.map fun h => D.ref h.1
abbrev hsD (hs : List HS) : List D := hs.map fun h => spD h.2.2
theorem exS_mem {hs : List HS} {h : HS} (hm : h ∈ hs) : (V.ref h.1, D.tup [.int h.2.2.h, oD h.2.2.st, .ref h.2.1]) ∈ exS hs ∧ (V.ref h.2.1, D.lst (h.2.2.ns.map D.int)) ∈ exS hs :=
  ⟨List.mem_flatMap.mpr ⟨h, hm, List.mem_cons_self⟩, List.mem_flatMap.mpr ⟨h, hm, List.mem_cons_of_mem _ List.mem_cons_self⟩⟩
theorem exS_inv {hs : List HS} {f : V × D} (hf : f ∈ exS hs) : ∃ h ∈ hs, f = (V.ref h.1, D.tup [.int h.2.2.h, oD h.2.2.st, .ref h.2.1]) ∨ f = (V.ref h.2.1, D.lst (h.2.2.ns.map D.int)) := by
  obtain ⟨h, h1, h2⟩ := List.mem_flatMap.mp hf
  refine ⟨h, h1, ?_⟩
  simpa using h2
theorem exS_deep {I : Hp} {hs : List HS} (hF : ∀ f ∈ exS hs, Is I f.1 f.2) {h : HS} (hm : h ∈ hs) : Is I (.ref h.1) (spD h.2.2) := by
  have h1 := hF _ (exS_mem hm).1
  have h2 := hF _ (exS_mem hm).2
  cases h1 with
  | tup hp a =>
    cases a with | cons a0 a =>
    cases a with | cons a1 a =>
    cases a with | cons a2 a =>
    cases a
    cases a2
    exact .tup hp (.cons a0 (.cons a1 (.cons h2 .nil)))
theorem isA_hs {I : Hp} : ∀ {hs : List HS}, (∀ f ∈ exS hs, Is I f.1 f.2) → IsA I (hs.map fun h => V.ref h.1) (hsD hs)
  | [], _ => .nil
  | h :: r, hF => .cons (exS_deep hF List.mem_cons_self) (isA_hs fun f hf => hF f (by unfold exS at *; rw [List.flatMap_cons]; exact List.mem_append_right _ hf))
theorem isA_refV {I : Hp} : ∀ {hs : List HS} {vs : List V}, IsA I vs (hsR hs) → vs = hs.map fun h => V.ref h.1
  | [], _, h => by cases h; rfl
  | h :: r, _, a => by
    cases a with
    | cons h1 h2 =>
      cases h1
      rw [isA_refV h2]
      rfl
section
variable {I H : Hp} {F F' : List (V × D)} {M M' : List ME} {p q : Addr} {v : V} {hs : List HS} {xs : List Sp3}
theorem Wf.deepM (w : Wf F H (.ml p (hsR hs) :: M)) (hk : ∀ f ∈ exS hs, f ∈ F) : Wf F H (.ml p (hsD hs) :: M) := by
  obtain ⟨I, Mc, w, a, hF⟩ := w.ex
  cases a with
  | cons h a =>
    cases h with
    | ml b =>
      have e := isA_refV b
      subst e
      exact ⟨I, _, w, .cons (.ml (isA_hs fun f hf => hF f (hk f hf))) a, hF⟩
theorem Wf.deepF (w : Wf F H M) (h : (V.ref p, D.lst (hsR hs)) ∈ F) (hk : ∀ f ∈ exS hs, f ∈ F) : Wf ((.ref p, .lst (hsD hs)) :: F) H M := by
  obtain ⟨I, Mc, w, a, hF⟩ := w.ex
  refine ⟨I, Mc, w, a, fun f hf => ?_⟩
  rcases List.mem_cons.mp hf with rfl | hf
  · have := hF _ h
    cases this with
    | lst hp b =>
      have e := isA_refV b
      subst e
      exact .lst hp (isA_hs fun f hf => hF f (hk f hf))
  · exact hF f hf
/-- where the notes of known strips stand -/
theorem isA_find {I : Hp} : ∀ {xs : List Sp3} {vs : List V}, IsA I vs (xs.map spD) → ∃ hs : List HS, hs.map (·.2.2) = xs ∧ vs = hs.map (fun h => V.ref h.1) ∧ ∀ f ∈ exS hs, Is I f.1 f.2
  | [], _, h => by cases h; exact ⟨[], rfl, rfl, fun _ h => (nomatch h)⟩
  | x :: xs, _, h => by
    cases h with
    | cons h1 h2 =>
      obtain ⟨hs, e1, rfl, e3⟩ := isA_find h2
      cases h1 with
      | @tup t vs _ hp a =>
        cases a with | cons a0 a =>
        cases a with | cons a1 a =>
        cases a with | cons a2 a =>
        cases a
        obtain ⟨qa, us, rfl, hq, hu⟩ := a2.lst_ex
        refine ⟨(t, qa, x) :: hs, by rw [List.map_cons, e1], rfl, fun f hf => ?_⟩
        unfold exS at hf
        rw [List.flatMap_cons] at hf
        rcases List.mem_append.mp hf with hf | hf
        · simp only [List.mem_cons, List.not_mem_nil, or_false] at hf
          rcases hf with rfl | rfl
          · exact .tup hp (.cons a0 (.cons a1 (.cons (.ref qa) .nil)))
          · exact .lst hq hu
        · exact e3 f hf
theorem Wf.find (w : Wf F H M) (h : (V.ref p, D.lst (xs.map spD)) ∈ F) : ∃ hs : List HS, hs.map (·.2.2) = xs ∧ Wf ((.ref p, .lst (hsR hs)) :: (exS hs ++ F)) H M := by
  obtain ⟨I, Mc, w, a, hF⟩ := w.ex
  have := hF _ h
  cases this with
  | lst hp b =>
    obtain ⟨hs, e1, rfl, e3⟩ := isA_find b
    refine ⟨hs, e1, I, Mc, w, a, fun f hf => ?_⟩
    rcases List.mem_cons.mp hf with rfl | hf
    · refine .lst hp ?_
      have : ∀ hs : List HS, IsA I (hs.map fun h => V.ref h.1) (hsR hs) := fun hs => by
        induction hs with
        | nil => exact .nil
        | cons h r ih => exact .cons (.ref _) ih
      exact this hs
    · rcases List.mem_append.mp hf with hf | hf
      · exact e3 f hf
      · exact hF f hf
/-- what is known stands somewhere -/
theorem Wf.fresh {ds : List D} (w : Wf F H M) (hp : H p = none) : (V.ref p, D.lst ds) ∉ F := fun h => by
  obtain ⟨I, Mc, w, a, hF⟩ := w.ex
  have := hF _ h
  cases this with
  | lst h1 _ =>
    have := w.imm _ _ h1
    rw [hp] at this
    cases this
/-! known without q -/
def Off (q : Addr) (F : List (V × D)) (f : V × D) : Prop := ∀ (I : Hp) (vs : List V), (∀ f ∈ F, Is I f.1 f.2) → I q = some (.lst vs) → Is (del I q) f.1 f.2
def OffM (q : Addr) (F : List (V × D)) (e : ME) : Prop := ∀ (I : Hp) (vs : List V) (m : Addr × HO), (∀ f ∈ F, Is I f.1 f.2) → I q = some (.lst vs) → Cn I e m → Cn (del I q) e m
def flatD : D → Bool
  | .non => true | .bl _ => true | .int _ => true | .str _ => true | .ref _ => true | .ty _ => true
  | _ => false
theorem Is.flat {I J : Hp} {v : V} {d : D} (h : Is I v d) (e : flatD d = true) : Is J v d := by
  cases h <;> first | exact .non | exact .bl _ | exact .int _ | exact .str _ | exact .ref _ | exact .ty _ | cases e
theorem IsA.flat' {I J : Hp} : ∀ {ds : List D} {vs : List V}, IsA I vs ds → (∀ d ∈ ds, flatD d = true) → IsA J vs ds
  | [], _, h, _ => by cases h; exact .nil
  | d :: ds, _, h, e => by
    cases h with
    | cons h1 h2 => exact .cons (h1.flat (e d List.mem_cons_self)) (IsA.flat' h2 fun d hd => e d (List.mem_cons_of_mem _ hd))
theorem IsF.flat {I J : Hp} : ∀ {ds : List (Str × D)} {vs : List (Str × V)}, IsF I vs ds → (∀ d ∈ ds, flatD d.2 = true) → IsF J vs ds
  | [], _, h, _ => by cases h; exact .nil
  | d :: ds, _, h, e => by
    cases h with
    | cons h1 h2 => exact .cons (h1.flat (e _ List.mem_cons_self)) (IsF.flat h2 fun d hd => e d (List.mem_cons_of_mem _ hd))
theorem del_at {I : Hp} {o : HO} {vs : List V} (h : I p = some o) (hq : I q = some (.lst vs)) (ne : ∀ us, o ≠ .lst us) : del I q p = some o := by
  rw [del_ne]
  · exact h
  · rintro rfl
    rw [h] at hq
    cases hq
    exact ne _ rfl
theorem offT {ds : List D} (hf : (v, D.tup ds) ∈ F) (h : ∀ d ∈ ds, flatD d = true) : Off q F (v, .tup ds) := fun I vs hF hq => by
  have := hF _ hf
  cases this with
  | tup hp a => exact .tup (del_at hp hq fun _ e => nomatch e) (a.flat' h)
theorem offO {C : Addr} {fs : List (Str × D)} (hf : (v, D.obj C fs) ∈ F) (h : ∀ d ∈ fs, flatD d.2 = true) : Off q F (v, .obj C fs) := fun I vs hF hq => by
  have := hF _ hf
  cases this with
  | obj hp a => exact .obj (del_at hp hq fun _ e => nomatch e) (a.flat h)
theorem offL {ds : List D} (hf : (V.ref p, D.lst ds) ∈ F) (ne : p ≠ q) (h : ∀ d ∈ ds, flatD d = true) : Off q F (.ref p, .lst ds) := fun I vs hF hq => by
  have := hF _ hf
  cases this with
  | lst hp a => exact .lst (by rw [del_ne ne]; exact hp) (a.flat' h)
theorem off_hs (hf : (V.ref p, D.lst (hsR hs)) ∈ F) (hk : ∀ f ∈ exS hs, f ∈ F) (ne : p ≠ q) (hn : ∀ h ∈ hs, h.2.1 ≠ q) : Off q F (.ref p, .lst (hsD hs)) := fun I vs hF hq => by
  have h1 := offL (q := q) hf ne (fun d hd => by obtain ⟨h, _, rfl⟩ := List.mem_map.mp hd; rfl) I vs hF hq
  cases h1 with
  | lst hp a =>
    have e := isA_refV a
    subst e
    refine .lst hp (isA_hs fun f hf => ?_)
    obtain ⟨h, hh, rfl | rfl⟩ := exS_inv hf
    · refine offT (hk _ hf) (fun d hd => ?_) I vs hF hq
      simp only [List.mem_cons, List.not_mem_nil, or_false] at hd
      rcases hd with rfl | rfl | rfl
      · rfl
      · cases h.2.2.st <;> rfl
      · rfl
    · exact offL (hk _ hf) (hn h hh) (fun d hd => by obtain ⟨n, _, rfl⟩ := List.mem_map.mp hd; rfl) I vs hF hq
theorem IsA.offP {I : Hp} {vs0 : List V} (hq : I q = some (.lst vs0)) : ∀ {ds : List D} {vs : List V}, IsA I vs ds → (∀ d ∈ ds, flatD d = true ∨ ∃ es, d = .tup es ∧ ∀ e ∈ es, flatD e = true) → IsA (del I q) vs ds
  | [], _, h, _ => by cases h; exact .nil
  | d :: ds, _, h, e => by
    cases h with
    | cons h1 h2 =>
      refine .cons ?_ (IsA.offP hq h2 fun d hd => e d (List.mem_cons_of_mem _ hd))
      rcases e d List.mem_cons_self with e1 | ⟨es, rfl, e1⟩
      · exact h1.flat e1
      · cases h1 with
        | tup hp a => exact .tup (del_at hp hq fun _ e => nomatch e) (a.flat' e1)
theorem offML {ds : List D} (h : ∀ d ∈ ds, flatD d = true ∨ ∃ es, d = .tup es ∧ ∀ e ∈ es, flatD e = true) : OffM q F (.ml p ds) := fun I vs m hF hq c => by
  cases c with
  | ml a => exact .ml (a.offP hq h)
/-- what stood still is changed again -/
theorem Wf.thaw {ds : List D} (w : Wf F H M) (hq : (V.ref q, D.lst ds) ∈ F) (hd : ∀ d ∈ ds, flatD d = true) (hF' : ∀ f ∈ F', Off q F f) (s : List.Sublist M' M) (hM : ∀ e ∈ M', OffM q F e) : Wf F' H (.ml q ds :: M') := by
  obtain ⟨I, Mc, w, a, hF⟩ := (w.sub KS.refl s).ex
  have h0 := hF _ hq
  cases h0 with
  | @lst _ vs _ hp b =>
    have ia : ∀ p o, del I q p = some o → I p = some o := fun p o e => by
      by_cases hpq : p = q
      · subst hpq
        rw [del_same] at e
        cases e
      · rw [del_ne hpq] at e
        exact e
    refine ⟨del I q, (q, .lst vs) :: Mc, ⟨fun p o e => w.imm p o (ia p o e), fun m hm => ?_, ?_⟩, .cons (.ml (b.flat' hd)) ?_, fun f hf => hF' f hf I vs hF hp⟩
    · rcases List.mem_cons.mp hm with rfl | hm
      · exact ⟨w.imm _ _ hp, del_same⟩
      · refine ⟨(w.mu m hm).1, ?_⟩
        cases e : del I q m.1 with
        | none => rfl
        | some o =>
          have := ia _ _ e
          rw [(w.mu m hm).2] at this
          cases this
    · rw [List.map_cons, List.nodup_cons]
      refine ⟨fun hm => ?_, w.nd⟩
      obtain ⟨m, hm, e⟩ := List.mem_map.mp hm
      have := (w.mu m hm).2
      rw [e, hp] at this
      cases this
    · clear s
      induction a with
      | nil => exact .nil
      | cons h a ih => exact .cons (hM _ List.mem_cons_self I vs _ hF hp h) (ih (fun e he => hM e (List.mem_cons_of_mem _ he)) ⟨w.imm, fun x hx => w.mu x (List.mem_cons_of_mem _ hx), (List.nodup_cons.mp w.nd).2⟩)
end
theorem n_listN {K : PySem.W.Frag} {H : Hp} {F : List (V × D)} {M : List ME} {Q : VK} {x : V} {ds : List D} (w : Wf F H M) (h : Rk F M x (.lst ds)) (q : ∀ p H', H p = none → Wf F H' (.ml p ds :: M) → Q (.ref p) H') : rListOf K [x] H Q := by
  obtain ⟨I, Mc, w, a, hF⟩ := w.ex
  obtain ⟨p, vs, rfl, hp, b⟩ := h.lst w a hF
  exact ⟨p, vs, rfl, .inl (.inl (.inl hp)), fun l hl => q l _ hl ⟨I, _, w.newM hl, .cons (.ml b) a, hF⟩⟩
theorem Wf.apart {F : List (V × D)} {H : Hp} {M : List ME} {p q : Addr} {ds es : List D} (w : Wf F H M) (hp : .ml p ds ∈ M) (hq : (V.ref q, D.lst es) ∈ F) : q ≠ p := by
  rintro rfl
  obtain ⟨I, Mc, w, a, hF⟩ := w.ex
  obtain ⟨m, h1, h2⟩ := a.mem hp
  cases h2 with
  | ml _ =>
    have h3 := (w.mu _ h1).2
    have h4 := hF _ hq
    cases h4 with
    | lst h5 _ =>
      have h3 : I q = none := h3
      rw [h3] at h5
      cases h5
theorem off_exS {q : Addr} {F : List (V × D)} {hs : List HS} (hk : ∀ f ∈ exS hs, f ∈ F) (hn : ∀ h ∈ hs, h.2.1 ≠ q) : ∀ f ∈ exS hs, Off q F f := fun f hf => by
  obtain ⟨h, hh, rfl | rfl⟩ := exS_inv hf
  · refine offT (hk _ hf) fun d hd => ?_
    simp only [List.mem_cons, List.not_mem_nil, or_false] at hd
    rcases hd with rfl | rfl | rfl
    · rfl
    · cases h.2.2.st <;> rfl
    · rfl
  · exact offL (hk _ hf) (hn h hh) fun d hd => by obtain ⟨n, _, rfl⟩ := List.mem_map.mp hd; rfl
theorem hsR_flat {hs : List HS} : ∀ d ∈ hsR hs, flatD d = true := fun d hd => by obtain ⟨h, _, rfl⟩ := List.mem_map.mp hd; rfl

abbrev s_copied_strips : Stmt := top 45
theorem sc_copied_strips : FnScope ["strips", "high", "stick", "notes"] ["strips"] (defScope s_copied_strips) := ⟨rfl, rfl, rfl, by decide +kernel, rfl, by decide +kernel, by decide +kernel⟩
def sp_copied_strips : Sp := fun vs H Q _ => ∃ F M v, ∃ (xs : List Sp3), vs = [v] ∧ Wf F H M ∧ Rk F M v (.lst (xs.map spD)) ∧ xs.length ≤ 1000 ∧ ∀ p H' (hs : List HS), hs.map (·.2.2) = xs → (∀ h ∈ hs, ∀ ds, (V.ref h.2.1, D.lst ds) ∉ F) → Wf (exS hs ++ F) H' (.ml p (hsR hs) :: M) → Q (.ref p) H'
theorem n_copied {F : List (V × D)} {H : Hp} {M : List ME} {v : V} {xs : List Sp3} {Q : VK} {E : XK} (w : Wf F H M) (hv : Rk F M v (.lst (xs.map spD))) (hl : xs.length ≤ 1000) (q : ∀ p H', Wf F H' (.ml p (xs.map spD) :: M) → Q (.ref p) H') : sp_copied_strips ([v] ++ []) H Q E :=
  ⟨F, M, v, xs, rfl, w, hv, hl, fun p H' hs e _ w' => q p H' (by
    have w2 := w'.deepM fun f hf => List.mem_append_left _ hf
    have e2 : hsD hs = xs.map spD := by rw [← e, List.map_map]; rfl
    rw [e2] at w2
    exact w2.sub (fun f hf => .mem (List.mem_append_right _ hf)) (.refl _))⟩
theorem n_copiedX {F : List (V × D)} {H : Hp} {M : List ME} {v : V} {xs : List Sp3} {Q : VK} {E : XK} (w : Wf F H M) (hv : Rk F M v (.lst (xs.map spD))) (hl : xs.length ≤ 1000) (q : ∀ p H' (hs : List HS), hs.map (·.2.2) = xs → (∀ h ∈ hs, ∀ ds, (V.ref h.2.1, D.lst ds) ∉ F) → Wf (exS hs ++ F) H' (.ml p (hsR hs) :: M) → Q (.ref p) H') : sp_copied_strips ([v] ++ []) H Q E := ⟨F, M, v, xs, rfl, w, hv, hl, q⟩

theorem ok_copied_strips {f : Addr} {fd : FuncData} (F : Fun K "copied_strips" "copied_strips" s_copied_strips f fd) (B : Bn mg)  : FnOk P wd K mg base CX0 1 f fd ["strips"] sp_copied_strips := by
  refine F.ok sc_copied_strips (fun vs H Q E h => ?_) (fun cdv A outer s H vs Q E hr h => ?_)
  · obtain ⟨F, M, v, xs, rfl, w, hv, hl, k⟩ := h
    all_goals rfl
  · obtain ⟨F, M, v, xs, rfl, w, hv, hl, k⟩ := h
    refine ⟨_, (pss_one (ps_ret (pe_lc (own := [("high", 1), ("stick", 2), ("notes", 3)]) (by rfl) sc_copied_strips.nd (kpi_list (K := K) rfl (pv 0)) (blkOk_by (own := [("high", 1), ("stick", 2), ("notes", 3)]) (N := ["strips", "high", "stick", "notes"]) (sc := defScope s_copied_strips) (by decide +kernel)) (fun _ _ _ _ _ => (kpg_tup (K := K) (n := 3) rfl rfl (pgs_cons (pg_name (i := 1) sc_copied_strips.nd rfl (Or.inl rfl)) (pgs_cons (pg_name (i := 2) sc_copied_strips.nd rfl (Or.inl rfl)) (pgs_cons (pg_name (i := 3) sc_copied_strips.nd rfl (Or.inl rfl)) pgs_nil))))) (fun _ _ _ _ _ => pts_nil) (fun _ _ _ _ _ => (pe_tup (pa_cons (pv 1) (pa_cons (pv 2) (pa_cons (pe_callTy (k_list (K := K) rfl) (by rfl) B.list_ (by decide +kernel) (pa_cons (pv 3) pa_nil)) pa_nil)))))))), ?_⟩
    try dsimp only [cxOf, Cx.nox, Cx.wish, Cx.blk]
    wtm_at "n"
    have rk : ∀ (L : List (V × D)), Rk (L ++ F) M v (.lst (xs.map spD)) := fun L => by
      induction L with
      | nil => exact hv
      | cons f L ih => exact ih.moreF
    refine n_lcKL w (fun i acc F' M' => M' = M ∧ ∃ hs : List HS, hs.map (·.2.2) = xs.take i ∧ (∀ h ∈ hs, ∀ ds, (V.ref h.2.1, D.lst ds) ∉ F) ∧ acc = hsR hs ∧ F' = exS hs.reverse ++ F) (fun i acc F' M' ⟨e, hs, _, _, _, e2⟩ => by subst e; subst e2; exact rk _) ⟨rfl, [], rfl, fun _ h => (nomatch h), rfl, rfl⟩ (by rw [List.length_map]; omega) ?_ ?_
    · rintro i d y Dp acc H0 F' M' Ap Sk hd ⟨rfl, hs, e1, hfr, rfl, rfl⟩ w kA kS
      obtain ⟨x, hx, rfl⟩ := map_get hd
      refine n_gtup3 w (by ktf_call "rk") fun a b c w => ?_
      obtain ⟨rfl, w1⟩ := w.eq0
      wtm_at "n"
      refine ⟨rfl, ?_⟩
      repeat (first | tbr_iter "f1" | wtm_at "e1" | wtm_at "s1" | wtm_at "b1")
      refine n_listN w (.mem (List.mem_cons_of_mem _ (List.mem_cons_of_mem _ List.mem_cons_self))) fun pl H3 hpl w3 => ?_
      have hn : ∀ ds, (V.ref pl, D.lst ds) ∉ F := fun ds hm => w.fresh (ds := ds) hpl (by simp [hm])
      have w := w3.frzL .here
      repeat (first | tbr_iter "f1" | wtm_at "e1" | wtm_at "s1" | wtm_at "b1")
      refine n_newT (ds := [.int x.h, oD x.st, .ref pl]) w (.cons (.int _) (.cons (by ktf_call "kn") (.cons (.ref _) .nil))) (by simp) fun t H4 w => ?_
      refine kA _ (.ref t) _ (exS (hs ++ [(t, pl, x)]).reverse ++ F) M' (w.sub ?_ (.refl _)) ⟨rfl, hs ++ [(t, pl, x)], by rw [List.map_append, e1, take_snoc hx]; rfl, fun h hh ds => ?_, by simp [hsR], rfl⟩
      · rw [List.reverse_append]
        refine KS.cons (.ref t) (KS.cons (.mem List.mem_cons_self) (KS.cons (.mem (by simp)) fun f hf => .mem ?_))
        simp only [List.mem_cons]
        exact .inr (.inr (.inr (.inr (.inr (.inr hf)))))
      · rcases List.mem_append.mp hh with hh | hh
        · exact hfr h hh ds
        · rw [List.mem_singleton.mp hh]
          exact hn ds
    rintro p es H' F' M' ⟨rfl, hs, e1, hfr, rfl, rfl⟩ w
    rw [List.length_map, List.take_length] at e1
    refine k p _ hs e1 hfr (w.sub (fun f hf => .mem ?_) (.refl _))
    rcases List.mem_append.mp hf with hf | hf
    · obtain ⟨h, h1, h2⟩ := exS_inv hf
      refine List.mem_append_left _ ?_
      have h3 := exS_mem (List.mem_reverse.mpr h1)
      rcases h2 with rfl | rfl
      · exact h3.1
      · exact h3.2
    · exact List.mem_append_right _ hf
/-! ### columns with what their strips are made of; what stands apart -/
def rfO : Option Addr → D
  | none => .non
  | some a => .ref a
def rfV : Option Addr → V
  | none => .non
  | some a => .ref a
def clF (C pw ua pr : Addr) (rest rule : Int) (fa : Option Addr) : D := .obj C [("strips", .ref pw), ("feather", .ref ua), ("rooms", .ref pr), ("rest", .int rest), ("rule", .int rule), ("fee", rfO fa)]
def clP (C x pw ua pr : Addr) (hs : List HS) (rooms : List Int) (rest rule : Int) (fa : Option Addr) : List (V × D) := (.ref x, clF C pw ua pr rest rule fa) :: (.ref pw, .lst (hsR hs)) :: (.ref pr, .lst (rooms.map D.int)) :: exS hs
section
variable {P : Program} {wd : World} {K : PySem.W.Frag} {mg : Str → Option Value} {base : Heap} {C CP x pw ua pr q : Addr} {hs : List HS} {xs : List Sp3} {r : Row} {rooms : List Int} {rest rule : Int} {fa : Option Addr} {fe : Fee} {L : List ME} {F : List (V × D)} {H : Hp} {M : List ME}
theorem lst_deep {I : Hp} {p : Addr} (h : Is I (.ref p) (.lst (hsR hs))) (hk : ∀ f ∈ exS hs, Is I f.1 f.2) (e : hs.map (·.2.2) = xs) : Is I (.ref p) (.lst (xs.map spD)) := by
  cases h with
  | lst hp a =>
    have z := isA_refV a
    subst z
    have := isA_hs hk
    rw [← e, List.map_map]
    exact .lst hp this
theorem cl_deep {I : Hp} (h : ∀ f ∈ clP C x pw ua pr hs rooms rest rule fa, Is I f.1 f.2) (hu : Is I (.ref ua) (prtR CP r)) (hf : Is I (rfV fa) (feeD P wd K mg base L fe)) (e : hs.map (·.2.2) = xs) : Is I (.ref x) (clO P wd K mg base C CP xs r rooms rest rule fe L) := by
  have h0 := h _ List.mem_cons_self
  have h1 := h _ (List.mem_cons_of_mem _ List.mem_cons_self)
  have h2 := h _ (List.mem_cons_of_mem _ (List.mem_cons_of_mem _ List.mem_cons_self))
  have h3 := lst_deep h1 (fun f hf => h f (List.mem_cons_of_mem _ (List.mem_cons_of_mem _ (List.mem_cons_of_mem _ hf)))) e
  cases h0 with
  | obj hp a =>
    cases a with | cons a0 a =>
    cases a with | cons a1 a =>
    cases a with | cons a2 a =>
    cases a with | cons a3 a =>
    cases a with | cons a4 a =>
    cases a with | cons a5 a =>
    cases a
    cases a0
    cases a1
    cases a2
    have e5 : ∀ {v : V}, Is I v (rfO fa) → v = rfV fa := fun {v} z => by
      cases fa with
      | none => exact z.non_eq
      | some a => cases z; rfl
    obtain rfl := e5 a5
    exact .obj hp (.cons h3 (.cons hu (.cons h2 (.cons a3 (.cons a4 (.cons hf .nil))))))
theorem Wf.clDeep (w : Wf F H M) (h : ∀ f ∈ clP C x pw ua pr hs rooms rest rule fa, f ∈ F) (hu : Kn F (.ref ua) (prtR CP r)) (hf : Kn F (rfV fa) (feeD P wd K mg base L fe)) (e : hs.map (·.2.2) = xs) : Wf ((.ref x, clO P wd K mg base C CP xs r rooms rest rule fe L) :: F) H M := by
  obtain ⟨I, Mc, w, a, hF⟩ := w.ex
  refine ⟨I, Mc, w, a, fun f hf' => ?_⟩
  rcases List.mem_cons.mp hf' with rfl | hf'
  · exact cl_deep (fun f z => hF f (h f z)) (hu.is hF) (hf.is hF) e
  · exact hF f hf'
theorem off_cl (h : ∀ f ∈ clP C x pw ua pr hs rooms rest rule fa, f ∈ F) (n1 : pw ≠ q) (n2 : pr ≠ q) (n3 : ∀ h ∈ hs, h.2.1 ≠ q) : ∀ f ∈ clP C x pw ua pr hs rooms rest rule fa, Off q F f := fun f hf => by
  have hf0 := hf
  unfold clP at hf
  rcases List.mem_cons.mp hf with rfl | hf
  · refine offO (h _ hf0) fun d hd => ?_
    simp only [List.mem_cons, List.not_mem_nil, or_false] at hd
    rcases hd with rfl | rfl | rfl | rfl | rfl | rfl <;> first | rfl | (cases fa <;> rfl)
  rcases List.mem_cons.mp hf with rfl | hf
  · exact offL (h _ hf0) n1 hsR_flat
  rcases List.mem_cons.mp hf with rfl | hf
  · exact offL (h _ hf0) n2 fun d hd => by obtain ⟨n, _, rfl⟩ := List.mem_map.mp hd; rfl
  · exact off_exS (fun f hf => h f (List.mem_cons_of_mem _ (List.mem_cons_of_mem _ (List.mem_cons_of_mem _ hf)))) n3 f hf
end

abbrev s_Columns___init__ : Stmt := inClass (top 47) 0
theorem sc_Columns___init__ : FnScope ["self", "strips", "feather", "rooms", "rest", "rule", "fee"] ["self", "strips", "feather", "rooms", "rest", "rule", "fee"] (defScope s_Columns___init__) := ⟨rfl, rfl, rfl, by decide +kernel, rfl, by decide +kernel, by decide +kernel⟩
def sp_Columns___init__ (P : Program) (wd : World) (K : PySem.W.Frag) (mg : Str → Option Value) (base : Heap) (C CP : Addr) : Sp := fun vs H Q _ => ∃ F M x v u vr fv, ∃ (xs : List Sp3) (r : Row) (rooms : List Int) (rest rule : Int) (fe : Fee) (L : List ME), vs = [.ref x, v, u, vr, .int rest, .int rule, fv] ∧ Wf F H (.mi x C [] :: M) ∧ Rk F (.mi x C [] :: M) v (.lst (xs.map spD)) ∧ Kn F u (prtR CP r) ∧ Rk F (.mi x C [] :: M) vr (.lst (rooms.map D.int)) ∧ Kn F fv (feeD P wd K mg base L fe) ∧ ClOk xs r rooms rest rule ∧ ∀ H' (pw ua pr : Addr) (hs : List HS) (fa : Option Addr), u = .ref ua → fv = rfV fa → hs.map (·.2.2) = xs → (∀ h ∈ hs, ∀ ds, (V.ref h.2.1, D.lst ds) ∉ F) → (∀ ds, (V.ref pw, D.lst ds) ∉ F) → (∀ ds, (V.ref pr, D.lst ds) ∉ F) → Wf (clP C x pw ua pr hs rooms rest rule fa ++ F) H' M → Q .non H'
theorem n_mkClS {P : Program} {wd : World} {K : PySem.W.Frag} {mg : Str → Option Value} {base : Heap} {C CP : Addr} {F : List (V × D)} {H : Hp} {M : List ME} {v u vr fv : V} {xs : List Sp3} {r : Row} {rooms : List Int} {rest rule : Int} {fe : Fee} {L : List ME} {Q : VK} {E : XK} (ww : Wf F H M) (hv : Rk F M v (.lst (xs.map spD))) (hu : Kn F u (prtR CP r)) (hr : Rk F M vr (.lst (rooms.map D.int))) (hf : Kn F fv (feeD P wd K mg base L fe)) (ok : ClOk xs r rooms rest rule) (q : ∀ x H' (pw ua pr : Addr) (hs : List HS) (fa : Option Addr), u = .ref ua → fv = rfV fa → hs.map (·.2.2) = xs → (∀ h ∈ hs, ∀ ds, (V.ref h.2.1, D.lst ds) ∉ F) → (∀ ds, (V.ref pw, D.lst ds) ∉ F) → (∀ ds, (V.ref pr, D.lst ds) ∉ F) → Wf (clP C x pw ua pr hs rooms rest rule fa ++ F) H' M → Q (.ref x) H') : MakeQ C (sp_Columns___init__ P wd K mg base C CP) E Q [v, u, vr, .int rest, .int rule, fv] H := fun x dx hx hd ne => by
  have w1 : Wf F (upd H dx (.own x)) M := ww.more (same_new hd)
  have hx1 : upd H dx (.own x) x = none := by rw [upd_ne ne.symm]; exact hx
  obtain ⟨I, Mc, w1, ac, hF⟩ := w1.ex
  exact ⟨F, M, x, v, u, vr, fv, xs, r, rooms, rest, rule, fe, L, rfl, ⟨I, (x, .ins C dx []) :: Mc, w1.newM hx1, .cons (.mi .nil) ac, hF⟩, hv.more, hu, hr.more, hf, ok, fun H' pw ua pr hs fa e1 e2 e3 n1 n2 n3 w' => ⟨rfl, q x H' pw ua pr hs fa e1 e2 e3 n1 n2 n3 w'⟩⟩
theorem n_mkCl {P : Program} {wd : World} {K : PySem.W.Frag} {mg : Str → Option Value} {base : Heap} {C CP : Addr} {F : List (V × D)} {H : Hp} {M : List ME} {v u vr fv : V} {xs : List Sp3} {r : Row} {rooms : List Int} {rest rule : Int} {fe : Fee} {L : List ME} {Q : VK} {E : XK} (ww : Wf F H M) (hv : Rk F M v (.lst (xs.map spD))) (hu : Kn F u (prtR CP r)) (hr : Rk F M vr (.lst (rooms.map D.int))) (hf : Kn F fv (feeD P wd K mg base L fe)) (ok : ClOk xs r rooms rest rule) (q : ∀ x H', Wf ((.ref x, clO P wd K mg base C CP xs r rooms rest rule fe L) :: F) H' M → Q (.ref x) H') : MakeQ C (sp_Columns___init__ P wd K mg base C CP) E Q [v, u, vr, .int rest, .int rule, fv] H :=
  n_mkClS ww hv hu hr hf ok fun x H' pw ua pr hs fa e1 e2 e3 _ _ _ w' => q x H' (by
    subst e1
    subst e2
    have w2 := Wf.clDeep (P := P) (wd := wd) (K := K) (mg := mg) (base := base) (L := L) (fe := fe) w' (fun f hf => List.mem_append_left _ hf) (hu.app _) (hf.app _) e3
    exact w2.sub (KS.cons (.mem List.mem_cons_self) fun f hf => .mem (List.mem_cons_of_mem _ (List.mem_append_right _ hf))) (.refl _))

theorem ok_Columns___init__ {f : Addr} {fd : FuncData} (F : FunD K "__init__" "Columns.__init__" (defArgs s_Columns___init__) (defBody s_Columns___init__) (defScope s_Columns___init__) [.non] [] f fd) (B : Bn mg) (c_look_at_strips : Cal P wd K mg base "look_at_strips" 4 ["at", "strips"] [] sp_look_at_strips) (c_look_at_frame : Cal P wd K mg base "look_at_frame" 3 ["at", "feather", "rooms", "rest", "rule"] [] (sp_look_at_frame C_Part)) (c_copied_strips : Cal P wd K mg base "copied_strips" 1 ["strips"] [] sp_copied_strips) (o_Columns : OwnC K C_Columns) (n_Columns : ∀ f ∈ (["strips", "feather", "rooms", "rest", "rule", "fee"] : List Str), NoAttr K C_Columns f) (o_Part : OwnC K C_Part) (n_Part : ∀ f ∈ (["base", "least", "greatest", "grow", "shrink"] : List Str), NoAttr K C_Part f)  : FnOk P wd K mg base CX0 5 f fd ["self", "strips", "feather", "rooms", "rest", "rule", "fee"] (sp_Columns___init__ P wd K mg base C_Columns C_Part) := by
  refine F.ok0 sc_Columns___init__ (fun vs H Q E h => ?_) (fun cdv A outer s H vs Q E hr h => ?_)
  · obtain ⟨F, M, x, v, u, vr, fv, xs, r, rooms, rest, rule, fe, L, rfl, ww, hv, hu, hr', hf, ok, k⟩ := h
    all_goals rfl
  · obtain ⟨F, M, x, v, u, vr, fv, xs, r, rooms, rest, rule, fe, L, rfl, ww, hv, hu, hr', hf, ok, k⟩ := h
    refine ⟨_, (pss_cons (ps_expr (pe_cal c_look_at_strips (hr.mono (by decide)) (by rfl) (pa_cons pe_int (pa_cons (pv 1) pa_nil))))
      (pss_cons (ps_expr (pe_cal c_look_at_frame (hr.mono (by decide)) (by rfl) (pa_cons pe_int (pa_cons (pv 2) (pa_cons (pv 3) (pa_cons (pv 4) (pa_cons (pv 5) pa_nil)))))))
      (pss_cons (kps_fld (K := K) rfl (pv 0) (pe_cal c_copied_strips (hr.mono (by decide)) (by rfl) (pa_cons (pv 1) pa_nil)) rfl)
      (pss_cons (kps_fld (K := K) rfl (pv 0) (pv 2) rfl)
      (pss_cons (kps_fld (K := K) rfl (pv 0) (pe_callTy (k_list (K := K) rfl) (by rfl) B.list_ (by decide +kernel) (pa_cons (pv 3) pa_nil)) rfl)
      (pss_cons (kps_fld (K := K) rfl (pv 0) (pv 4) rfl)
      (pss_cons (kps_fld (K := K) rfl (pv 0) (pv 5) rfl)
      (pss_one (kps_fld (K := K) rfl (pv 0) (pv 6) rfl))))))))), ?_⟩
    try dsimp only [cxOf, Cx.nox, Cx.wish, Cx.blk]
    rw [show L2.start (["self", "strips", "feather", "rooms", "rest", "rule", "fee"] : List Str) [.ref x, v, u, vr, .int rest, .int rule, fv] = [some (.ref x), some v, some u, some vr, some (.int rest), some (.int rule), some fv] from rfl]
    obtain ⟨ua, rfl⟩ := ww.ref_of hu
    obtain ⟨fa, rfl⟩ : ∃ fa, fv = rfV fa := by
      cases fe with
      | none => exact ⟨none, ww.non_of hf⟩
      | some f => obtain ⟨a, e⟩ := ww.fn_of hf; exact ⟨some a, e⟩
    wtm_at "n"
    refine n_lookstrips ww hv ok.xb ok.xl fun H1 ww => ?_
    wtm_at "n"
    refine n_lookframe ww hu hr' ok.l24 ok.rb ok.r0 ok.r1 ok.u0 ok.u1 fun H1 ww => ?_
    repeat (first | tbr_iter "f1" | wtm_at "e1" | wtm_at "s1" | wtm_at "b1")
    refine n_copiedX ww hv (by have := ok.xl; omega) fun pw H2 hs ehs hfr ww => ?_
    have hpw : ∀ ds, (V.ref pw, D.lst ds) ∉ F := fun ds hm => ww.apart List.mem_cons_self (List.mem_append_right _ hm) rfl
    have ww := ww.frzL .here
    obtain ⟨F1, eF1, ww⟩ : ∃ F1, F1 = exS hs ++ F ∧ Wf ((V.ref pw, D.lst (hsR hs)) :: F1) H2 (.mi x C_Columns [] :: M) := ⟨_, rfl, ww⟩
    repeat (first | tbr_iter "f1" | wtm_at "e1" | wtm_at "s1" | wtm_at "b1")
    refine n_sf (f := "strips") (d := .ref pw) ww (by ktf_call "foc") (.ref _) o_Columns.cl n_Columns (by decide) (by decide) fun H3 ww => ?_
    rw [putD_new (by (try simp only [List.nil_append, List.cons_append, List.map_cons, List.map_nil]); decide)] at ww
    repeat (first | tbr_iter "f1" | wtm_at "e1" | wtm_at "s1" | wtm_at "b1")
    refine n_sf (f := "feather") (d := .ref ua) ww (by ktf_call "foc") (.ref _) o_Columns.cl n_Columns (by decide) (by simp) fun H4 ww => ?_
    rw [putD_new (by (try simp only [List.nil_append, List.cons_append, List.map_cons, List.map_nil]); decide)] at ww
    repeat (first | tbr_iter "f1" | wtm_at "e1" | wtm_at "s1" | wtm_at "b1")
    have hr2 : Rk ((V.ref pw, D.lst (hsR hs)) :: F1) (.mi x C_Columns ([] ++ [(("strips" : Str), D.ref pw)] ++ [(("feather" : Str), D.ref ua)]) :: M) vr (.lst (rooms.map D.int)) := by
      rw [eF1]
      refine Rk.moreF (Rk.app _ ?_)
      cases hr' with
      | mem h => exact .mem h
      | ml h => exact .ml (by rcases List.mem_cons.mp h with h | h; cases h; exact List.mem_cons_of_mem _ h)
    refine n_list ww hr2 fun pr H5 ww => ?_
    have hpr : ∀ ds, (V.ref pr, D.lst ds) ∉ F := fun ds hm => ww.apart List.mem_cons_self (by rw [eF1]; exact List.mem_cons_of_mem _ (List.mem_append_right _ hm)) rfl
    have ww := ww.frzL .here
    repeat (first | tbr_iter "f1" | wtm_at "e1" | wtm_at "s1" | wtm_at "b1")
    refine n_sf (f := "rooms") (d := .ref pr) ww (by ktf_call "foc") (.ref _) o_Columns.cl n_Columns (by decide) (by simp) fun H6 ww => ?_
    rw [putD_new (by (try simp only [List.nil_append, List.cons_append, List.map_cons, List.map_nil]); decide)] at ww
    repeat (first | tbr_iter "f1" | wtm_at "e1" | wtm_at "s1" | wtm_at "b1")
    refine n_sf (f := "rest") (d := .int rest) ww (by ktf_call "foc") (.int _) o_Columns.cl n_Columns (by decide) (by simp) fun H7 ww => ?_
    rw [putD_new (by (try simp only [List.nil_append, List.cons_append, List.map_cons, List.map_nil]); decide)] at ww
    repeat (first | tbr_iter "f1" | wtm_at "e1" | wtm_at "s1" | wtm_at "b1")
    refine n_sf (f := "rule") (d := .int rule) ww (by ktf_call "foc") (.int _) o_Columns.cl n_Columns (by decide) (by simp) fun H8 ww => ?_
    rw [putD_new (by (try simp only [List.nil_append, List.cons_append, List.map_cons, List.map_nil]); decide)] at ww
    repeat (first | tbr_iter "f1" | wtm_at "e1" | wtm_at "s1" | wtm_at "b1")
    refine n_sf (f := "fee") (d := rfO fa) ww (by ktf_call "foc") (by cases fa; exact .non; exact .ref _) o_Columns.cl n_Columns (by decide) (by simp) fun H9 ww => ?_
    rw [putD_new (by (try simp only [List.nil_append, List.cons_append, List.map_cons, List.map_nil]); decide)] at ww
    wtm_at "n"
    have ww := ww.frzI .here
    refine k _ pw ua pr hs fa rfl rfl ehs hfr hpw hpr (ww.sub ?_ (.refl _))
    rw [eF1]
    unfold clP
    intro f hf
    simp only [List.cons_append, List.mem_cons, List.mem_append] at hf
    refine .mem ?_
    simp only [List.mem_cons, List.mem_append]
    rcases hf with rfl | rfl | rfl | hf | hf
    · exact .inl rfl
    · exact .inr (.inr (.inl rfl))
    · exact .inr (.inl rfl)
    · exact .inr (.inr (.inr (.inl hf)))
    · exact .inr (.inr (.inr (.inr hf)))
/-! ### lines: always a way; the words behind a node by themselves -/
def shN (b c : Nat) (n : Nd) : Nd := (n.1 + (b : Int), n.2 + (c : Int))
section
variable {ws : List Int} {r : Row} {rooms : List Int} {rest : Int}
theorem lnC_alone {room : Int} {b : Nat} : ∃ q, lnC ws r room b 0 = some q := by
  unfold lnC cstO
  split
  · exact ⟨_, rfl⟩
  · split
    · exact ⟨_, rfl⟩
    · exact ⟨_, if_pos rfl⟩
/-- the word alone -/
theorem ln_first {n : Nd} (hn : n ∈ lnU ws.length rooms.length) (hf : (lnG ws r rooms rest).fin n = false) : ∃ q, (q, lnMk rooms.length n 0) ∈ (lnG ws r rooms rest).st n := by
  have h1 := mem_lnU.mp hn
  have hf' : n.1 ≠ ws.length := by simpa [lnG] using hf
  obtain ⟨q, hq⟩ := lnC_alone (ws := ws) (r := r) (room := lnRm rooms rest n.2) (b := n.1.toNat)
  obtain ⟨j, hj⟩ : ∃ j, ws.length - n.1.toNat = j + 1 := ⟨ws.length - n.1.toNat - 1, by omega⟩
  refine ⟨q, List.mem_reverse.mpr ?_⟩
  rw [hj, upS_some hq]
  exact List.mem_cons_self
theorem ln_some (ok : LnOk ws r rooms rest) : ∀ (i : Nat) {n : Nd}, n ∈ lnU ws.length rooms.length → (ws.length : Int) - n.1 ≤ i → ∃ q, prF (lnG ws r rooms rest) i n = some q
  | 0, n, hn, h => by
    have h1 := mem_lnU.mp hn
    have : (lnG ws r rooms rest).fin n = true := by simp [lnG]; omega
    exact ⟨0, by unfold prF; rw [if_pos this]⟩
  | i + 1, n, hn, h => by
    unfold prF
    cases hf : (lnG ws r rooms rest).fin n with
    | true => exact ⟨0, by simp⟩
    | false =>
      obtain ⟨q, hq⟩ := ln_first hn hf
      have h2 := (ln_ok ok).go n hn hf _ hq
      obtain ⟨p, hp⟩ := ln_some ok i h2.1 (by have := h2.2; simp only at this; omega)
      have hm : some (q + p) ∈ ((lnG ws r rooms rest).st n).map fun s => addO s.1 (prF (lnG ws r rooms rest) i s.2) := List.mem_map.mpr ⟨_, hq, by rw [hp]; rfl⟩
      obtain ⟨x, hx, _⟩ := leastP_le hm
      exact ⟨x, by simpa using hx⟩
theorem ln_prc (ok : LnOk ws r rooms rest) {n : Nd} (hn : n ∈ lnU ws.length rooms.length) : ∃ q, prc (lnG ws r rooms rest) ws.length n = some q := ln_some ok _ hn (by have := mem_lnU.mp hn; omega)
theorem upS_map {f : Nat → Option Rat} {mk mk' : Nat → Nd} {h : Nd → Nd} (e : ∀ i, mk' i = h (mk i)) : ∀ (j i : Nat), upS f mk' i j = (upS f mk i j).map fun s => (s.1, h s.2)
  | 0, _ => rfl
  | j + 1, i => by
    unfold upS
    cases f i with
    | none => rfl
    | some c => rw [upS_map e j (i + 1), e]; rfl
theorem LnOk.drop (ok : LnOk ws r rooms rest) {b c : Nat} (hb : b < ws.length) : LnOk (ws.drop b) r (rooms.drop c) rest := ⟨ok.ok, by rw [List.length_drop]; omega, by rw [List.length_drop]; have := ok.w60; omega, fun w hw => ok.wb w (List.mem_of_mem_drop hw), by rw [List.length_drop]; have := ok.l60; omega, fun w hw => ok.rb w (List.mem_of_mem_drop hw), ok.r0, ok.r1⟩
theorem lnRm_sh {b : Int} {c : Nat} (hc : c ≤ rooms.length) (b0 : 0 ≤ b) : lnRm rooms rest (b + c) = lnRm (rooms.drop c) rest b := by
  unfold lnRm
  rw [List.length_drop]
  by_cases h : b + (c : Int) < rooms.length
  · rw [if_pos h, if_pos (by omega), List.getD_eq_getElem?_getD, List.getD_eq_getElem?_getD, List.getElem?_drop, show (b + (c : Int)).toNat = c + b.toNat by omega]
  · rw [if_neg h, if_neg (by omega)]
theorem st_sh {b c : Nat} (hb : b ≤ ws.length) (hc : c ≤ rooms.length) {n : Nd} (hn : n ∈ lnU (ws.length - b) (rooms.length - c)) : (lnG ws r rooms rest).st (shN b c n) = ((lnG (ws.drop b) r (rooms.drop c) rest).st n).map fun s => (s.1, shN b c s.2) := by
  have h1 := mem_lnU.mp hn
  show (upS (lnC ws r (lnRm rooms rest (n.2 + (c : Int))) (n.1 + (b : Int)).toNat) (lnMk rooms.length (shN b c n)) 0 (ws.length - (n.1 + (b : Int)).toNat)).reverse = ((upS (lnC (ws.drop b) r (lnRm (rooms.drop c) rest n.2) n.1.toNat) (lnMk (rooms.drop c).length n) 0 ((ws.drop b).length - n.1.toNat)).reverse).map _
  rw [List.map_reverse, ← upS_map (mk' := lnMk rooms.length (shN b c n)) (fun i => ?_), lnRm_sh hc h1.2.2.1, List.length_drop, show (n.1 + (b : Int)).toNat = b + n.1.toNat by omega, show ws.length - (b + n.1.toNat) = ws.length - b - n.1.toNat by omega]
  · have e : lnC ws r (lnRm (rooms.drop c) rest n.2) (b + n.1.toNat) = lnC (ws.drop b) r (lnRm (rooms.drop c) rest n.2) n.1.toNat := by
      funext i
      unfold lnC
      rw [List.drop_drop, List.length_drop]
      congr 1
      rw [Bool.eq_iff_iff, beq_iff_eq, beq_iff_eq]
      omega
    rw [e]
  · unfold lnMk shN
    rw [List.length_drop]
    simp only
    refine Prod.ext ?_ ?_
    · simp only; omega
    · simp only; split <;> split <;> omega
theorem fin_sh {b c : Nat} (hb : b ≤ ws.length) {n : Nd} : (lnG ws r rooms rest).fin (shN b c n) = (lnG (ws.drop b) r (rooms.drop c) rest).fin n := by
  show (n.1 + (b : Int) == (ws.length : Int)) = (n.1 == ((ws.drop b).length : Int))
  rw [List.length_drop, Bool.eq_iff_iff, beq_iff_eq, beq_iff_eq]
  omega
theorem prF_sh (ok : LnOk ws r rooms rest) {b c : Nat} (hb : b < ws.length) (hc : c ≤ rooms.length) : ∀ (i : Nat) {n : Nd}, n ∈ lnU (ws.length - b) (rooms.length - c) → prF (lnG ws r rooms rest) i (shN b c n) = prF (lnG (ws.drop b) r (rooms.drop c) rest) i n
  | 0, n, hn => by unfold prF; rw [fin_sh (by omega)]
  | i + 1, n, hn => by
    unfold prF
    rw [fin_sh (by omega)]
    cases hf : (lnG (ws.drop b) r (rooms.drop c) rest).fin n with
    | true => rfl
    | false =>
      rw [if_neg (by simp), if_neg (by simp), st_sh (by omega) hc hn, List.map_map]
      congr 1
      apply List.map_congr_left
      intro s hs
      have hn' : n ∈ lnU (ws.drop b).length (rooms.drop c).length := by rw [List.length_drop, List.length_drop]; exact hn
      have := ((ln_ok (ok.drop (c := c) hb)).go n hn' hf s hs).1
      rw [List.length_drop, List.length_drop] at this
      show addO s.1 (prF _ i (shN b c s.2)) = _
      rw [prF_sh ok hb hc i this]
theorem shU {b c : Nat} (hb : b ≤ ws.length) (hc : c ≤ rooms.length) {n : Nd} (hn : n ∈ lnU (ws.length - b) (rooms.length - c)) : shN b c n ∈ lnU ws.length rooms.length := by
  have h1 := mem_lnU.mp hn
  refine mem_lnU.mpr ?_
  unfold shN
  simp only
  omega
/-- the price of a node is that of the words behind it by themselves -/
theorem prc_sh (ok : LnOk ws r rooms rest) {b c : Nat} (hb : b < ws.length) (hc : c ≤ rooms.length) {n : Nd} (hn : n ∈ lnU (ws.length - b) (rooms.length - c)) : prc (lnG ws r rooms rest) ws.length (shN b c n) = prc (lnG (ws.drop b) r (rooms.drop c) rest) (ws.drop b).length n := by
  have h1 := mem_lnU.mp hn
  unfold prc
  rw [← prF_sh ok hb hc _ hn, List.length_drop]
  refine prF_fuel (ln_ok ok) _ _ (shU (by omega) hc hn) ?_ ?_ <;> unfold shN <;> simp only <;> omega
theorem nxt_sh (ok : LnOk ws r rooms rest) {b c : Nat} (hb : b < ws.length) (hc : c ≤ rooms.length) {n : Nd} (hn : n ∈ lnU (ws.length - b) (rooms.length - c)) (hf : (lnG (ws.drop b) r (rooms.drop c) rest).fin n = false) : nxtN (lnG ws r rooms rest) (prc (lnG ws r rooms rest) ws.length) (shN b c n) = (nxtN (lnG (ws.drop b) r (rooms.drop c) rest) (prc (lnG (ws.drop b) r (rooms.drop c) rest) (ws.drop b).length) n).map (shN b c) := by
  have hn' : n ∈ lnU (ws.drop b).length (rooms.drop c).length := by rw [List.length_drop, List.length_drop]; exact hn
  unfold nxtN
  rw [st_sh (by omega) hc hn, List.find?_map, prc_sh ok hb hc hn]
  have key : ∀ l : List (Rat × Nd), (∀ s ∈ l, s.2 ∈ lnU (ws.length - b) (rooms.length - c)) → l.find? ((fun s : Rat × Nd => decide (addO s.1 (prc (lnG ws r rooms rest) ws.length s.2) = prc (lnG (ws.drop b) r (rooms.drop c) rest) (ws.drop b).length n)) ∘ fun s => (s.1, shN b c s.2)) = l.find? fun s => decide (addO s.1 (prc (lnG (ws.drop b) r (rooms.drop c) rest) (ws.drop b).length s.2) = prc (lnG (ws.drop b) r (rooms.drop c) rest) (ws.drop b).length n) := fun l => by
    induction l with
    | nil => exact fun _ => rfl
    | cons s l ih =>
      intro hl
      rw [List.find?_cons, List.find?_cons, ih fun t ht => hl t (List.mem_cons_of_mem _ ht)]
      simp only [Function.comp]
      rw [prc_sh ok hb hc (hl s List.mem_cons_self)]
  rw [key _ fun s hs => by
    have := ((ln_ok (ok.drop (c := c) hb)).go n hn' hf s hs).1
    rw [List.length_drop, List.length_drop] at this
    exact this]
  cases List.find? _ ((lnG (ws.drop b) r (rooms.drop c) rest).st n) <;> rfl
theorem path_sh (ok : LnOk ws r rooms rest) {b c : Nat} (hb : b < ws.length) (hc : c ≤ rooms.length) : ∀ (i : Nat) {n : Nd}, n ∈ lnU (ws.length - b) (rooms.length - c) → pathF (lnG ws r rooms rest) (prc (lnG ws r rooms rest) ws.length) i (shN b c n) = (pathF (lnG (ws.drop b) r (rooms.drop c) rest) (prc (lnG (ws.drop b) r (rooms.drop c) rest) (ws.drop b).length) i n).map (shN b c)
  | 0, n, hn => rfl
  | i + 1, n, hn => by
    have hn' : n ∈ lnU (ws.drop b).length (rooms.drop c).length := by rw [List.length_drop, List.length_drop]; exact hn
    cases hf : (lnG (ws.drop b) r (rooms.drop c) rest).fin n with
    | true => rw [pathF_end hf, pathF_end (by rw [fin_sh (by omega)]; exact hf)]; rfl
    | false =>
      have hnx := nxt_sh ok hb hc hn hf
      obtain ⟨q, hq⟩ := ln_prc (ok.drop (c := c) hb) hn'
      obtain ⟨s, hs, e1, _⟩ := nxt_some (ln_ok (ok.drop (c := c) hb)) hn' hf hq
      rw [e1] at hnx
      have h2 := ((ln_ok (ok.drop (c := c) hb)).go n hn' hf s hs).1
      rw [List.length_drop, List.length_drop] at h2
      rw [pathF_step hf e1, pathF_step (by rw [fin_sh (by omega)]; exact hf) hnx, List.map_cons, path_sh ok hb hc i h2]
/-- a path that is long enough comes to an end, one line a node -/
theorem path_at (ok : LnOk ws r rooms rest) : ∀ (i : Nat) {n : Nd} (k : Nat), n ∈ lnU ws.length rooms.length → (ws.length : Int) - n.1 < i → k < (pathF (lnG ws r rooms rest) (prc (lnG ws r rooms rest) ws.length) i n).length → ∃ m, m ∈ lnU ws.length rooms.length ∧ k ≤ i ∧ (ws.length : Int) - m.1 < ((i - k : Nat) : Int) ∧ (pathF (lnG ws r rooms rest) (prc (lnG ws r rooms rest) ws.length) i n).drop k = pathF (lnG ws r rooms rest) (prc (lnG ws r rooms rest) ws.length) (i - k) m ∧ (m.2 = n.2 + k ∨ (m.2 = rooms.length ∧ (rooms.length : Int) ≤ n.2 + k))
  | 0, n, k, hn, h, hk => by have := mem_lnU.mp hn; omega
  | i + 1, n, 0, hn, h, hk => ⟨n, hn, Nat.zero_le _, by simpa using h, rfl, .inl (by simp)⟩
  | i + 1, n, k + 1, hn, h, hk => by
    cases hf : (lnG ws r rooms rest).fin n with
    | true => rw [pathF_end hf] at hk; simp at hk
    | false =>
      obtain ⟨q, hq⟩ := ln_prc ok hn
      obtain ⟨s, hs, e1, _⟩ := nxt_some (ln_ok ok) hn hf hq
      rw [pathF_step hf e1] at hk ⊢
      have h2 := (ln_ok ok).go n hn hf s hs
      obtain ⟨m, a1, a2, a3, a4, a5⟩ := path_at ok i k h2.1 (by omega) (by simpa using hk)
      obtain ⟨t, _, _, _, e2⟩ := upS_mem (List.mem_reverse.mp hs)
      have h3 := mem_lnU.mp hn
      have e3 : s.2.2 = if n.2 + 1 < (rooms.length : Int) then n.2 + 1 else (rooms.length : Int) := by rw [e2]; rfl
      refine ⟨m, a1, by omega, by rw [show i + 1 - (k + 1) = i - k by omega]; exact a3, by rw [List.drop_succ_cons, a4, show i + 1 - (k + 1) = i - k by omega], ?_⟩
      rw [e3] at a5
      have h5 := mem_lnU.mp a1
      split at a5 <;> omega
theorem path_last (ok : LnOk ws r rooms rest) : ∀ (i : Nat) {n : Nd}, n ∈ lnU ws.length rooms.length → (ws.length : Int) - n.1 < i → ∃ pre m, pathF (lnG ws r rooms rest) (prc (lnG ws r rooms rest) ws.length) i n = pre ++ [m] ∧ m.1 = (ws.length : Int) ∧ (n.1 < (ws.length : Int) → pre ≠ [])
  | 0, n, hn, h => by have := mem_lnU.mp hn; omega
  | i + 1, n, hn, h => by
    cases hf : (lnG ws r rooms rest).fin n with
    | true =>
      have : n.1 = ws.length := by simpa [lnG] using hf
      exact ⟨[], n, pathF_end hf, this, fun q => by omega⟩
    | false =>
      obtain ⟨q, hq⟩ := ln_prc ok hn
      obtain ⟨s, hs, e1, _⟩ := nxt_some (ln_ok ok) hn hf hq
      have h2 := (ln_ok ok).go n hn hf s hs
      obtain ⟨pre, m, a1, a2, _⟩ := path_last ok i h2.1 (by omega)
      exact ⟨n :: pre, m, by rw [pathF_step hf e1, a1]; rfl, a2, fun _ => by simp⟩
end
/-- the lines between neighbouring nodes -/
def wyL : List Nd → List Nd
  | a :: b :: t => (a.1, b.1) :: wyL (b :: t)
  | _ => []
theorem wyL_len : ∀ l : List Nd, (wyL l).length = l.length - 1
  | [] => rfl
  | [_] => rfl
  | a :: b :: t => by rw [wyL, List.length_cons, wyL_len (b :: t)]; rfl
theorem wyL_get : ∀ {l : List Nd} {k : Nat}, k + 1 < l.length → (wyL l)[k]? = some ((l.getD k (0, 0)).1, (l.getD (k + 1) (0, 0)).1)
  | [], k, h => by simp at h
  | [_], k, h => by simp at h
  | a :: b :: t, 0, h => rfl
  | a :: b :: t, k + 1, h => by
    rw [wyL, List.getElem?_cons_succ, wyL_get (by simpa using h)]
    rfl
theorem wyL_drop : ∀ (l : List Nd) (k : Nat), (wyL l).drop k = wyL (l.drop k)
  | _, 0 => rfl
  | [], k + 1 => by simp [wyL]
  | [a], k + 1 => by simp [wyL]
  | a :: b :: t, k + 1 => by rw [wyL, List.drop_succ_cons, List.drop_succ_cons, wyL_drop (b :: t) k]
theorem wyL_sh (b c : Nat) : ∀ l : List Nd, wyL (l.map (shN b c)) = (wyL l).map fun p => (p.1 + (b : Int), p.2 + (b : Int))
  | [] => rfl
  | [_] => rfl
  | x :: y :: t => by
    rw [List.map_cons, List.map_cons, wyL, wyL, List.map_cons, ← wyL_sh b c (y :: t)]
    rfl
section
variable {ws : List Int} {r : Row} {rooms : List Int} {rest : Int}
theorem path_fuel (ok : LnOk ws r rooms rest) : ∀ (i j : Nat) {n : Nd}, n ∈ lnU ws.length rooms.length → (ws.length : Int) - n.1 < i → (ws.length : Int) - n.1 < j → pathF (lnG ws r rooms rest) (prc (lnG ws r rooms rest) ws.length) i n = pathF (lnG ws r rooms rest) (prc (lnG ws r rooms rest) ws.length) j n
  | 0, j, n, hn, h1, h2 => by have := mem_lnU.mp hn; omega
  | i + 1, 0, n, hn, h1, h2 => by have := mem_lnU.mp hn; omega
  | i + 1, j + 1, n, hn, h1, h2 => by
    cases hf : (lnG ws r rooms rest).fin n with
    | true => rw [pathF_end hf, pathF_end hf]
    | false =>
      obtain ⟨q, hq⟩ := ln_prc ok hn
      obtain ⟨s, hs, e1, _⟩ := nxt_some (ln_ok ok) hn hf hq
      have h3 := (ln_ok ok).go n hn hf s hs
      rw [pathF_step hf e1, pathF_step hf e1, path_fuel ok i j h3.1 (by omega) (by omega)]
/-- behind the k-th line -/
theorem way_drop (ok : LnOk ws r rooms rest) {k : Nat} (hk : k + 1 < (wayN (lnG ws r rooms rest) ws.length).length) : ∃ b : Nat, b < ws.length ∧ ((wayN (lnG ws r rooms rest) ws.length).getD k (0, 0)).1 = (b : Int) ∧ ∀ c : Nat, (c : Int) = (if (rooms.length : Int) < k then (rooms.length : Int) else (k : Int)) → c ≤ rooms.length ∧ (wayN (lnG ws r rooms rest) ws.length).drop k = (wayN (lnG (ws.drop b) r (rooms.drop c) rest) (ws.drop b).length).map (shN b c) := by
  obtain ⟨m, h1, h2, h3, h4, h5⟩ := path_at ok (ws.length + 1) (n := (0, 0)) k (ln_ok ok).u0 (by simp; omega) (by unfold wayN at hk; omega)
  have hm := mem_lnU.mp h1
  have hd : (wayN (lnG ws r rooms rest) ws.length).drop k = pathF (lnG ws r rooms rest) (prc (lnG ws r rooms rest) ws.length) (ws.length + 1 - k) m := h4
  obtain ⟨t, ht⟩ := pathF_head (lnG ws r rooms rest) (prc (lnG ws r rooms rest) ws.length) (ws.length + 1 - k) m
  have hg : (wayN (lnG ws r rooms rest) ws.length).getD k (0, 0) = m := by
    have : ((wayN (lnG ws r rooms rest) ws.length).drop k)[0]? = some m := by rw [hd, ht]; rfl
    rw [List.getElem?_drop, Nat.add_zero] at this
    rw [List.getD_eq_getElem?_getD, this]
    rfl
  have hlt : m.1 < ws.length := by
    apply Classical.byContradiction
    intro hc
    have hf : (lnG ws r rooms rest).fin m = true := by simp [lnG]; omega
    have : ((wayN (lnG ws r rooms rest) ws.length).drop k).length = 1 := by rw [hd, pathF_end hf]; rfl
    rw [List.length_drop] at this
    omega
  obtain ⟨b, hb⟩ : ∃ b : Nat, m.1 = b := ⟨m.1.toNat, by omega⟩
  refine ⟨b, by omega, by rw [hg]; exact hb, fun c hc => ?_⟩
  have hcl : c ≤ rooms.length := by split at hc <;> omega
  refine ⟨hcl, ?_⟩
  have hmc : m = shN b c (0, 0) := by
    refine Prod.ext ?_ ?_
    · show m.1 = 0 + (b : Int); omega
    · show m.2 = 0 + (c : Int)
      rw [hc]
      simp only at h5
      split <;> omega
  have hz : ((0, 0) : Nd) ∈ lnU (ws.length - b) (rooms.length - c) := mem_lnU.mpr ⟨by simp, by simp, by simp, by simp⟩
  have hz' : ((0, 0) : Nd) ∈ lnU (ws.drop b).length (rooms.drop c).length := by rw [List.length_drop, List.length_drop]; exact hz
  rw [hd, hmc, path_sh ok (by omega) hcl _ hz]
  unfold wayN
  rw [path_fuel (ok.drop (c := c) (by omega)) (ws.length + 1 - k) ((ws.drop b).length + 1) hz' (by rw [List.length_drop]; simp; omega) (by simp; omega)]
theorem wyL_snoc : ∀ (l : List Nd) (x m : Nd), wyL (l ++ [x] ++ [m]) = wyL (l ++ [x]) ++ [(x.1, m.1)]
  | [], x, m => rfl
  | [a], x, m => rfl
  | a :: b :: l, x, m => by
    have := wyL_snoc (b :: l) x m
    simp only [List.cons_append] at this ⊢
    rw [wyL, this, wyL]
    rfl
/-- what is reached, moved -/
theorem reach_sh (ok : LnOk ws r rooms rest) {b c : Nat} (hb : b < ws.length) (hc : c ≤ rooms.length) (h0 : Reach (lnG ws r rooms rest) (shN b c (0, 0))) {n : Nd} (h : Reach (lnG (ws.drop b) r (rooms.drop c) rest) n) : Reach (lnG ws r rooms rest) (shN b c n) := by
  induction h with
  | z => exact h0
  | @s n s h1 h2 h3 ih =>
    have hn := h1.inU (ln_ok (ok.drop (c := c) hb))
    rw [List.length_drop, List.length_drop] at hn
    refine .s (s := (s.1, shN b c s.2)) ih (by rw [fin_sh (by omega)]; exact h2) ?_
    rw [st_sh (by omega) hc hn]
    exact List.mem_map_of_mem h3
/-- a word a line -/
theorem reach_diag (ok : LnOk ws r rooms rest) : ∀ j : Nat, j < ws.length → j ≤ rooms.length → Reach (lnG ws r rooms rest) ((j : Int), (j : Int))
  | 0, _, _ => .z
  | j + 1, h1, h2 => by
    have ih := reach_diag ok j (by omega) (by omega)
    have hf : (lnG ws r rooms rest).fin ((j : Int), (j : Int)) = false := by simp [lnG]; omega
    obtain ⟨q, hq⟩ := ln_first (ih.inU (ln_ok ok)) hf
    have := Reach.s ih hf hq
    have e : lnMk rooms.length ((j : Int), (j : Int)) 0 = (((j + 1 : Nat) : Int), ((j + 1 : Nat) : Int)) := by
      unfold lnMk
      refine Prod.ext ?_ ?_
      · simp
      · simp only; split <;> omega
    rw [← e]
    exact this
end
theorem Rk.subF {F F' : List (V × D)} {M : List ME} {v : V} {d : D} (h : Rk F M v d) (s : KS F F') (hd : ((∃ n, d = .ref n) ∨ ∃ n, d = .ty n) → False) : Rk F' M v d := by
  cases h with
  | mem h => exact Rk.of (s _ h) hd
  | int n => exact .int n
  | bl n => exact .bl n
  | str n => exact .str n
  | non => exact .non
  | ml h => exact .ml h
  | mi h => exact .mi h
theorem notRef_lst {ds : List D} : ((∃ n, D.lst ds = .ref n) ∨ ∃ n, D.lst ds = .ty n) → False := fun h => by rcases h with ⟨n, e⟩ | ⟨n, e⟩ <;> cases e
theorem tab_at {f : Nd → D} {ms : List Nd} {i : Nat} {k : List Key} {e : D} (h : (tabN f ms)[i]? = some (k, e)) : ∃ n ∈ ms, k = ndK n ∧ e = f n := by
  unfold tabN at h
  rw [List.getElem?_map] at h
  cases hm : ms[i]? with
  | none => rw [hm] at h; cases h
  | some n =>
    rw [hm] at h
    cases h
    exact ⟨n, List.mem_of_getElem? hm, rfl, rfl⟩

abbrev s_set_columns : Stmt := top 48
theorem sc_set_columns : FnScope ["strips", "feather", "rooms", "rest", "rule", "fee", "cost", "nodes", "k"] ["strips", "feather", "rooms", "rest", "rule", "fee"] (defScope s_set_columns) := ⟨rfl, rfl, rfl, by decide +kernel, rfl, by decide +kernel, by decide +kernel⟩
def sp_set_columns (P : Program) (wo : World) (K : PySem.W.Frag) (mg : Str → Option Value) (base : Heap) (CP : Addr) : Sp := fun vs H Q _ => ∃ F M v u vr fv, ∃ (xs : List Sp3) (r : Row) (rooms : List Int) (rest rule : Int) (fe : Fee) (L : List ME), vs = [v, u, vr, .int rest, .int rule, fv] ∧ Wf F H M ∧ Rk F M v (.lst (xs.map spD)) ∧ Kn F u (prtR CP r) ∧ Rk F M vr (.lst (rooms.map D.int)) ∧ Kn F fv (feeD P wo K mg base L fe) ∧ ClOk xs r rooms rest rule ∧ FeeOk fe ∧ (∀ e ∈ L, e ∈ M) ∧ ∀ t p H' c, prc (clG xs r rooms rest rule fe) xs.length (0, 0) = some c → Wf ((t, .tup [frq c, .ref p]) :: F) H' (.ml p ((wyL (wayN (clG xs r rooms rest rule fe) xs.length)).map nD) :: M) → Q t H'
theorem n_setcols {P : Program} {wo : World} {K : PySem.W.Frag} {mg : Str → Option Value} {base : Heap} {CP : Addr} {F : List (V × D)} {H : Hp} {M : List ME} {v u vr fv : V} {xs : List Sp3} {r : Row} {rooms : List Int} {rest rule : Int} {fe : Fee} {L : List ME} {Q : VK} {E : XK} (w : Wf F H M) (hv : Rk F M v (.lst (xs.map spD))) (hu : Kn F u (prtR CP r)) (hr : Rk F M vr (.lst (rooms.map D.int))) (hf : Kn F fv (feeD P wo K mg base L fe)) (ok : ClOk xs r rooms rest rule) (fk : FeeOk fe) (hL : ∀ e ∈ L, e ∈ M) (q : ∀ t p H' c, prc (clG xs r rooms rest rule fe) xs.length (0, 0) = some c → Wf ((t, .tup [frq c, .ref p]) :: F) H' (.ml p ((wyL (wayN (clG xs r rooms rest rule fe) xs.length)).map nD) :: M) → Q t H') : sp_set_columns P wo K mg base CP [v, u, vr, .int rest, .int rule, fv] H Q E := ⟨F, M, v, u, vr, fv, xs, r, rooms, rest, rule, fe, L, rfl, w, hv, hu, hr, hf, ok, fk, hL, q⟩

theorem ok_set_columns {f : Addr} {fd : FuncData} (F : FunD K "set_columns" "set_columns" (defArgs s_set_columns) (defBody s_set_columns) (defScope s_set_columns) [.non] [] f fd) (B : Bn mg) (c_way_of : Cal P wd K mg base "way_of" 11 ["ways"] [] (sp_way_of P wd K mg base C_Lines C_Part C_Columns)) (m_Columns : Mak P wd K mg base "Columns" C_Columns 5 ["self", "strips", "feather", "rooms", "rest", "rule", "fee"] [] (sp_Columns___init__ P wd K mg base C_Columns C_Part))  : FnOk P wd K mg base CX0 12 f fd ["strips", "feather", "rooms", "rest", "rule", "fee"] (sp_set_columns P wd K mg base C_Part) := by
  refine F.ok0 sc_set_columns (fun vs H Q E h => ?_) (fun cdv A outer s H vs Q E hr h => ?_)
  · obtain ⟨F, M, v, u, vr, fv, xs, r, rooms, rest, rule, fe, L, rfl, ww, hv, hu, hr', hf, ok, fk, hL, k⟩ := h
    all_goals rfl
  · obtain ⟨F, M, v, u, vr, fv, xs, r, rooms, rest, rule, fe, L, rfl, ww, hv, hu, hr', hf, ok, fk, hL, k⟩ := h
    refine ⟨_, (pss_cons (ps_asg (pe_cal c_way_of (hr.mono (by decide)) (by rfl) (pa_cons (pe_mk m_Columns (hr.mono (by decide)) rfl (pa_cons (pv 0) (pa_cons (pv 1) (pa_cons (pv 2) (pa_cons (pv 3) (pa_cons (pv 4) (pa_cons (pv 5) pa_nil))))))) pa_nil)) (kpg_tup (K := K) (n := 2) rfl rfl (pgs_cons (pg_name (i := 6) sc_set_columns.nd rfl (Or.inl rfl)) (pgs_cons (pg_name (i := 7) sc_set_columns.nd rfl (Or.inr rfl)) pgs_nil))))
      (pss_one (ps_ret (pe_tup (pa_cons (pv 6) (pa_cons (pe_lc (own := [("k", 8)]) (by rfl) sc_set_columns.nd (pi_range1 (by rfl) B.range_ (pa_cons (pe_op op_sub (pe_callB (k_len (K := K) rfl) (by rfl) B.len_ (by decide +kernel) (pa_cons (pv 7) pa_nil)) pe_int) pa_nil)) (blkOk_by (own := [("k", 8)]) (N := ["strips", "feather", "rooms", "rest", "rule", "fee", "cost", "nodes", "k"]) (sc := defScope s_set_columns) (by decide +kernel)) (fun _ _ _ _ _ => (pg_name (i := 8) sc_set_columns.nd rfl (Or.inl rfl))) (fun _ _ _ _ _ => pts_nil) (fun _ _ _ _ _ => (pe_tup (pa_cons (pe_ix (k_ix (K := K) rfl) (pe_ix (k_ix (K := K) rfl) (pv 7) (pv 8) (fun _ _ => rfl)) pe_int (fun _ _ => rfl)) (pa_cons (pe_ix (k_ix (K := K) rfl) (pe_ix (k_ix (K := K) rfl) (pv 7) (pe_op (k_add (K := K) rfl) (pv 8) pe_int) (fun _ _ => rfl)) pe_int (fun _ _ => rfl)) pa_nil))))) pa_nil)))))), ?_⟩
    try dsimp only [cxOf, Cx.nox, Cx.wish, Cx.blk]
    have hxl := ok.xl
    rw [show L2.start (["strips", "feather", "rooms", "rest", "rule", "fee", "cost", "nodes", "k"] : List Str) [v, u, vr, .int rest, .int rule, fv] = [some v, some u, some vr, some (.int rest), some (.int rule), some fv, none, none, none] from rfl]
    wtm_at "n"
    refine n_mkCl (C := C_Columns) ww hv hu hr' hf ok fun px H1 ww => ?_
    wtm_at "n"
    obtain ⟨q0, hq0⟩ := cl_prc ok fk (n := (0, 0)) (cl_ok ok fk).u0
    refine n_wayof ww (WO.ofC (.mem List.mem_cons_self) ok fk hL) (fun H2 e => by rw [hq0] at e; cases e) fun t pn H2 c hc ww => ?_
    have hlen : (wayN (clG xs r rooms rest rule fe) xs.length).length ≤ xs.length + 2 := by
      unfold wayN
      have : ∀ (i : Nat) (n : Nd), (pathF (clG xs r rooms rest rule fe) (prc (clG xs r rooms rest rule fe) xs.length) i n).length ≤ i + 1 := fun i => by
        induction i with
        | zero => intro n; exact Nat.le_refl _
        | succ i ih =>
          intro n
          unfold pathF
          split
          · simp
          · split
            · simp
            · rename_i m _
              have := ih m
              simp only [List.length_cons]
              omega
      exact this _ _
    have hpos : 1 ≤ (wayN (clG xs r rooms rest rule fe) xs.length).length := by
      obtain ⟨tl, e⟩ := pathF_head (clG xs r rooms rest rule fe) (prc (clG xs r rooms rest rule fe) xs.length) (xs.length + 1) (0, 0)
      unfold wayN
      rw [e]
      simp
    generalize hwn : wayN (clG xs r rooms rest rule fe) xs.length = nodes at *
    refine n_gtup2 ww (.mem List.mem_cons_self) fun cv pv w => ?_
    obtain ⟨rfl, w2⟩ := (show Wf ((pv, .ref pn) :: F) H2 (.ml pn (nodes.map nD) :: M) from w.sub (KS.cons (.mem (by simp)) fun f hf => .mem (by simp [hf])) (.refl _)).ref0
    have w : Wf ((cv, frq c) :: F) H2 (.ml pn (nodes.map nD) :: M) := w.sub (KS.cons (.mem (by simp)) fun f hf => .mem (by simp [hf])) (.refl _)
    clear w2 ww
    wtm_at "n"
    rw [List.length_map]
    refine s_rng1' (by omega) (by omega) ?_
    have en : ((nodes.length : Int) - 1).toNat = nodes.length - 1 := by omega
    rw [en]
    refine n_lcN w (fun i acc => acc = ((wyL nodes).take i).map nD) rfl (by omega) ?_ ?_
    · intro i Dp acc H3 Ap Sk hi hR w kA kS
      have hg := wyL_get (l := nodes) (k := i) (by omega)
      wtm_at "n"
      refine ⟨rfl, ?_⟩
      wtm_at "n"
      refine n_ixM (f := nD) (z := (0, 0)) (j := i) w (by ktf_call "rk") (by omega) (by omega) fun u1 w => ?_
      refine n_ixT (d := .int (nodes.getD i (0, 0)).1) w (.mem List.mem_cons_self) rfl fun u2 w => ?_
      obtain ⟨rfl, _⟩ := w.eq0
      wtm_at "n"
      refine n_ixM (f := nD) (z := (0, 0)) (j := i + 1) w (by ktf_call "rk") (by omega) (by omega) fun u3 w => ?_
      refine n_ixT (d := .int (nodes.getD (i + 1) (0, 0)).1) w (.mem List.mem_cons_self) rfl fun u4 w => ?_
      obtain ⟨rfl, _⟩ := w.eq0
      wtm_at "n"
      rename_i pz Hz w
      refine kA _ (nD ((nodes.getD i (0, 0)).1, (nodes.getD (i + 1) (0, 0)).1)) _ (w.sub (KS.cons (.mem List.mem_cons_self) fun f hf => .mem (by simp only [List.mem_cons] at hf ⊢; rcases hf with h | h <;> simp [h])) (.refl _)) ?_
      rw [hR, take_snoc hg, List.map_append]
      rfl
    intro pl es H3 hR w
    rw [show nodes.length - 1 = (wyL nodes).length from (wyL_len nodes).symm, List.take_length] at hR
    subst hR
    wtm_at "n"
    refine n_newT (ds := [frq c, .ref pl]) w (.cons (.mem List.mem_cons_self) (.cons (.ref _) .nil)) (by simp) fun t2 H4 w => ?_
    exact k _ pl _ c hc (by wtm_at "wf")
abbrev s_look_widths : Stmt := top 52
theorem sc_look_widths : FnScope ["widths", "place", "k"] ["widths", "place"] (defScope s_look_widths) := ⟨rfl, rfl, rfl, by decide +kernel, rfl, by decide +kernel, by decide +kernel⟩
def sp_look_widths : Sp := fun vs H Q _ => ∃ F M v, ∃ (at' : Int) (ws : List Int), vs = [v, .int at'] ∧ Wf F H M ∧ Rk F M v (.lst (ws.map D.int)) ∧ 1 ≤ ws.length ∧ ws.length ≤ 60 ∧ (∀ x ∈ ws, 1 ≤ x ∧ x ≤ 1000000) ∧ ∀ H', Wf F H' M → Q .non H'
theorem n_lookwidths {F : List (V × D)} {H : Hp} {M : List ME} {v : V} {at' : Int} {ws : List Int} {Q : VK} {E : XK} (w : Wf F H M) (hv : Rk F M v (.lst (ws.map D.int))) (h1 : 1 ≤ ws.length) (h2 : ws.length ≤ 60) (hb : ∀ x ∈ ws, 1 ≤ x ∧ x ≤ 1000000) (q : ∀ H', Wf F H' M → Q .non H') : sp_look_widths ([v, .int at'] ++ []) H Q E := ⟨F, M, v, at', ws, rfl, w, hv, h1, h2, hb, q⟩

theorem ok_look_widths {f : Addr} {fd : FuncData} (F : Fun K "look_widths" "look_widths" s_look_widths f fd) (B : Bn mg) (c_look_list : Cal P wd K mg base "look_list" 1 ["things", "place", "least", "most"] [] sp_look_list) (c_is_small : Cal P wd K mg base "is_small" 2 ["thing"] [] (sp_is_small K)) (g_MOST_WORDS : ∃ t, mg "MOST_WORDS" = some (.int 60 t))  : FnOk P wd K mg base CX0 3 f fd ["widths", "place"] sp_look_widths := by
  refine F.ok sc_look_widths (fun vs H Q E h => ?_) (fun cdv A outer s H vs Q E hr h => ?_)
  · obtain ⟨F, M, v, at', ws, rfl, w, hv, h1, h2, hb, k⟩ := h
    all_goals rfl
  · obtain ⟨F, M, v, at', ws, rfl, w, hv, h1, h2, hb, k⟩ := h
    refine ⟨_, (pss_cons (ps_expr (pe_cal c_look_list (hr.mono (by decide)) (by rfl) (pa_cons (pv 0) (pa_cons (pv 1) (pa_cons pe_int (pa_cons (pe_globI (by rfl) g_MOST_WORDS) pa_nil))))))
      (pss_one (ps_for PassesOwn.never rfl (pi_range1 (by rfl) B.range_ (pa_cons (pe_callB (k_len (K := K) rfl) (by rfl) B.len_ (by decide +kernel) (pa_cons (pv 0) pa_nil)) pa_nil)) (pg_name (i := 2) sc_look_widths.nd rfl (Or.inl rfl)) (pss_one (ps_if (pw_or (pt_not (pt_val (pe_cal c_is_small (hr.mono (by decide)) (by rfl) (pa_cons (pe_ix (k_ix (K := K) rfl) (pv 0) (pv 2) (fun _ _ => rfl)) pa_nil)))) (pw_or1 (pt_cmpR (k_eq (K := K) rfl hr.units) (pe_ix (k_ix (K := K) rfl) (pv 0) (pv 2) (fun _ _ => rfl)) pe_int (nomark _)))).pt pss_never pss_nil))))), ?_⟩
    try dsimp only [cxOf, Cx.nox, Cx.wish, Cx.blk]
    wtm_at "n"
    refine n_looklist w hv (by rw [List.length_map]; omega) (by rw [List.length_map]; omega) ?_
    wtm_at "n"
    rw [List.length_map]
    refine s_rng1' (by omega) (by omega) ?_
    rw [Int.toNat_natCast]
    refine n_forR w (fun i σ' F' M' => ∃ x2, σ' = [some v, some (.int at'), x2] ∧ F = F' ∧ M = M') ⟨_, rfl, rfl, rfl⟩ ?_ ?_
    · rintro i σ' H' F' M' hi ⟨x2, rfl, rfl, rfl⟩ w
      wtm_at "n"
      refine n_ixN (j := i) w hv (by omega) hi ?_
      have hx := hb (ws.getD i 0) (by rw [List.getD_eq_getElem?_getD, List.getElem?_eq_getElem hi]; exact List.getElem_mem hi)
      wtm_at "n"
      refine use_is_small (I := H') (M := []) Fs.W.self (by omega) hx.2 ?_
      wtm_at "n"
      refine n_ixN (j := i) w hv (by omega) hi ?_
      wtm_at "n"
      refine s_iteIn (by omega) ?_
      wtm_at "n"
      exact ⟨_, _, ⟨_, rfl, rfl, rfl⟩, w⟩
    · rintro σ' H' F' M' ⟨x2, rfl, rfl, rfl⟩ w
      wtm_at "n"
      exact k _ w
abbrev s_Lines___init__ : Stmt := inClass (top 53) 0
theorem sc_Lines___init__ : FnScope ["self", "widths", "blank", "rooms", "rest", "k"] ["self", "widths", "blank", "rooms", "rest"] (defScope s_Lines___init__) := ⟨rfl, rfl, rfl, by decide +kernel, rfl, by decide +kernel, by decide +kernel⟩
def sp_Lines___init__ (C CP : Addr) : Sp := fun vs H Q _ => ∃ F M x v u vr, ∃ (ws : List Int) (r : Row) (rooms : List Int) (rest : Int), vs = [.ref x, v, u, vr, .int rest] ∧ Wf F H (.mi x C [] :: M) ∧ Rk F (.mi x C [] :: M) v (.lst (ws.map D.int)) ∧ Kn F u (prtR CP r) ∧ Rk F (.mi x C [] :: M) vr (.lst (rooms.map D.int)) ∧ LnOk ws r rooms rest ∧ ∀ H', Wf ((.ref x, lnO C CP ws r rooms rest) :: F) H' M → Q .non H'
theorem n_mkLn {C CP : Addr} {F : List (V × D)} {H : Hp} {M : List ME} {v u vr : V} {ws : List Int} {r : Row} {rooms : List Int} {rest : Int} {Q : VK} {E : XK} (w : Wf F H M) (hv : Rk F M v (.lst (ws.map D.int))) (hu : Kn F u (prtR CP r)) (hr : Rk F M vr (.lst (rooms.map D.int))) (ok : LnOk ws r rooms rest) (q : ∀ p H', Wf ((.ref p, lnO C CP ws r rooms rest) :: F) H' M → Q (.ref p) H') : MakeQ C (sp_Lines___init__ C CP) E Q [v, u, vr, .int rest] H := fun x dx hx hd ne => by
  have w1 : Wf F (upd H dx (.own x)) M := w.more (same_new hd)
  have hx1 : upd H dx (.own x) x = none := by rw [upd_ne ne.symm]; exact hx
  obtain ⟨I, Mc, w1, ac, hF⟩ := w1.ex
  exact ⟨F, M, x, v, u, vr, ws, r, rooms, rest, rfl, ⟨I, (x, .ins C dx []) :: Mc, w1.newM hx1, .cons (.mi .nil) ac, hF⟩, hv.more, hu, hr.more, ok, fun H' w' => ⟨rfl, q x H' w'⟩⟩

theorem ok_Lines___init__ {f : Addr} {fd : FuncData} (F : Fun K "__init__" "Lines.__init__" s_Lines___init__ f fd) (B : Bn mg) (c_look_widths : Cal P wd K mg base "look_widths" 3 ["widths", "place"] [] sp_look_widths) (c_look_list : Cal P wd K mg base "look_list" 1 ["things", "place", "least", "most"] [] sp_look_list) (c_is_length : Cal P wd K mg base "is_length" 2 ["thing"] [] (sp_is_length K)) (o_Lines : OwnC K C_Lines) (n_Lines : ∀ f ∈ (["widths", "blank", "rooms", "rest"] : List Str), NoAttr K C_Lines f) (o_Part : OwnC K C_Part) (n_Part : ∀ f ∈ (["base", "least", "greatest", "grow", "shrink"] : List Str), NoAttr K C_Part f) (g_MOST_ROOMS : ∃ t, mg "MOST_ROOMS" = some (.int 60 t)) (g_Part : mg "Part" = some (.ref C_Part))  : FnOk P wd K mg base CX0 4 f fd ["self", "widths", "blank", "rooms", "rest"] (sp_Lines___init__ C_Lines C_Part) := by
  refine F.ok sc_Lines___init__ (fun vs H Q E h => ?_) (fun cdv A outer s H vs Q E hr h => ?_)
  · obtain ⟨F, M, x, v, u, vr, ws, r, rooms, rest, rfl, w, hv, hu, hr', ok, k⟩ := h
    all_goals rfl
  · obtain ⟨F, M, x, v, u, vr, ws, r, rooms, rest, rfl, w, hv, hu, hr', ok, k⟩ := h
    refine ⟨_, (pss_cons (ps_expr (pe_cal c_look_widths (hr.mono (by decide)) (by rfl) (pa_cons (pv 1) (pa_cons pe_int pa_nil))))
      (pss_cons (ps_if (pt_not (pt_val (pe_callB (k_isi (K := K) rfl) (by rfl) B.isinstance_ (by decide +kernel) (pa_cons (pv 2) (pa_cons (pe_glob (v := .ref C_Part) (by rfl) g_Part rfl) pa_nil))))) pss_never pss_nil)
      (pss_cons (ps_expr (pe_cal c_look_list (hr.mono (by decide)) (by rfl) (pa_cons (pv 3) (pa_cons pe_int (pa_cons pe_int (pa_cons (pe_globI (by rfl) g_MOST_ROOMS) pa_nil))))))
      (pss_cons (ps_for PassesOwn.never rfl (pi_range1 (by rfl) B.range_ (pa_cons (pe_callB (k_len (K := K) rfl) (by rfl) B.len_ (by decide +kernel) (pa_cons (pv 3) pa_nil)) pa_nil)) (pg_name (i := 5) sc_Lines___init__.nd rfl (Or.inl rfl)) (pss_one (ps_if (pt_not (pt_val (pe_cal c_is_length (hr.mono (by decide)) (by rfl) (pa_cons (pe_ix (k_ix (K := K) rfl) (pv 3) (pv 5) (fun _ _ => rfl)) pa_nil)))) pss_never pss_nil)))
      (pss_cons (ps_if (pt_not (pt_val (pe_cal c_is_length (hr.mono (by decide)) (by rfl) (pa_cons (pv 4) pa_nil)))) pss_never pss_nil)
      (pss_cons (kps_fld (K := K) rfl (pv 0) (pe_callTy (k_list (K := K) rfl) (by rfl) B.list_ (by decide +kernel) (pa_cons (pv 1) pa_nil)) rfl)
      (pss_cons (kps_fld (K := K) rfl (pv 0) (pv 2) rfl)
      (pss_cons (kps_fld (K := K) rfl (pv 0) (pe_callTy (k_list (K := K) rfl) (by rfl) B.list_ (by decide +kernel) (pa_cons (pv 3) pa_nil)) rfl)
      (pss_one (kps_fld (K := K) rfl (pv 0) (pv 4) rfl)))))))))), ?_⟩
    try dsimp only [cxOf, Cx.nox, Cx.wish, Cx.blk]
    have hu' : Rk F (.mi x C_Lines [] :: M) u (prtR C_Part r) := Rk.of hu fun q => by rcases q with ⟨n, e⟩ | ⟨n, e⟩ <;> cases e
    rw [show L2.start (["self", "widths", "blank", "rooms", "rest", "k"] : List Str) [.ref x, v, u, vr, .int rest] = [some (.ref x), some v, some u, some vr, some (.int rest), none] from rfl]
    wtm_at "n"
    refine n_lookwidths w hv ok.w1 ok.w60 ok.wb fun H1 w => ?_
    wtm_at "n"
    refine n_isiOC o_Part w hu' kit_self ?_
    wtm_at "n"
    refine n_looklist w hr' (by omega) (by rw [List.length_map]; have := ok.l60; omega) ?_
    wtm_at "n"
    rw [List.length_map]
    refine s_rng1' (by omega) (by have := ok.l60; omega) ?_
    rw [Int.toNat_natCast]
    refine n_forR w (fun i σ' F' M' => ∃ x5, σ' = [some (.ref x), some v, some u, some vr, some (.int rest), x5] ∧ F = F' ∧ M' = .mi x C_Lines [] :: M) ⟨_, rfl, rfl, rfl⟩ ?_ ?_
    · rintro i σ' H' F' M' hi ⟨x5, rfl, rfl, rfl⟩ w
      wtm_at "n"
      refine n_ixN (j := i) w hr' (by omega) hi ?_
      have hx := ok.rb (rooms.getD i 0) (by rw [List.getD_eq_getElem?_getD, List.getElem?_eq_getElem hi]; exact List.getElem_mem hi)
      wtm_at "n"
      refine use_is_length (I := H') (M := []) Fs.W.self hx.1 hx.2 ?_
      wtm_at "n"
      exact ⟨_, _, ⟨_, rfl, rfl, rfl⟩, w⟩
    rintro σ' H' F' M' ⟨x5, rfl, rfl, rfl⟩ w
    wtm_at "n"
    refine use_is_length (I := H') (M := []) Fs.W.self ok.r0 ok.r1 ?_
    repeat (first | tbr_iter "f1" | wtm_at "e1" | wtm_at "s1" | wtm_at "b1")
    refine n_list w hv fun pw H2 w => ?_
    have w := w.frzL .here
    repeat (first | tbr_iter "f1" | wtm_at "e1" | wtm_at "s1" | wtm_at "b1")
    have hv2 : Kn ((V.ref pw, D.lst (ws.map D.int)) :: F) u (prtR C_Part r) := hu.more
    refine n_sf (f := "widths") (d := .lst (ws.map D.int)) w (by ktf_call "foc") (.mem List.mem_cons_self) o_Lines.cl n_Lines (by decide) (by decide) fun H3 w => ?_
    rw [putD_new (by (try simp only [List.nil_append, List.cons_append, List.map_cons, List.map_nil]); decide)] at w
    repeat (first | tbr_iter "f1" | wtm_at "e1" | wtm_at "s1" | wtm_at "b1")
    refine n_sf (f := "blank") (d := prtR C_Part r) w (by ktf_call "foc") hv2 o_Lines.cl n_Lines (by decide) (by simp) fun H4 w => ?_
    rw [putD_new (by (try simp only [List.nil_append, List.cons_append, List.map_cons, List.map_nil]); decide)] at w
    repeat (first | tbr_iter "f1" | wtm_at "e1" | wtm_at "s1" | wtm_at "b1")
    have hr2 : Rk ((V.ref pw, D.lst (ws.map D.int)) :: F) (.mi x C_Lines ([] ++ [(("widths" : Str), D.lst (ws.map D.int))] ++ [(("blank" : Str), prtR C_Part r)]) :: M) vr (.lst (rooms.map D.int)) := by
      cases hr' with
      | mem h => exact .mem (List.mem_cons_of_mem _ h)
      | ml h => exact .ml (by rcases List.mem_cons.mp h with h | h; cases h; exact List.mem_cons_of_mem _ h)
    refine n_list w hr2 fun pr H5 w => ?_
    have w := w.frzL .here
    repeat (first | tbr_iter "f1" | wtm_at "e1" | wtm_at "s1" | wtm_at "b1")
    refine n_sf (f := "rooms") (d := .lst (rooms.map D.int)) w (by ktf_call "foc") (.mem List.mem_cons_self) o_Lines.cl n_Lines (by decide) (by simp) fun H6 w => ?_
    rw [putD_new (by (try simp only [List.nil_append, List.cons_append, List.map_cons, List.map_nil]); decide)] at w
    repeat (first | tbr_iter "f1" | wtm_at "e1" | wtm_at "s1" | wtm_at "b1")
    refine n_sf (f := "rest") (d := .int rest) w (by ktf_call "foc") (.int _) o_Lines.cl n_Lines (by decide) (by simp) fun H7 w => ?_
    rw [putD_new (by (try simp only [List.nil_append, List.cons_append, List.map_cons, List.map_nil]); decide)] at w
    wtm_at "n"
    have w := w.frzI .here
    exact k _ (by wtm_at "wf1")
abbrev s_set_lines : Stmt := top 54
theorem sc_set_lines : FnScope ["widths", "blank", "rooms", "rest", "cost", "nodes", "k"] ["widths", "blank", "rooms", "rest"] (defScope s_set_lines) := ⟨rfl, rfl, rfl, by decide +kernel, rfl, by decide +kernel, by decide +kernel⟩
def sp_set_lines (CP : Addr) : Sp := fun vs H Q _ => ∃ F M v u vr, ∃ (ws : List Int) (r : Row) (rooms : List Int) (rest : Int), vs = [v, u, vr, .int rest] ∧ Wf F H M ∧ Rk F M v (.lst (ws.map D.int)) ∧ Kn F u (prtR CP r) ∧ Rk F M vr (.lst (rooms.map D.int)) ∧ LnOk ws r rooms rest ∧ ∀ t p H' c, prc (lnG ws r rooms rest) ws.length (0, 0) = some c → Wf ((t, .tup [frq c, .ref p]) :: F) H' (.ml p ((wyL (wayN (lnG ws r rooms rest) ws.length)).map nD) :: M) → Q t H'
theorem n_setlines {CP : Addr} {F : List (V × D)} {H : Hp} {M : List ME} {v u vr : V} {ws : List Int} {r : Row} {rooms : List Int} {rest : Int} {Q : VK} {E : XK} (w : Wf F H M) (hv : Rk F M v (.lst (ws.map D.int))) (hu : Kn F u (prtR CP r)) (hr : Rk F M vr (.lst (rooms.map D.int))) (ok : LnOk ws r rooms rest) (q : ∀ t p H' c, prc (lnG ws r rooms rest) ws.length (0, 0) = some c → Wf ((t, .tup [frq c, .ref p]) :: F) H' (.ml p ((wyL (wayN (lnG ws r rooms rest) ws.length)).map nD) :: M) → Q t H') : sp_set_lines CP ([v, u, vr, .int rest] ++ []) H Q E := ⟨F, M, v, u, vr, ws, r, rooms, rest, rfl, w, hv, hu, hr, ok, q⟩

theorem ok_set_lines {f : Addr} {fd : FuncData} (F : Fun K "set_lines" "set_lines" s_set_lines f fd) (B : Bn mg) (c_way_of : Cal P wd K mg base "way_of" 11 ["ways"] [] (sp_way_of P wd K mg base C_Lines C_Part C_Columns)) (m_Lines : Mak P wd K mg base "Lines" C_Lines 4 ["self", "widths", "blank", "rooms", "rest"] [] (sp_Lines___init__ C_Lines C_Part))  : FnOk P wd K mg base CX0 12 f fd ["widths", "blank", "rooms", "rest"] (sp_set_lines C_Part) := by
  refine F.ok sc_set_lines (fun vs H Q E h => ?_) (fun cdv A outer s H vs Q E hr h => ?_)
  · obtain ⟨F, M, v, u, vr, ws, r, rooms, rest, rfl, w, hv, hu, hr', ok, k⟩ := h
    all_goals rfl
  · obtain ⟨F, M, v, u, vr, ws, r, rooms, rest, rfl, w, hv, hu, hr', ok, k⟩ := h
    refine ⟨_, (pss_cons (ps_asg (pe_cal c_way_of (hr.mono (by decide)) (by rfl) (pa_cons (pe_mk m_Lines (hr.mono (by decide)) rfl (pa_cons (pv 0) (pa_cons (pv 1) (pa_cons (pv 2) (pa_cons (pv 3) pa_nil))))) pa_nil)) (kpg_tup (K := K) (n := 2) rfl rfl (pgs_cons (pg_name (i := 4) sc_set_lines.nd rfl (Or.inl rfl)) (pgs_cons (pg_name (i := 5) sc_set_lines.nd rfl (Or.inr rfl)) pgs_nil))))
      (pss_one (ps_ret (pe_tup (pa_cons (pv 4) (pa_cons (pe_lc (own := [("k", 6)]) (by rfl) sc_set_lines.nd (pi_range1 (by rfl) B.range_ (pa_cons (pe_op op_sub (pe_callB (k_len (K := K) rfl) (by rfl) B.len_ (by decide +kernel) (pa_cons (pv 5) pa_nil)) pe_int) pa_nil)) (blkOk_by (own := [("k", 6)]) (N := ["widths", "blank", "rooms", "rest", "cost", "nodes", "k"]) (sc := defScope s_set_lines) (by decide +kernel)) (fun _ _ _ _ _ => (pg_name (i := 6) sc_set_lines.nd rfl (Or.inl rfl))) (fun _ _ _ _ _ => pts_nil) (fun _ _ _ _ _ => (pe_tup (pa_cons (pe_ix (k_ix (K := K) rfl) (pe_ix (k_ix (K := K) rfl) (pv 5) (pv 6) (fun _ _ => rfl)) pe_int (fun _ _ => rfl)) (pa_cons (pe_ix (k_ix (K := K) rfl) (pe_ix (k_ix (K := K) rfl) (pv 5) (pe_op (k_add (K := K) rfl) (pv 6) pe_int) (fun _ _ => rfl)) pe_int (fun _ _ => rfl)) pa_nil))))) pa_nil)))))), ?_⟩
    try dsimp only [cxOf, Cx.nox, Cx.wish, Cx.blk]
    have hw60 := ok.w60
    rw [show L2.start (["widths", "blank", "rooms", "rest", "cost", "nodes", "k"] : List Str) [v, u, vr, .int rest] = [some v, some u, some vr, some (.int rest), none, none, none] from rfl]
    wtm_at "n"
    refine n_mkLn (C := C_Lines) w hv hu hr' ok fun px H1 w => ?_
    wtm_at "n"
    obtain ⟨q0, hq0⟩ := ln_prc ok (n := (0, 0)) (ln_ok ok).u0
    refine n_wayof w (WO.of (.mem List.mem_cons_self) ok) (fun H2 e => by rw [hq0] at e; cases e) fun t pn H2 c hc w => ?_
    obtain ⟨pre, m, hp1, hp2, hp3⟩ := path_last ok (ws.length + 1) (n := (0, 0)) (ln_ok ok).u0 (by simp; omega)
    have hway : wayN (lnG ws r rooms rest) ws.length = pre ++ [m] := hp1
    have hlen : (wayN (lnG ws r rooms rest) ws.length).length ≤ ws.length + 2 := by
      unfold wayN
      have : ∀ (i : Nat) (n : Nd), (pathF (lnG ws r rooms rest) (prc (lnG ws r rooms rest) ws.length) i n).length ≤ i + 1 := fun i => by
        induction i with
        | zero => intro n; exact Nat.le_refl _
        | succ i ih =>
          intro n
          unfold pathF
          split
          · simp
          · split
            · simp
            · rename_i m _
              have := ih m
              simp only [List.length_cons]
              omega
      exact this _ _
    have hpos : 1 ≤ (wayN (lnG ws r rooms rest) ws.length).length := by rw [hway]; simp
    generalize hwn : wayN (lnG ws r rooms rest) ws.length = nodes at *
    refine n_gtup2 w (.mem List.mem_cons_self) fun cv pv w => ?_
    obtain ⟨rfl, w2⟩ := (show Wf ((pv, .ref pn) :: F) H2 (.ml pn (nodes.map nD) :: M) from w.sub (KS.cons (.mem (by simp)) fun f hf => .mem (by simp [hf])) (.refl _)).ref0
    have w : Wf ((cv, frq c) :: F) H2 (.ml pn (nodes.map nD) :: M) := w.sub (KS.cons (.mem (by simp)) fun f hf => .mem (by simp [hf])) (.refl _)
    clear w2
    wtm_at "n"
    rw [List.length_map]
    refine s_rng1' (by omega) (by omega) ?_
    have en : ((nodes.length : Int) - 1).toNat = nodes.length - 1 := by omega
    rw [en]
    refine n_lcN w (fun i acc => acc = ((wyL nodes).take i).map nD) rfl (by omega) ?_ ?_
    · intro i Dp acc H3 Ap Sk hi hR w kA kS
      have hg := wyL_get (l := nodes) (k := i) (by omega)
      wtm_at "n"
      refine ⟨rfl, ?_⟩
      wtm_at "n"
      refine n_ixM (f := nD) (z := (0, 0)) (j := i) w (by ktf_call "rk") (by omega) (by omega) fun u1 w => ?_
      refine n_ixT (d := .int (nodes.getD i (0, 0)).1) w (.mem List.mem_cons_self) rfl fun u2 w => ?_
      obtain ⟨rfl, _⟩ := w.eq0
      wtm_at "n"
      refine n_ixM (f := nD) (z := (0, 0)) (j := i + 1) w (by ktf_call "rk") (by omega) (by omega) fun u3 w => ?_
      refine n_ixT (d := .int (nodes.getD (i + 1) (0, 0)).1) w (.mem List.mem_cons_self) rfl fun u4 w => ?_
      obtain ⟨rfl, _⟩ := w.eq0
      wtm_at "n"
      rename_i pz Hz w
      refine kA _ (nD ((nodes.getD i (0, 0)).1, (nodes.getD (i + 1) (0, 0)).1)) _ (w.sub (KS.cons (.mem List.mem_cons_self) fun f hf => .mem (by simp only [List.mem_cons] at hf ⊢; rcases hf with h | h <;> simp [h])) (.refl _)) ?_
      rw [hR, take_snoc hg, List.map_append]
      rfl
    intro pl es H3 hR w
    rw [show nodes.length - 1 = (wyL nodes).length from (wyL_len nodes).symm, List.take_length] at hR
    subst hR
    wtm_at "n"
    refine n_newT (ds := [frq c, .ref pl]) w (.cons (.mem List.mem_cons_self) (.cons (.ref _) .nil)) (by simp) fun t2 H4 w => ?_
    exact k _ pl _ c hc (by wtm_at "wf")
abbrev s__law_bag : Stmt := top 56
theorem sc__law_bag : FnScope ["_law_script", "_law_cell"] ["_law_script"] (defScope s__law_bag) := ⟨rfl, rfl, rfl, by decide +kernel, rfl, by decide +kernel, by decide +kernel⟩
def sp__law_bag (K : PySem.W.Frag) : Sp := fun vs H Q _ => ∃ I M a, ∃ ns : List Int, vs = [.ref a] ∧ W I H M ∧ SqL K H a (ns.map V.int) ∧ ∀ p c o J H', Same I J → W J H' ((p, o) :: M) → Bag J c o → Q (.ref p) H'
theorem use_bag {K : PySem.W.Frag} {H : Hp} {a : Addr} {ns : List Int} {Q : VK} {E : XK} (hS : SqL K H a (ns.map V.int)) (q : ∀ p c o J H', W J H' ((p, o) :: []) → Bag J c o → Q (.ref p) H') : sp__law_bag K ([.ref a] ++ []) H Q E :=
  ⟨_, _, a, ns, rfl, W.zero, hS, fun p c o J H' _ w b => q p c o J H' w b⟩
theorem n_bag {K : PySem.W.Frag} {H : Hp} {a : Addr} {ns : List Int} {Q : VK} {E : XK} (hS : SqL K H a (ns.map V.int)) (q : ∀ p H', Wf [] H' [.bag p] → Q (.ref p) H') : sp__law_bag K ([.ref a] ++ []) H Q E :=
  use_bag hS fun p c o J H' w hb => q p H' ⟨J, _, w, .cons (.bag hb) .nil, fun _ h => nomatch h⟩

theorem ok__law_bag {f : Addr} {fd : FuncData} (F : Fun K "_law_bag" "_law_bag" s__law_bag f fd) (B : Bn mg)  : FnOk P wd K mg base CX0 1 f fd ["_law_script"] (sp__law_bag K) := by
  refine F.ok sc__law_bag (fun vs H Q E h => ?_) (fun cdv A outer s H vs Q E hr h => ?_)
  · obtain ⟨I, M, a, ns, rfl, w, hS, k⟩ := h
    all_goals rfl
  · obtain ⟨I, M, a, ns, rfl, w, hS, k⟩ := h
    refine ⟨_, (pss_one (ps_ret (pe_lst (pa_cons pe_int (pa_cons pe_int (pa_cons pe_int (pa_cons (pe_lc (own := [("_law_cell", 1)]) (by rfl) sc__law_bag.nd (kpi_list (K := K) rfl (pe_slice (k_sl (K := K) rfl) (pv 0) po_none (po_some pe_int))) (blkOk_by (own := [("_law_cell", 1)]) (N := ["_law_script", "_law_cell"]) (sc := defScope s__law_bag) (by decide +kernel)) (fun _ _ _ _ _ => (pg_name (i := 1) sc__law_bag.nd rfl (Or.inl rfl))) (fun _ _ _ _ _ => pts_nil) (fun _ _ _ _ _ => (pe_callB uc_abs (by rfl) B.abs_ (by decide +kernel) (pa_cons (pv 1) pa_nil)))) pa_nil))))))), ?_⟩
    try dsimp only [cxOf, Cx.nox, Cx.wish, Cx.blk]
    wtm_at "go"
    obtain ⟨ms, hm⟩ := cut63 ns none (some 63)
    refine s_slK hS fun p np => ?_
    rw [hm]
    have w1 := w.newI (o := .lst (ms.map V.int)) np
    have s1 : Same I (upd I p (.lst (ms.map V.int))) := w.same np
    refine s_iL' w1 (.lst upd_same (IsA.ints ms)) fun a' vs' ea ha hA => ?_
    cases ea
    rw [upd_same] at ha
    cases ha
    intro D nD
    have w2 := w1.newM (o := .lst []) nD
    refine lc_it (walk_list (xs := ms.map V.int)) (fun i H' => ∃ acc : List Int, W (upd I p (.lst (ms.map V.int))) H' ((D, .lst (acc.map V.int)) :: M) ∧ acc.length = i ∧ ∀ n ∈ acc, 0 ≤ n) ⟨[], w2, rfl, fun _ h => nomatch h⟩ (fun i H' _ ⟨acc, w3, _⟩ => .inl (.inl (w3.imm _ _ upd_same))) ?_ ?_
    · rintro i x H3 H4 hi ⟨acc, w3, hl, hp⟩ ⟨rfl, e⟩
      obtain ⟨z, rfl⟩ : ∃ z, x = V.int z := by
        rw [List.getElem?_map] at e
        cases q : ms[i]? with
        | none => rw [q] at e; cases e
        | some z => rw [q] at e; exact ⟨z, (Option.some.inj e).symm⟩
      refine s_gname ⟨rfl, ?_⟩
      wtm_at "go"
      have hlen : acc.length < 16777216 := by
        rw [hl]
        have := (List.getElem?_eq_some_iff.mp e).1
        have h5 : (ms.map V.int).length ≤ 64 := by
          rw [← hm]
          unfold cutV
          rw [List.length_take]
          have : HT.sIx (ns.map V.int).length (ns.map V.int).length (some 63) ≤ 63 := by
            show min (63 : Int).toNat _ ≤ 63
            exact Nat.min_le_left _ _
          omega
        omega
      refine ⟨_, w3.at0, (by rw [List.length_map]; exact Nat.lt_of_lt_of_le hlen (by decide)), acc ++ [if z < 0 then -z else z], ?_, by rw [List.length_append, hl]; rfl, fun n hn => ?_⟩
      · have q := w3.put0 (o' := .lst (acc.map V.int ++ [V.int (if z < 0 then -z else z)]))
        rw [List.map_append]
        exact q
      · rcases List.mem_append.mp hn with h | h
        · exact hp n h
        · rw [List.mem_singleton.mp h]
          split <;> omega
    · rintro H3 ⟨acc, w3, _, hp⟩
      obtain ⟨J, s2, w4, h4⟩ := w3.done0 (IsA.ints acc)
      wtm_at "go"
      refine s_newM w4 (by simp) fun q H5 w5 => ?_
      obtain ⟨_, vs, e, h6, a6⟩ := h4.lst_ex
      cases e
      exact k q D _ J H5 (s1.trans s2) w5 ⟨⟨acc, by rw [h6, a6.ints_eq], hp⟩, 0, 1234567891, 0, rfl, by decide, by decide, by decide, by decide⟩
abbrev s__law_take : Stmt := top 57
theorem sc__law_take : FnScope ["_law_bag_here", "_law_many", "_law_more", "_law_cell", "_law_value", "_law_first", "_law_second"] ["_law_bag_here", "_law_many"] (defScope s__law_take) := ⟨rfl, rfl, rfl, by decide +kernel, rfl, by decide +kernel, by decide +kernel⟩
def sp__law_take : Sp := fun vs H Q _ => ∃ I M b c o, ∃ m : Int, vs = [.ref b, .int m] ∧ W I H ((b, o) :: M) ∧ Bag I c o ∧ 0 < m ∧ Bd 4000 m ∧ ∀ v o' H', 0 ≤ v → v < m → Bag I c o' → W I H' ((b, o') :: M) → Q (.int v) H'
theorem use_take {I H : Hp} {M : List (Addr × HO)} {b c : Addr} {o : HO} {m : Int} {Q : VK} {E : XK} (w : W I H ((b, o) :: M)) (hb : Bag I c o) (h0 : 0 < m) (h1 : m < 10 ^ 200) (q : ∀ v o' H', 0 ≤ v → v < m → Bag I c o' → W I H' ((b, o') :: M) → Q (.int v) H') : sp__law_take ([.ref b, .int m] ++ []) H Q E :=
  ⟨I, M, b, c, o, m, rfl, w, hb, h0, Bd.of (10 ^ 200) (by omega) (by decide +kernel), q⟩
theorem take_end {I : Hp} {M : List (Addr × HO)} {b c : Addr} {ns : List Int} {x y z m : Int} {Q : VK} (cs : I c = some (.lst (ns.map V.int))) (nn : ∀ n ∈ ns, 0 ≤ n) (x0 : 0 ≤ x) (y0 : 0 ≤ y) (y1 : y < 2147483647) (z0 : 0 ≤ z)
    (k : ∀ v o' H', 0 ≤ v → v < m → Bag I c o' → W I H' ((b, o') :: M) → Q (.int v) H') : ∀ v H', 0 ≤ v → v < m → W I H' ((b, .lst [.int x, .int y, .int z, .ref c]) :: M) → Q (.int v) H' := fun v H' h1 h2 w => k v _ H' h1 h2 ⟨⟨ns, cs, nn⟩, x, y, z, rfl, x0, y0, y1, z0⟩ w
theorem n_take {F : List (V × D)} {H : Hp} {M : List ME} {b : Addr} {m : Int} {Q : VK} {E : XK} (w : Wf F H M) (hb : .bag b ∈ M) (h0 : 0 < m) (h1 : m < 10 ^ 200) (q : ∀ v H', 0 ≤ v → v < m → Wf F H' M → Q (.int v) H') : sp__law_take ([.ref b, .int m] ++ []) H Q E := by
  obtain ⟨I, Mc, c, o, w, hb, _, up, _⟩ := w.oldB hb
  exact use_take w hb h0 h1 fun v o' H' v0 v1 hb' w' => q v H' v0 v1 (up I H' o' (Same.refl _) w' hb')
local macro_rules | `(tactic| wtm_at "c1") => `(tactic| ((with_reducible refine' n_take (by assumption) ?b ?c ?d ?_); (case b => ktf_call "mem"); (case c => omega); (case d => omega); (intro v H' v0 v1 w')))

theorem ok__law_take {f : Addr} {fd : FuncData} (F : Fun K "_law_take" "_law_take" s__law_take f fd) (B : Bn mg)  : FnOk P wd K mg base CX0 1 f fd ["_law_bag_here", "_law_many"] sp__law_take := by
  refine F.ok sc__law_take (fun vs H Q E h => ?_) (fun cdv A outer s H vs Q E hr h => ?_)
  · obtain ⟨I, M, b, c, o, m, rfl, w, ⟨⟨ns, cs, nn⟩, x, y, z, rfl, x0, y0, y1, z0⟩, h0, h1, k⟩ := h
    all_goals rfl
  · obtain ⟨I, M, b, c, o, m, rfl, w, ⟨⟨ns, cs, nn⟩, x, y, z, rfl, x0, y0, y1, z0⟩, h0, h1, k⟩ := h
    refine ⟨_, (pss_cons (ps_if (pt_cmpR (k_eq (K := K) rfl hr.units) (pe_ix (k_ix (K := K) rfl) (pv 0) pe_int (fun _ _ => rfl)) pe_int (nomark _)) (pss_cons (ps_set (i := 2) sc__law_take.nd rfl (Or.inl rfl) pe_int)
      (pss_cons (ps_if (pt_cmpR op_lt (pe_ix (k_ix (K := K) rfl) (pv 0) pe_int (fun _ _ => rfl)) (pe_callB (k_len (K := K) rfl) (by rfl) B.len_ (by decide +kernel) (pa_cons (pe_ix (k_ix (K := K) rfl) (pv 0) pe_int (fun _ _ => rfl)) pa_nil)) (nomark _)) (pss_cons (ps_set (i := 3) sc__law_take.nd rfl (Or.inl rfl) (pe_ix (k_ix (K := K) rfl) (pe_ix (k_ix (K := K) rfl) (pv 0) pe_int (fun _ _ => rfl)) (pe_ix (k_ix (K := K) rfl) (pv 0) pe_int (fun _ _ => rfl)) (fun _ _ => rfl)))
      (pss_cons (ps_augL (pv 0) pe_int pe_int)
      (pss_cons (ps_if (pt_cmpR op_ge (pv 3) pe_int (nomark _)) (pss_one (ps_asg (pv 3) (pg_sub (pv 0) pe_int set_list))) pss_nil)
      (pss_one (ps_set (i := 2) sc__law_take.nd rfl (Or.inl rfl) (pe_op (k_add (K := K) rfl) (pe_op op_mod (pv 3) pe_int) pe_int)))))) pss_nil)
      (pss_one (ps_asg (pe_op op_mod (pe_op (k_add (K := K) rfl) (pe_op uo_mul (pe_ix (k_ix (K := K) rfl) (pv 0) pe_int (fun _ _ => rfl)) pe_int) (pv 2)) pe_int) (pg_sub (pv 0) pe_int set_list))))) pss_nil)
      (pss_cons (ps_if (pt_cmpR op_gt (pe_ix (k_ix (K := K) rfl) (pv 0) pe_int (fun _ _ => rfl)) pe_int (nomark _)) (pss_cons (ps_set (i := 4) sc__law_take.nd rfl (Or.inl rfl) (pe_op op_mod (pe_ix (k_ix (K := K) rfl) (pv 0) pe_int (fun _ _ => rfl)) (pv 1)))
      (pss_cons (ps_asg (pe_op op_fdivW (pe_ix (k_ix (K := K) rfl) (pv 0) pe_int (fun _ _ => rfl)) (pv 1)) (pg_sub (pv 0) pe_int set_list))
      (pss_one (ps_ret (pv 4))))) pss_nil)
      (pss_cons (ps_set (i := 5) sc__law_take.nd rfl (Or.inl rfl) (pe_op op_mod (pe_op uo_mul (pe_ix (k_ix (K := K) rfl) (pv 0) pe_int (fun _ _ => rfl)) pe_int) pe_int))
      (pss_cons (ps_set (i := 6) sc__law_take.nd rfl (Or.inl rfl) (pe_op op_mod (pe_op uo_mul (pv 5) pe_int) pe_int))
      (pss_cons (ps_if (pt_cmpR op_gt (pv 1) pe_int (nomark _)) (pss_one (ps_ret (pe_op op_mod (pe_op (k_add (K := K) rfl) (pe_op uo_mul (pv 6) pe_int) (pv 5)) (pv 1)))) pss_nil)
      (pss_one (ps_ret (pe_op op_mod (pe_op op_fdivW (pv 6) pe_int) (pv 1))))))))), ?_⟩
    try dsimp only [cxOf, Cx.nox, Cx.wish, Cx.blk]
    have hc : Is I (.ref c) (.lst (ns.map D.int)) := .lst cs (IsA.ints ns)
    with_reducible refine s_mid (fun σ' H' => ∃ x y z v2 v3, σ' = [some (.ref b), some (.int m), v2, v3, none, none, none] ∧ 0 ≤ x ∧ 0 ≤ y ∧ y < 2147483647 ∧ 0 ≤ z ∧ W I H' ((b, .lst [.int x, .int y, .int z, .ref c]) :: M)) ?_ (fun N1 fin => ?_)
    · clear x0 y0 y1 z0 w
      rintro σ' H' ⟨x, y, z, v2, v3, rfl, x0, y0, y1, z0, w⟩
      wtm_at "go"
      wtm_at "fork"
      · wtm_at "go"
        refine s_I (show (0 : Int) < m from h0) ?_
        wtm_at "go"
        refine s_I (h1.cd h0) ?_
        wtm_at "go"
        refine take_end (x := x / m) (y := y) (z := z) cs nn (Int.ediv_nonneg x0 (by omega)) y0 y1 z0 k _ _ (Int.emod_nonneg _ (by omega)) (Int.emod_lt_of_pos _ h0) (by assumption)
      · wtm_at "go"
        wtm_at "goo"
        wtm_at "fork"
        · wtm_at "goo"
          exact take_end (x := x) (y := y) (z := z) cs nn x0 y0 y1 z0 k _ _ (Int.emod_nonneg _ (by omega)) (Int.emod_lt_of_pos _ h0) w
        · wtm_at "goo"
          exact take_end (x := x) (y := y) (z := z) cs nn x0 y0 y1 z0 k _ _ (Int.emod_nonneg _ (by omega)) (Int.emod_lt_of_pos _ h0) w
    · wtm_at "go"
      wtm_at "fork"
      · wtm_at "s1"; wtm_at "s1"; wtm_at "e1"; wtm_at "s1"
        with_reducible refine s_mid (fun σ' H' => ∃ x z v3, ∃ r : Int, σ' = [some (.ref b), some (.int m), some (.int r), v3, none, none, none] ∧ 0 ≤ r ∧ r ≤ 2147483647 ∧ 0 ≤ x ∧ 0 ≤ z ∧ W I H' ((b, .lst [.int x, .int y, .int z, .ref c]) :: M)) ?_ (fun N2 fin2 => ?_)
        · rintro σ' H' ⟨x', z', v3, r, rfl, r0, r1, x0', z0', w'⟩
          wtm_at "goo"
          exact fin _ _ ⟨x', (y * 48271 + r) % 2147483647, z', _, v3, rfl, x0', Int.emod_nonneg _ (by decide), Int.emod_lt_of_pos _ (by decide), z0', by assumption⟩
        · wtm_at "go"
          wtm_at "fork"
          · rename_i hz
            rw [List.length_map] at hz
            obtain ⟨n, hn, e⟩ := at_ints z0 hz
            have hn0 := nn n hn
            wtm_at "go"
            refine s_ixL w hc e ?_
            wtm_at "inv"
            wtm_at "go"
            wtm_at "fork"
            · wtm_at "goo"
              exact fin2 _ _ ⟨n, z + 1, _, _, rfl, by omega, by omega, by omega, by omega, by assumption⟩
            · wtm_at "goo"
              exact fin2 _ _ ⟨x, z + 1, _, _, rfl, by omega, by omega, by omega, by omega, by assumption⟩
          · wtm_at "go"
            exact fin2 _ _ ⟨x, z, none, 12345, rfl, by decide, by decide, x0, z0, w⟩
      · wtm_at "go"
        exact fin _ _ ⟨x, y, z, none, none, rfl, x0, y0, y1, z0, w⟩
abbrev s__law_length : Stmt := top 58
theorem sc__law_length : FnScope ["_law_bag_here", "_law_most", "_law_way"] ["_law_bag_here", "_law_most"] (defScope s__law_length) := ⟨rfl, rfl, rfl, by decide +kernel, rfl, by decide +kernel, by decide +kernel⟩
def sp__law_length : Sp := fun vs H Q _ => ∃ I M b c o, ∃ m : Int, vs = [.ref b, .int m] ∧ W I H ((b, o) :: M) ∧ Bag I c o ∧ 0 ≤ m ∧ m ≤ 1000000000000000000000000000000 ∧ ∀ v o' H', 0 ≤ v → v ≤ m → Bag I c o' → W I H' ((b, o') :: M) → Q (.int v) H'
theorem use_length {I H : Hp} {M : List (Addr × HO)} {b c : Addr} {o : HO} {m : Int} {Q : VK} {E : XK} (w : W I H ((b, o) :: M)) (hb : Bag I c o) (h0 : 0 ≤ m) (h1 : m ≤ 1000000000000) (q : ∀ v o' H', 0 ≤ v → v ≤ m → Bag I c o' → W I H' ((b, o') :: M) → Q (.int v) H') : sp__law_length ([.ref b, .int m] ++ []) H Q E :=
  ⟨I, M, b, c, o, m, rfl, w, hb, h0, by omega, q⟩
theorem n_length {F : List (V × D)} {H : Hp} {M : List ME} {b : Addr} {m : Int} {Q : VK} {E : XK} (w : Wf F H M) (hb : .bag b ∈ M) (h0 : 0 ≤ m) (h1 : m ≤ 1000000000000) (q : ∀ v H', 0 ≤ v → v ≤ m → Wf F H' M → Q (.int v) H') : sp__law_length ([.ref b, .int m] ++ []) H Q E := by
  obtain ⟨I, Mc, c, o, w, hb, _, up, _⟩ := w.oldB hb
  exact use_length w hb h0 h1 fun v o' H' v0 v1 hb' w' => q v H' v0 v1 (up I H' o' (Same.refl _) w' hb')
theorem n_lengthB {F : List (V × D)} {H : Hp} {M : List ME} {b : Addr} {m : Int} {Q : VK} {E : XK} (w : Wf F H M) (hb : .bag b ∈ M) (h0 : 0 ≤ m) (h1 : m ≤ 1000000000000000000000000000000) (q : ∀ v H', 0 ≤ v → v ≤ m → Wf F H' M → Q (.int v) H') : sp__law_length ([.ref b, .int m] ++ []) H Q E := by
  obtain ⟨I, Mc, c, o, w, hb, _, up, _⟩ := w.oldB hb
  exact ⟨I, Mc, b, c, o, m, rfl, w, hb, h0, h1, fun v o' H' v0 v1 hb' w' => q v H' v0 v1 (up I H' o' (Same.refl _) w' hb')⟩
local macro_rules | `(tactic| wtm_at "c1") => `(tactic| ((with_reducible refine' n_length (by assumption) ?b ?c ?d ?_); (case b => ktf_call "mem"); (case c => omega); (case d => omega); (intro v H' v0 v1 w')))

theorem ok__law_length {f : Addr} {fd : FuncData} (F : Fun K "_law_length" "_law_length" s__law_length f fd) (B : Bn mg) (c__law_take : Cal P wd K mg base "_law_take" 1 ["_law_bag_here", "_law_many"] [] sp__law_take)  : FnOk P wd K mg base CX0 2 f fd ["_law_bag_here", "_law_most"] sp__law_length := by
  refine F.ok sc__law_length (fun vs H Q E h => ?_) (fun cdv A outer s H vs Q E hr h => ?_)
  · obtain ⟨I, M, b, c, o, m, rfl, w, hb, h0, h1, k⟩ := h
    all_goals rfl
  · obtain ⟨I, M, b, c, o, m, rfl, w, hb, h0, h1, k⟩ := h
    refine ⟨_, (pss_cons (ps_set (i := 2) sc__law_length.nd rfl (Or.inl rfl) (pe_cal c__law_take (hr.mono (by decide)) (by rfl) (pa_cons (pv 0) (pa_cons pe_int pa_nil))))
      (pss_cons (ps_if (pt_cmpR (k_eq (K := K) rfl hr.units) (pv 2) pe_int (nomark _)) (pss_one (ps_ret (pe_cal c__law_take (hr.mono (by decide)) (by rfl) (pa_cons (pv 0) (pa_cons (pe_op (k_add (K := K) rfl) (pe_callB (k_min (K := K) rfl rfl) (by rfl) B.min_ (by decide +kernel) (pa_cons (pv 1) (pa_cons pe_int pa_nil))) pe_int) pa_nil))))) pss_nil)
      (pss_cons (ps_if (pt_cmpR (k_eq (K := K) rfl hr.units) (pv 2) pe_int (nomark _)) (pss_one (ps_ret (pe_cal c__law_take (hr.mono (by decide)) (by rfl) (pa_cons (pv 0) (pa_cons (pe_op (k_add (K := K) rfl) (pe_callB (k_min (K := K) rfl rfl) (by rfl) B.min_ (by decide +kernel) (pa_cons (pv 1) (pa_cons pe_int pa_nil))) pe_int) pa_nil))))) pss_nil)
      (pss_cons (ps_if (pt_cmpR (k_eq (K := K) rfl hr.units) (pv 2) pe_int (nomark _)) (pss_one (ps_ret (pe_op op_sub (pv 1) (pe_cal c__law_take (hr.mono (by decide)) (by rfl) (pa_cons (pv 0) (pa_cons (pe_op (k_add (K := K) rfl) (pe_callB (k_min (K := K) rfl rfl) (by rfl) B.min_ (by decide +kernel) (pa_cons (pv 1) (pa_cons pe_int pa_nil))) pe_int) pa_nil)))))) pss_nil)
      (pss_one (ps_ret (pe_cal c__law_take (hr.mono (by decide)) (by rfl) (pa_cons (pv 0) (pa_cons (pe_op (k_add (K := K) rfl) (pv 1) pe_int) pa_nil))))))))), ?_⟩
    try dsimp only [cxOf, Cx.nox, Cx.wish, Cx.blk]
    wtm_at "go"
    refine use_take w hb (by omega) (by omega) fun v o1 H1 v0 v1 hb1 w1 => ?_
    wtm_at "go"
    wtm_at "fork"
    · wtm_at "go"
      refine use_take w1 hb1 (by split <;> omega) (by split <;> omega) fun u o2 H2 u0 u1 hb2 w2 => ?_
      exact k u o2 H2 u0 (by split at u1 <;> omega) hb2 w2
    wtm_at "go"
    wtm_at "fork"
    · wtm_at "go"
      refine use_take w1 hb1 (by split <;> omega) (by split <;> omega) fun u o2 H2 u0 u1 hb2 w2 => ?_
      exact k u o2 H2 u0 (by split at u1 <;> omega) hb2 w2
    wtm_at "go"
    wtm_at "fork"
    · wtm_at "go"
      refine use_take w1 hb1 (by split <;> omega) (by split <;> omega) fun u o2 H2 u0 u1 hb2 w2 => ?_
      wtm_at "go"
      exact k _ o2 H2 (by split at u1 <;> omega) (by omega) hb2 w2
    wtm_at "go"
    refine use_take w1 hb1 (by omega) (by omega) fun u o2 H2 u0 u1 hb2 w2 => ?_
    exact k u o2 H2 u0 (by omega) hb2 w2
abbrev s__law_whole : Stmt := top 59
theorem sc__law_whole : FnScope ["_law_found"] ["_law_found"] (defScope s__law_whole) := ⟨rfl, rfl, rfl, by decide +kernel, rfl, by decide +kernel, by decide +kernel⟩
def sp__law_whole : Sp := fun vs H Q _ => ∃ I M v d a, vs = [v] ∧ W I H M ∧ Is I v d ∧ d.tn = some a ∧ Q (.bl d.whole) H
theorem use_wholeI {I H : Hp} {M : List (Addr × HO)} {n : Int} {Q : VK} {E : XK} (w : W I H M) (q : Q (.bl true) H) : sp__law_whole ([.int n] ++ []) H Q E := ⟨I, M, _, _, _, rfl, w, .int n, rfl, q⟩
theorem use_wholeN {I H : Hp} {M : List (Addr × HO)} {v : V} {d : D} {a : String} {Q : VK} {E : XK} (w : W I H M) (h : Is I v d) (ha : d.tn = some a) (hd : d.whole = false) (q : Q (.bl false) H) : sp__law_whole ([v] ++ []) H Q E := ⟨I, M, _, _, _, rfl, w, h, ha, by rw [hd]; exact q⟩
theorem n_wh {F : List (V × D)} {H : Hp} {M : List ME} {v : V} {d : D} {Q : VK} {E : XK} (w : Wf F H M) (hv : Rk F M v d) (ht : Ty d) (q : Q (.bl d.whole) H) : sp__law_whole ([v] ++ []) H Q E := by
  obtain ⟨a, ha⟩ := ht
  exact ⟨H, [], v, d, a, rfl, W.self, w.rd hv, ha, q⟩
theorem n_whI {n : Int} {H : Hp} {Q : VK} {E : XK} (q : Q (.bl true) H) : sp__law_whole ([.int n] ++ []) H Q E := ⟨H, [], .int n, .int n, _, rfl, W.self, .int n, rfl, q⟩
local macro_rules | `(tactic| wtm_at "c0") => `(tactic| with_reducible refine n_whI ?_)

theorem ok__law_whole {f : Addr} {fd : FuncData} (F : Fun K "_law_whole" "_law_whole" s__law_whole f fd) (B : Bn mg)  : FnOk P wd K mg base CX0 1 f fd ["_law_found"] sp__law_whole := by
  refine F.ok sc__law_whole (fun vs H Q E h => ?_) (fun cdv A outer s H vs Q E hr h => ?_)
  · obtain ⟨I, M, v, d, a, rfl, w, hv, ha, k⟩ := h
    all_goals rfl
  · obtain ⟨I, M, v, d, a, rfl, w, hv, ha, k⟩ := h
    refine ⟨_, (pss_one (ps_ret (pe_and (pe_callB (k_isi (K := K) rfl) (by rfl) B.isinstance_ (by decide +kernel) (pa_cons (pv 0) (pa_cons (pe_bltn (v := .ty "int") (by rfl) B.int_ (by decide +kernel) rfl) pa_nil))) (pe_one (pe_not (pe_callB (k_isi (K := K) rfl) (by rfl) B.isinstance_ (by decide +kernel) (pa_cons (pv 0) (pa_cons (pe_bltn (v := .ty "bool") (by rfl) B.bool_ (by decide +kernel) rfl) pa_nil)))))))), ?_⟩
    try dsimp only [cxOf, Cx.nox, Cx.wish, Cx.blk]
    cases d with
    | int n => wtm_at "go"; exact k
    | bl n => wtm_at "go"; exact k
    | non => wtm_at "go"; exact k
    | str n => wtm_at "go"; exact k
    | tup n => wtm_at "go"; exact k
    | lst n => wtm_at "go"; exact k
    | ref n => cases ha
    | ty n => cases ha
    | obj n m => cases ha
    | fact _ => cases ha
    | dict => wtm_at "go"; exact k
abbrev s__law_low : Stmt := top 60
theorem sc__law_low : FnScope ["_law_top", "_law_bottom", "_law_one", "_law_other"] ["_law_top", "_law_bottom"] (defScope s__law_low) := ⟨rfl, rfl, rfl, by decide +kernel, rfl, by decide +kernel, by decide +kernel⟩
def sp__law_low : Sp := fun vs H Q _ => ∃ F M, ∃ t b : Int, vs = [.int t, .int b] ∧ Wf F H M ∧ 0 < b ∧ Bd 8000 b ∧ ∀ r H', Wf ((r, frq (Rat.divInt t b)) :: F) H' M → Q r H'
theorem n_llow {F : List (V × D)} {H : Hp} {M : List ME} {t b : Int} {Q : VK} {E : XK} (w : Wf F H M) (hb : 0 < b) (hB : Bd 8000 b) (q : ∀ r H', Wf ((r, frq (Rat.divInt t b)) :: F) H' M → Q r H') : sp__law_low ([.int t, .int b] ++ []) H Q E := ⟨F, M, t, b, rfl, w, hb, hB, q⟩

theorem ok__law_low {f : Addr} {fd : FuncData} (F : Fun K "_law_low" "_law_low" s__law_low f fd) (B : Bn mg)  : FnOk P wd K mg base CX0 1 f fd ["_law_top", "_law_bottom"] sp__law_low := by
  refine F.ok sc__law_low (fun vs H Q E h => ?_) (fun cdv A outer s H vs Q E hr h => ?_)
  · obtain ⟨F, M, t, b, rfl, w, hb, hB, k⟩ := h
    all_goals rfl
  · obtain ⟨F, M, t, b, rfl, w, hb, hB, k⟩ := h
    refine ⟨_, (pss_cons (ps_set (i := 2) sc__law_low.nd rfl (Or.inl rfl) (pe_callB uc_abs (by rfl) B.abs_ (by decide +kernel) (pa_cons (pv 0) pa_nil)))
      (pss_cons (ps_set (i := 3) sc__law_low.nd rfl (Or.inl rfl) (pv 1))
      (pss_cons (ps_while PassesOwn.never (pt_cmpR (k_ne (K := K) rfl hr.units) (pv 2) pe_int (nomark _)) (pss_one (ps_par (i := 2) (j := 3) rfl sc__law_low.nd rfl rfl (by decide) rfl rfl (pa_cons (pe_op op_mod (pv 3) (pv 2)) (pa_cons (pv 2) pa_nil)) rfl)))
      (pss_one (ps_ret (pe_tup (pa_cons (pe_op op_fdivW (pv 0) (pv 3)) (pa_cons (pe_op op_fdivW (pv 1) (pv 3)) pa_nil)))))))), ?_⟩
    try dsimp only [cxOf, Cx.nox, Cx.wish, Cx.blk]
    have hb' : b ≠ 0 := by omega
    have hg := gcd_pos' (t := t) hb'
    have hgb : Bd 8000 (Int.gcd t b : Int) := hB.le (gcd_le_right' hb')
    have e0 : Int.gcd (if t < 0 then -t else t) b = Int.gcd t b := by
      have := gcd_abs t b
      rw [if_neg (show ¬ b < 0 by omega)] at this
      exact this
    wtm_at "n"
    refine s_while (fun σ' H' => H' = H ∧ ∃ a' b' : Int, σ' = [some (.int t), some (.int b), some (.int a'), some (.int b')] ∧ 0 ≤ a' ∧ 0 ≤ b' ∧ Int.gcd b' a' = Int.gcd t b) (fun σ => match σ with | [_, _, some (.int a), _] => a.toNat | _ => 0) ⟨rfl, _, b, rfl, by split <;> omega, by omega, by rw [Int.gcd_comm]; exact e0⟩ ?_
    rintro σ' H' ⟨rfl, a', b', rfl, ha', hb'', e⟩
    wtm_at "n"
    wtm_at "fork"
    · rename_i e1
      subst e1
      have e2 : b' = (Int.gcd t b : Int) := by
        rw [← e]
        exact (gcd_end hb'').symm
      subst e2
      wtm_at "go"
      refine s_I (hgb.cd hg) ?_
      wtm_at "go"
      refine s_I (hgb.cd hg) ?_
      have ln := low_num (t := t) hb'
      have ld := low_den (t := t) hb'
      rw [if_neg (show ¬ b < 0 by omega)] at ln ld
      rw [ln, ld]
      refine n_newT w (ds := [.int (Rat.divInt t b).num, .int (Rat.divInt t b).den]) (.cons (.int _) (.cons (.int _) .nil)) (by simp) fun t2 H5 w => ?_
      exact k _ _ w
    · rename_i e1
      refine s_wN ?_
      wtm_at "goo"
      exact ⟨⟨rfl, b' % a', a', rfl, Int.emod_nonneg _ e1, ha', by rw [gcd_step hb'' ha', e]⟩, by
        have := Int.emod_lt_of_pos b' (show 0 < a' by omega)
        have := Int.emod_nonneg b' e1
        show (b' % a').toNat < a'.toNat
        omega⟩
abbrev s__law_fraction : Stmt := top 62
theorem sc__law_fraction : FnScope ["_law_found"] ["_law_found"] (defScope s__law_fraction) := ⟨rfl, rfl, rfl, by decide +kernel, rfl, by decide +kernel, by decide +kernel⟩
def sp__law_fraction : Sp := fun vs H Q _ => ∃ F M v, ∃ q : Rat, vs = [v] ∧ Wf F H M ∧ Kn F v (frq q) ∧ Sz 8000 q ∧ ∀ H', Wf F H' M → Q (.bl true) H'
theorem n_lfrac {F : List (V × D)} {H : Hp} {M : List ME} {v : V} {q : Rat} {Q : VK} {E : XK} (w : Wf F H M) (hv : Kn F v (frq q)) (sq : Sz 8000 q) (k : ∀ H', Wf F H' M → Q (.bl true) H') : sp__law_fraction ([v] ++ []) H Q E := ⟨F, M, v, q, rfl, w, hv, sq, k⟩

theorem ok__law_fraction {f : Addr} {fd : FuncData} (F : Fun K "_law_fraction" "_law_fraction" s__law_fraction f fd) (B : Bn mg) (c__law_whole : Cal P wd K mg base "_law_whole" 1 ["_law_found"] [] sp__law_whole) (c__law_low : Cal P wd K mg base "_law_low" 1 ["_law_top", "_law_bottom"] [] sp__law_low)  : FnOk P wd K mg base CX0 2 f fd ["_law_found"] sp__law_fraction := by
  refine F.ok sc__law_fraction (fun vs H Q E h => ?_) (fun cdv A outer s H vs Q E hr h => ?_)
  · obtain ⟨F, M, v, q, rfl, w, hv, sq, k⟩ := h
    all_goals rfl
  · obtain ⟨F, M, v, q, rfl, w, hv, sq, k⟩ := h
    refine ⟨_, (pss_cons (ps_if (pw_or (pt_not (pt_val (pe_callB (k_isi (K := K) rfl) (by rfl) B.isinstance_ (by decide +kernel) (pa_cons (pv 0) (pa_cons (pe_bltn (v := .ty "tuple") (by rfl) B.tuple_ (by decide +kernel) rfl) pa_nil))))) (pw_or1 (pt_cmpR (k_ne (K := K) rfl hr.units) (pe_callB (k_len (K := K) rfl) (by rfl) B.len_ (by decide +kernel) (pa_cons (pv 0) pa_nil)) pe_int (nomark _)))).pt (pss_one (ps_ret pe_bl)) pss_nil)
      (pss_cons (ps_if (pw_or (pt_not (pt_val (pe_cal c__law_whole (hr.mono (by decide)) (by rfl) (pa_cons (pe_ix (k_ix (K := K) rfl) (pv 0) pe_int (fun _ _ => rfl)) pa_nil)))) (pw_or (pt_not (pt_val (pe_cal c__law_whole (hr.mono (by decide)) (by rfl) (pa_cons (pe_ix (k_ix (K := K) rfl) (pv 0) pe_int (fun _ _ => rfl)) pa_nil)))) (pw_or1 (pt_cmpR op_lt (pe_ix (k_ix (K := K) rfl) (pv 0) pe_int (fun _ _ => rfl)) pe_int (nomark _))))).pt (pss_one (ps_ret pe_bl)) pss_nil)
      (pss_one (ps_ret (pe_cmpR (k_eq (K := K) rfl hr.units) (pe_cal c__law_low (hr.mono (by decide)) (by rfl) (pa_cons (pe_ix (k_ix (K := K) rfl) (pv 0) pe_int (fun _ _ => rfl)) (pa_cons (pe_ix (k_ix (K := K) rfl) (pv 0) pe_int (fun _ _ => rfl)) pa_nil))) (pv 0) (nomark _)))))), ?_⟩
    try dsimp only [cxOf, Cx.nox, Cx.wish, Cx.blk]
    have hv' : Rk F M v (frq q) := hv.rkT
    have hd := den_pos' q
    wtm_at "n"
    refine s_iteDn (by omega) ?_
    wtm_at "n"
    refine n_llow w hd sq.d fun r H1 w => ?_
    rw [show Rat.divInt q.num q.den = q from Rat.num_divInt_den q] at w
    wtm_at "n"
    refine n_eqT (d := frq q) w (.mem List.mem_cons_self) hv.more.rkT NB.fr ?_
    exact k _ (by wtm_at "wf")
abbrev s__law_weight : Stmt := top 63
theorem sc__law_weight : FnScope ["_law_bag_here", "_law_way"] ["_law_bag_here"] (defScope s__law_weight) := ⟨rfl, rfl, rfl, by decide +kernel, rfl, by decide +kernel, by decide +kernel⟩
def sp__law_weight : Sp := fun vs H Q _ => ∃ F M b, vs = [.ref b] ∧ Wf F H M ∧ .bag b ∈ M ∧ ∀ v H', 0 ≤ v → v ≤ 1000 → Wf F H' M → Q (.int v) H'
theorem n_lweight {F : List (V × D)} {H : Hp} {M : List ME} {b : Addr} {Q : VK} {E : XK} (w : Wf F H M) (hb : .bag b ∈ M) (q : ∀ v H', 0 ≤ v → v ≤ 1000 → Wf F H' M → Q (.int v) H') : sp__law_weight ([.ref b] ++ []) H Q E := ⟨F, M, b, rfl, w, hb, q⟩

theorem ok__law_weight {f : Addr} {fd : FuncData} (F : Fun K "_law_weight" "_law_weight" s__law_weight f fd) (B : Bn mg) (c__law_take : Cal P wd K mg base "_law_take" 1 ["_law_bag_here", "_law_many"] [] sp__law_take)  : FnOk P wd K mg base CX0 2 f fd ["_law_bag_here"] sp__law_weight := by
  refine F.ok sc__law_weight (fun vs H Q E h => ?_) (fun cdv A outer s H vs Q E hr h => ?_)
  · obtain ⟨F, M, b, rfl, w, hb, k⟩ := h
    all_goals rfl
  · obtain ⟨F, M, b, rfl, w, hb, k⟩ := h
    refine ⟨_, (pss_cons (ps_set (i := 1) sc__law_weight.nd rfl (Or.inl rfl) (pe_cal c__law_take (hr.mono (by decide)) (by rfl) (pa_cons (pv 0) (pa_cons pe_int pa_nil))))
      (pss_cons (ps_if (pt_cmpR (k_eq (K := K) rfl hr.units) (pv 1) pe_int (nomark _)) (pss_one (ps_ret pe_int)) pss_nil)
      (pss_cons (ps_if (pt_cmpR (k_eq (K := K) rfl hr.units) (pv 1) pe_int (nomark _)) (pss_one (ps_ret (pe_op (k_add (K := K) rfl) pe_int (pe_cal c__law_take (hr.mono (by decide)) (by rfl) (pa_cons (pv 0) (pa_cons pe_int pa_nil)))))) pss_nil)
      (pss_one (ps_ret (pe_cal c__law_take (hr.mono (by decide)) (by rfl) (pa_cons (pv 0) (pa_cons pe_int pa_nil)))))))), ?_⟩
    try dsimp only [cxOf, Cx.nox, Cx.wish, Cx.blk]
    wtm_at "n"
    refine n_take w hb (by omega) (by omega) fun x H1 x0 x1 w => ?_
    wtm_at "n"
    wtm_at "fork"
    · wtm_at "n"
      exact k _ _ (by omega) (by omega) w
    wtm_at "n"
    wtm_at "fork"
    · wtm_at "n"
      refine n_take w hb (by omega) (by omega) fun x H1 x0 x1 w => ?_
      wtm_at "n"
      exact k _ _ (by omega) (by omega) w
    wtm_at "n"
    refine n_take w hb (by omega) (by omega) fun x H1 x0 x1 w => ?_
    exact k _ _ (by omega) (by omega) w
abbrev s__law_part : Stmt := top 64
theorem sc__law_part : FnScope ["_law_bag_here", "_law_unit_here", "_law_base", "_law_least", "_law_greatest"] ["_law_bag_here", "_law_unit_here"] (defScope s__law_part) := ⟨rfl, rfl, rfl, by decide +kernel, rfl, by decide +kernel, by decide +kernel⟩
def sp__law_part : Sp := fun vs H Q _ => ∃ F M b, ∃ un : Int, vs = [.ref b, .int un] ∧ Wf F H M ∧ .bag b ∈ M ∧ 0 ≤ un ∧ un ≤ 250000000000 ∧ ∀ t H' a l g w s, PartOk a l g w s → a ≤ un → Wf ((t, rowD a l g w s) :: F) H' M → Q t H'
theorem n_lpt {F : List (V × D)} {H : Hp} {M : List ME} {b : Addr} {un : Int} {Q : VK} {E : XK} (w : Wf F H M) (hb : .bag b ∈ M) (u0 : 0 ≤ un) (u1 : un ≤ 250000000000) (q : ∀ t H' a l g w s, PartOk a l g w s → Wf ((t, rowD a l g w s) :: F) H' M → Q t H') : sp__law_part ([.ref b, .int un] ++ []) H Q E := ⟨F, M, b, un, rfl, w, hb, u0, u1, fun t H' a l g w s h _ => q t H' a l g w s h⟩
theorem n_lptB {F : List (V × D)} {H : Hp} {M : List ME} {b : Addr} {un : Int} {Q : VK} {E : XK} (w : Wf F H M) (hb : .bag b ∈ M) (u0 : 0 ≤ un) (u1 : un ≤ 250000000000) (q : ∀ t H' a l g w s, PartOk a l g w s → a ≤ un → Wf ((t, rowD a l g w s) :: F) H' M → Q t H') : sp__law_part ([.ref b, .int un] ++ []) H Q E := ⟨F, M, b, un, rfl, w, hb, u0, u1, q⟩

theorem ok__law_part {f : Addr} {fd : FuncData} (F : Fun K "_law_part" "_law_part" s__law_part f fd) (B : Bn mg) (c__law_length : Cal P wd K mg base "_law_length" 2 ["_law_bag_here", "_law_most"] [] sp__law_length) (c__law_take : Cal P wd K mg base "_law_take" 1 ["_law_bag_here", "_law_many"] [] sp__law_take) (c__law_weight : Cal P wd K mg base "_law_weight" 2 ["_law_bag_here"] [] sp__law_weight)  : FnOk P wd K mg base CX0 3 f fd ["_law_bag_here", "_law_unit_here"] sp__law_part := by
  refine F.ok sc__law_part (fun vs H Q E h => ?_) (fun cdv A outer s H vs Q E hr h => ?_)
  · obtain ⟨F, M, b, un, rfl, w, hb, u0, u1, k⟩ := h
    all_goals rfl
  · obtain ⟨F, M, b, un, rfl, w, hb, u0, u1, k⟩ := h
    refine ⟨_, (pss_cons (ps_set (i := 2) sc__law_part.nd rfl (Or.inl rfl) (pe_cal c__law_length (hr.mono (by decide)) (by rfl) (pa_cons (pv 0) (pa_cons (pv 1) pa_nil))))
      (pss_cons (ps_set (i := 3) sc__law_part.nd rfl (Or.inl rfl) (pe_op op_sub (pv 2) (pe_cal c__law_length (hr.mono (by decide)) (by rfl) (pa_cons (pv 0) (pa_cons (pv 2) pa_nil)))))
      (pss_cons (ps_set (i := 4) sc__law_part.nd rfl (Or.inl rfl) pe_non)
      (pss_cons (ps_if (pt_cmpR (k_eq (K := K) rfl hr.units) (pe_cal c__law_take (hr.mono (by decide)) (by rfl) (pa_cons (pv 0) (pa_cons pe_int pa_nil))) pe_int (nomark _)) (pss_one (ps_set (i := 4) sc__law_part.nd rfl (Or.inl rfl) (pe_op (k_add (K := K) rfl) (pv 2) (pe_cal c__law_length (hr.mono (by decide)) (by rfl) (pa_cons (pv 0) (pa_cons (pv 1) pa_nil)))))) pss_nil)
      (pss_one (ps_ret (pe_tup (pa_cons (pv 2) (pa_cons (pv 3) (pa_cons (pv 4) (pa_cons (pe_cal c__law_weight (hr.mono (by decide)) (by rfl) (pa_cons (pv 0) pa_nil)) (pa_cons (pe_cal c__law_weight (hr.mono (by decide)) (by rfl) (pa_cons (pv 0) pa_nil)) pa_nil)))))))))))), ?_⟩
    try dsimp only [cxOf, Cx.nox, Cx.wish, Cx.blk]
    wtm_at "n"
    refine n_length w hb u0 (by omega) fun a H1 a0 a1 w => ?_
    wtm_at "n"
    refine n_length w hb a0 (by omega) fun l H2 l0 l1 w => ?_
    wtm_at "e1"; wtm_at "s1"; wtm_at "s1"; wtm_at "s1"; wtm_at "e1"; wtm_at "s1"
    with_reducible refine s_mid (fun σ' H' => ∃ go : Option Int, σ' = [some (.ref b), some (.int un), some (.int a), some (.int (a - l)), some (oV go)] ∧ Gr a (oD go) ∧ Wf F H' M) ?_ (fun N fin => ?_)
    rotate_left
    · wtm_at "n"
      refine n_take w hb (by omega) (by omega) fun x H1 x0 x1 w => ?_
      wtm_at "n"
      wtm_at "fork"
      · wtm_at "n"
        refine n_length w hb u0 (by omega) fun y H2 y0 y1 w => ?_
        wtm_at "n"
        exact fin _ _ ⟨some (a + y), rfl, .inr ⟨_, rfl, by omega, by omega⟩, w⟩
      · wtm_at "n"
        exact fin _ _ ⟨none, rfl, .inl rfl, w⟩
    rintro σ' H' ⟨go, rfl, hg, w⟩
    wtm_at "n"
    refine n_lweight w hb fun w1 H3 w10 w11 w => ?_
    wtm_at "n"
    refine n_lweight w hb fun w2 H4 w20 w21 w => ?_
    wtm_at "n"
    refine n_newT (ds := [.int a, .int (a - l), oD go, .int w1, .int w2]) w (.cons (.int _) (.cons (.int _) (.cons (.oV go) (.cons (.int _) (.cons (.int _) .nil))))) (by simp) fun t H7 w => ?_
    exact k _ _ a (a - l) (oD go) w1 w2 ⟨by omega, by omega, by omega, hg, w10, w11, w20, w21⟩ a1 w
abbrev s__law_copied : Stmt := top 67
theorem sc__law_copied : FnScope ["_law_strips_here", "_law_high", "_law_stick", "_law_notes"] ["_law_strips_here"] (defScope s__law_copied) := ⟨rfl, rfl, rfl, by decide +kernel, rfl, by decide +kernel, by decide +kernel⟩
def sp__law_copied : Sp := fun vs H Q _ => ∃ F M v, ∃ (xs : List Sp3), vs = [v] ∧ Wf F H M ∧ Rk F M v (.lst (xs.map spD)) ∧ xs.length ≤ 1000 ∧ ∀ p H' (hs : List HS), hs.map (·.2.2) = xs → (hs.map (·.2.1)).Nodup → (∀ h ∈ hs, ∀ ds, (V.ref h.2.1, D.lst ds) ∉ F) → Wf (exS hs ++ F) H' (.ml p (hsR hs) :: M) → Q (.ref p) H'
theorem n_lcopied {F : List (V × D)} {H : Hp} {M : List ME} {v : V} {xs : List Sp3} {Q : VK} {E : XK} (w : Wf F H M) (hv : Rk F M v (.lst (xs.map spD))) (hl : xs.length ≤ 1000) (q : ∀ p H', Wf F H' (.ml p (xs.map spD) :: M) → Q (.ref p) H') : sp__law_copied ([v] ++ []) H Q E :=
  ⟨F, M, v, xs, rfl, w, hv, hl, fun p H' hs e _ _ w' => q p H' (by
    have w2 := w'.deepM fun f hf => List.mem_append_left _ hf
    have e2 : hsD hs = xs.map spD := by rw [← e, List.map_map]; rfl
    rw [e2] at w2
    exact w2.sub (fun f hf => .mem (List.mem_append_right _ hf)) (.refl _))⟩
theorem n_lcopiedX {F : List (V × D)} {H : Hp} {M : List ME} {v : V} {xs : List Sp3} {Q : VK} {E : XK} (w : Wf F H M) (hv : Rk F M v (.lst (xs.map spD))) (hl : xs.length ≤ 1000) (q : ∀ p H' (hs : List HS), hs.map (·.2.2) = xs → (∀ h ∈ hs, ∀ ds, (V.ref h.2.1, D.lst ds) ∉ F) → Wf (exS hs ++ F) H' (.ml p (hsR hs) :: M) → Q (.ref p) H') : sp__law_copied ([v] ++ []) H Q E := ⟨F, M, v, xs, rfl, w, hv, hl, fun p H' hs e _ => q p H' hs e⟩
theorem n_lcopiedN {F : List (V × D)} {H : Hp} {M : List ME} {v : V} {xs : List Sp3} {Q : VK} {E : XK} (w : Wf F H M) (hv : Rk F M v (.lst (xs.map spD))) (hl : xs.length ≤ 1000) (q : ∀ p H' (hs : List HS), hs.map (·.2.2) = xs → (hs.map (·.2.1)).Nodup → (∀ h ∈ hs, ∀ ds, (V.ref h.2.1, D.lst ds) ∉ F) → Wf (exS hs ++ F) H' (.ml p (hsR hs) :: M) → Q (.ref p) H') : sp__law_copied ([v] ++ []) H Q E := ⟨F, M, v, xs, rfl, w, hv, hl, q⟩

theorem ok__law_copied {f : Addr} {fd : FuncData} (F : Fun K "_law_copied" "_law_copied" s__law_copied f fd) (B : Bn mg)  : FnOk P wd K mg base CX0 1 f fd ["_law_strips_here"] sp__law_copied := by
  refine F.ok sc__law_copied (fun vs H Q E h => ?_) (fun cdv A outer s H vs Q E hr h => ?_)
  · obtain ⟨F, M, v, xs, rfl, w, hv, hl, k⟩ := h
    all_goals rfl
  · obtain ⟨F, M, v, xs, rfl, w, hv, hl, k⟩ := h
    refine ⟨_, (pss_one (ps_ret (pe_lc (own := [("_law_high", 1), ("_law_stick", 2), ("_law_notes", 3)]) (by rfl) sc__law_copied.nd (kpi_list (K := K) rfl (pv 0)) (blkOk_by (own := [("_law_high", 1), ("_law_stick", 2), ("_law_notes", 3)]) (N := ["_law_strips_here", "_law_high", "_law_stick", "_law_notes"]) (sc := defScope s__law_copied) (by decide +kernel)) (fun _ _ _ _ _ => (kpg_tup (K := K) (n := 3) rfl rfl (pgs_cons (pg_name (i := 1) sc__law_copied.nd rfl (Or.inl rfl)) (pgs_cons (pg_name (i := 2) sc__law_copied.nd rfl (Or.inl rfl)) (pgs_cons (pg_name (i := 3) sc__law_copied.nd rfl (Or.inl rfl)) pgs_nil))))) (fun _ _ _ _ _ => pts_nil) (fun _ _ _ _ _ => (pe_tup (pa_cons (pv 1) (pa_cons (pv 2) (pa_cons (pe_callTy (k_list (K := K) rfl) (by rfl) B.list_ (by decide +kernel) (pa_cons (pv 3) pa_nil)) pa_nil)))))))), ?_⟩
    try dsimp only [cxOf, Cx.nox, Cx.wish, Cx.blk]
    wtm_at "n"
    have rk : ∀ (L : List (V × D)), Rk (L ++ F) M v (.lst (xs.map spD)) := fun L => by
      induction L with
      | nil => exact hv
      | cons f L ih => exact ih.moreF
    refine n_lcKL w (fun i acc F' M' => M' = M ∧ ∃ hs : List HS, hs.map (·.2.2) = xs.take i ∧ (hs.map (·.2.1)).Nodup ∧ (∀ h ∈ hs, ∀ ds, (V.ref h.2.1, D.lst ds) ∉ F) ∧ acc = hsR hs ∧ F' = exS hs.reverse ++ F) (fun i acc F' M' ⟨e, hs, _, _, _, _, e2⟩ => by subst e; subst e2; exact rk _) ⟨rfl, [], rfl, List.nodup_nil, fun _ h => (nomatch h), rfl, rfl⟩ (by rw [List.length_map]; omega) ?_ ?_
    · rintro i d y Dp acc H0 F' M' Ap Sk hd ⟨rfl, hs, e1, hnd, hfr, rfl, rfl⟩ w kA kS
      obtain ⟨x, hx, rfl⟩ := map_get hd
      refine n_gtup3 w (by ktf_call "rk") fun a b c w => ?_
      obtain ⟨rfl, w1⟩ := w.eq0
      wtm_at "n"
      refine ⟨rfl, ?_⟩
      repeat (first | tbr_iter "f1" | wtm_at "e1" | wtm_at "s1" | wtm_at "b1")
      refine n_listN w (.mem (List.mem_cons_of_mem _ (List.mem_cons_of_mem _ List.mem_cons_self))) fun pl H3 hpl w3 => ?_
      have hn : ∀ ds, (V.ref pl, D.lst ds) ∉ F := fun ds hm => w.fresh (ds := ds) hpl (by simp [hm])
      have hn2 : ∀ h ∈ hs, h.2.1 ≠ pl := fun h hh e => w.fresh (ds := h.2.2.ns.map D.int) hpl (by have := (exS_mem (List.mem_reverse.mpr hh)).2; rw [e] at this; simp [this])
      have w := w3.frzL .here
      repeat (first | tbr_iter "f1" | wtm_at "e1" | wtm_at "s1" | wtm_at "b1")
      refine n_newT (ds := [.int x.h, oD x.st, .ref pl]) w (.cons (.int _) (.cons (by ktf_call "kn") (.cons (.ref _) .nil))) (by simp) fun t H4 w => ?_
      refine kA _ (.ref t) _ (exS (hs ++ [(t, pl, x)]).reverse ++ F) M' (w.sub ?_ (.refl _)) ⟨rfl, hs ++ [(t, pl, x)], by rw [List.map_append, e1, take_snoc hx]; rfl, by
        rw [List.map_append]
        refine List.nodup_append.mpr ⟨hnd, by simp, fun y hy z hz e => ?_⟩
        obtain ⟨h, hh, rfl⟩ := List.mem_map.mp hy
        simp only [List.map_cons, List.map_nil, List.mem_singleton] at hz
        exact hn2 h hh (e.trans hz), fun h hh ds => ?_, by simp [hsR], rfl⟩
      · rw [List.reverse_append]
        refine KS.cons (.ref t) (KS.cons (.mem List.mem_cons_self) (KS.cons (.mem (by simp)) fun f hf => .mem ?_))
        simp only [List.mem_cons]
        exact .inr (.inr (.inr (.inr (.inr (.inr hf)))))
      · rcases List.mem_append.mp hh with hh | hh
        · exact hfr h hh ds
        · rw [List.mem_singleton.mp hh]
          exact hn ds
    rintro p es H' F' M' ⟨rfl, hs, e1, hnd, hfr, rfl, rfl⟩ w
    rw [List.length_map, List.take_length] at e1
    refine k p _ hs e1 hnd hfr (w.sub (fun f hf => .mem ?_) (.refl _))
    rcases List.mem_append.mp hf with hf | hf
    · obtain ⟨h, h1, h2⟩ := exS_inv hf
      refine List.mem_append_left _ ?_
      have h3 := exS_mem (List.mem_reverse.mpr h1)
      rcases h2 with rfl | rfl
      · exact h3.1
      · exact h3.2
    · exact List.mem_append_right _ hf
abbrev s__law_foot : Stmt := top 68
theorem sc__law_foot : FnScope ["_law_strips_here", "_law_rule", "_law_many", "_law_strip_here"] ["_law_strips_here", "_law_rule"] (defScope s__law_foot) := ⟨rfl, rfl, rfl, by decide +kernel, rfl, by decide +kernel, by decide +kernel⟩
def sp__law_foot : Sp := fun vs H Q _ => ∃ F M v, ∃ (xs : List Sp3) (rule : Int), vs = [v, .int rule] ∧ Wf F H M ∧ Rk F M v (.lst (xs.map spD)) ∧ xs.length ≤ 1000 ∧ ∀ H', Wf F H' M → Q (.int (footI xs rule)) H'
theorem n_lfoot {F : List (V × D)} {H : Hp} {M : List ME} {v : V} {xs : List Sp3} {rule : Int} {Q : VK} {E : XK} (w : Wf F H M) (hv : Rk F M v (.lst (xs.map spD))) (hl : xs.length ≤ 1000) (q : ∀ H', Wf F H' M → Q (.int (footI xs rule)) H') : sp__law_foot ([v, .int rule] ++ []) H Q E := ⟨F, M, v, xs, rule, rfl, w, hv, hl, q⟩

theorem ok__law_foot {f : Addr} {fd : FuncData} (F : Fun K "_law_foot" "_law_foot" s__law_foot f fd) (B : Bn mg)  : FnOk P wd K mg base CX0 1 f fd ["_law_strips_here", "_law_rule"] sp__law_foot := by
  refine F.ok sc__law_foot (fun vs H Q E h => ?_) (fun cdv A outer s H vs Q E hr h => ?_)
  · obtain ⟨F, M, v, xs, rule, rfl, w, hv, hl, k⟩ := h
    all_goals rfl
  · obtain ⟨F, M, v, xs, rule, rfl, w, hv, hl, k⟩ := h
    refine ⟨_, (pss_cons (ps_set (i := 2) sc__law_foot.nd rfl (Or.inl rfl) (pe_callB (k_sum (K := K) rfl rfl) (by rfl) B.sum_ (by decide +kernel) (pa_cons (pe_lc (own := [("_law_strip_here", 3)]) (by rfl) sc__law_foot.nd (kpi_list (K := K) rfl (pv 0)) (blkOk_by (own := [("_law_strip_here", 3)]) (N := ["_law_strips_here", "_law_rule", "_law_many", "_law_strip_here"]) (sc := defScope s__law_foot) (by decide +kernel)) (fun _ _ _ _ _ => (pg_name (i := 3) sc__law_foot.nd rfl (Or.inl rfl))) (fun _ _ _ _ _ => pts_nil) (fun _ _ _ _ _ => (pe_callB (k_len (K := K) rfl) (by rfl) B.len_ (by decide +kernel) (pa_cons (pe_ix (k_ix (K := K) rfl) (pv 3) pe_int (fun _ _ => rfl)) pa_nil)))) pa_nil)))
      (pss_cons (ps_if (pt_cmpR (k_eq (K := K) rfl hr.units) (pv 2) pe_int (nomark _)) (pss_one (ps_ret pe_int)) pss_nil)
      (pss_one (ps_ret (pe_op (k_add (K := K) rfl) (pv 1) (pe_callB (k_sum (K := K) rfl rfl) (by rfl) B.sum_ (by decide +kernel) (pa_cons (pe_lc (own := [("_law_strip_here", 3)]) (by rfl) sc__law_foot.nd (kpi_list (K := K) rfl (pv 0)) (blkOk_by (own := [("_law_strip_here", 3)]) (N := ["_law_strips_here", "_law_rule", "_law_many", "_law_strip_here"]) (sc := defScope s__law_foot) (by decide +kernel)) (fun _ _ _ _ _ => (pg_name (i := 3) sc__law_foot.nd rfl (Or.inl rfl))) (fun _ _ _ _ _ => pts_nil) (fun _ _ _ _ _ => (pe_callB (k_sum (K := K) rfl rfl) (by rfl) B.sum_ (by decide +kernel) (pa_cons (pe_ix (k_ix (K := K) rfl) (pv 3) pe_int (fun _ _ => rfl)) pa_nil)))) pa_nil))))))), ?_⟩
    try dsimp only [cxOf, Cx.nox, Cx.wish, Cx.blk]
    wtm_at "n"
    refine n_lcMapI (f := fun x : Sp3 => (x.ns.length : Int)) w hv (by omega) (fun v => rfl) ?_ ?_
    · intro x y D acc H0 C _ w kc
      wtm_at "n"
      rw [List.length_map]
      exact kc _ (by wtm_at "wf")
    intro p H1 w
    wtm_at "n"
    refine n_sum w (by ktf_call "rk") ?_
    wtm_at "n"
    wtm_at "fork"
    · rename_i e
      wtm_at "n"
      rw [show footI xs rule = 0 from if_pos e] at k
      exact k _ (by wtm_at "wf")
    rename_i e
    rw [show footI xs rule = rule + (xs.map fun x => x.ns.sum).sum from if_neg e] at k
    wtm_at "n"
    refine n_lcMapI (f := fun x : Sp3 => x.ns.sum) w (by ktf_call "rk") (by omega) (fun v => rfl) ?_ ?_
    · intro x y D acc H0 C _ w kc
      wtm_at "n"
      refine n_sum (by assumption) (by ktf_call "rk") ?_
      exact kc _ (by wtm_at "wf")
    intro p2 H2 w
    wtm_at "n"
    refine n_sum w (by ktf_call "rk") ?_
    wtm_at "n"
    exact k _ (by wtm_at "wf")
abbrev s__law_solid : Stmt := top 69
theorem sc__law_solid : FnScope ["_law_strips_here", "_law_rule", "_law_strip_here"] ["_law_strips_here", "_law_rule"] (defScope s__law_solid) := ⟨rfl, rfl, rfl, by decide +kernel, rfl, by decide +kernel, by decide +kernel⟩
def solI (xs : List Sp3) (rule : Int) : Int := (xs.map fun x => x.h).sum + footI xs rule
theorem sol_bd {xs : List Sp3} {rule : Int} (h : ∀ x ∈ xs, SpOk x) (hl : xs.length ≤ 120) (r0 : 0 ≤ rule) (r1 : rule ≤ 1000000) : 0 ≤ solI xs rule ∧ solI xs rule ≤ 200000000000000 := by
  have h1 := sum_bd (l := xs.map fun x => x.h) (m := 1000000000000) fun y hy => by
    obtain ⟨x, hx, rfl⟩ := List.mem_map.mp hy
    exact ⟨(h x hx).h0, (h x hx).h1⟩
  rw [List.length_map] at h1
  have h2 := foot_bd h hl r0 r1
  unfold solI
  omega
def sp__law_solid : Sp := fun vs H Q _ => ∃ F M v, ∃ (xs : List Sp3) (rule : Int), vs = [v, .int rule] ∧ Wf F H M ∧ Rk F M v (.lst (xs.map spD)) ∧ xs.length ≤ 1000 ∧ ∀ H', Wf F H' M → Q (.int (solI xs rule)) H'
theorem n_lsolid {F : List (V × D)} {H : Hp} {M : List ME} {v : V} {xs : List Sp3} {rule : Int} {Q : VK} {E : XK} (w : Wf F H M) (hv : Rk F M v (.lst (xs.map spD))) (hl : xs.length ≤ 1000) (q : ∀ H', Wf F H' M → Q (.int (solI xs rule)) H') : sp__law_solid ([v, .int rule] ++ []) H Q E := ⟨F, M, v, xs, rule, rfl, w, hv, hl, q⟩

theorem ok__law_solid {f : Addr} {fd : FuncData} (F : Fun K "_law_solid" "_law_solid" s__law_solid f fd) (B : Bn mg) (c__law_foot : Cal P wd K mg base "_law_foot" 1 ["_law_strips_here", "_law_rule"] [] sp__law_foot)  : FnOk P wd K mg base CX0 2 f fd ["_law_strips_here", "_law_rule"] sp__law_solid := by
  refine F.ok sc__law_solid (fun vs H Q E h => ?_) (fun cdv A outer s H vs Q E hr h => ?_)
  · obtain ⟨F, M, v, xs, rule, rfl, w, hv, hl, k⟩ := h
    all_goals rfl
  · obtain ⟨F, M, v, xs, rule, rfl, w, hv, hl, k⟩ := h
    refine ⟨_, (pss_one (ps_ret (pe_op (k_add (K := K) rfl) (pe_callB (k_sum (K := K) rfl rfl) (by rfl) B.sum_ (by decide +kernel) (pa_cons (pe_lc (own := [("_law_strip_here", 2)]) (by rfl) sc__law_solid.nd (kpi_list (K := K) rfl (pv 0)) (blkOk_by (own := [("_law_strip_here", 2)]) (N := ["_law_strips_here", "_law_rule", "_law_strip_here"]) (sc := defScope s__law_solid) (by decide +kernel)) (fun _ _ _ _ _ => (pg_name (i := 2) sc__law_solid.nd rfl (Or.inl rfl))) (fun _ _ _ _ _ => pts_nil) (fun _ _ _ _ _ => (pe_ix (k_ix (K := K) rfl) (pv 2) pe_int (fun _ _ => rfl)))) pa_nil)) (pe_cal c__law_foot (hr.mono (by decide)) (by rfl) (pa_cons (pv 0) (pa_cons (pv 1) pa_nil)))))), ?_⟩
    try dsimp only [cxOf, Cx.nox, Cx.wish, Cx.blk]
    wtm_at "n"
    refine n_lcMapI (f := fun x : Sp3 => x.h) w hv (by omega) (fun v => rfl) ?_ ?_
    · intro x y D acc H0 C _ w kc
      wtm_at "n"
      exact kc _ (by wtm_at "wf")
    intro p H1 w
    wtm_at "n"
    refine n_sum w (by ktf_call "rk") ?_
    wtm_at "n"
    refine n_lfoot w (by ktf_call "rk") hl fun H2 w => ?_
    wtm_at "n"
    exact k _ (by wtm_at "wf")
abbrev s__law_room : Stmt := top 70
theorem sc__law_room : FnScope ["_law_bag_here", "_law_strips_here", "_law_feather_here", "_law_rule", "_law_unit_here", "_law_begin", "_law_some", "_law_size", "_law_near"] ["_law_bag_here", "_law_strips_here", "_law_feather_here", "_law_rule", "_law_unit_here"] (defScope s__law_room) := ⟨rfl, rfl, rfl, by decide +kernel, rfl, by decide +kernel, by decide +kernel⟩
def sp__law_room : Sp := fun vs H Q _ => ∃ F M bb v u, ∃ (xs : List Sp3) (b l : Int) (g : D) (w s rule un : Int), vs = [.ref bb, v, u, .int rule, .int un] ∧ Wf F H M ∧ .bag bb ∈ M ∧ Rk F M v (.lst (xs.map spD)) ∧ (∀ x ∈ xs, SpOk x) ∧ xs.length ≤ 120 ∧ Rk F M u (rowD b l g w s) ∧ PartOk b l g w s ∧ 0 ≤ rule ∧ rule ≤ 1000000 ∧ 0 ≤ un ∧ un ≤ 1000000000000 ∧ ∀ r H', 0 ≤ r → r ≤ 1000000000000 → Wf F H' M → Q (.int r) H'
theorem n_lroomS {F : List (V × D)} {H : Hp} {M : List ME} {bb : Addr} {v u : V} {xs : List Sp3} {b l w s rule un : Int} {g : D} {Q : VK} {E : XK} (ww : Wf F H M) (hb : .bag bb ∈ M) (hv : Rk F M v (.lst (xs.map spD))) (hx : ∀ x ∈ xs, SpOk x) (hl : xs.length ≤ 120) (hu : Rk F M u (rowD b l g w s)) (ok : PartOk b l g w s) (u0 : 0 ≤ rule) (u1 : rule ≤ 1000000) (n0 : 0 ≤ un) (n1 : un ≤ 1000000000000) (q : ∀ r H', 0 ≤ r → r ≤ 1000000000000 → Wf F H' M → Q (.int r) H') : sp__law_room ([.ref bb, v, u, .int rule, .int un] ++ []) H Q E := ⟨F, M, bb, v, u, xs, b, l, g, w, s, rule, un, rfl, ww, hb, hv, hx, hl, hu, ok, u0, u1, n0, n1, q⟩
theorem s_midN2 {t : TS} {G : Ends} {σ : L2.St} {H : Hp} (Mid : L2.St → Hp → Prop) (k : ∀ σ H, Mid σ H → G.nx σ H) (h : ∀ N : L2.St → Hp → Prop, (∀ σ' H', Mid σ' H' → N σ' H') → t { G with nx := N } σ H) : t G σ H := h _ k
local macro_rules | `(tactic| wtm_at "sq2") => `(tactic| repeat (first | ktr_call "x1" 0 | k_search "n1" | wtm_at "e1" | wtm_at "b1" | with_reducible refine s_seq ?_ | with_reducible refine s_next ?_))
theorem cut_spD (xs : List Sp3) (lo hi : Option Int) : ∃ ys : List Sp3, cutD (xs.map spD) lo hi = ys.map spD ∧ (∀ y ∈ ys, y ∈ xs) ∧ ys.length ≤ xs.length := by
  refine ⟨(xs.drop (HT.sIx xs.length 0 lo)).take (HT.sIx xs.length xs.length hi - HT.sIx xs.length 0 lo), ?_, fun y hy => List.mem_of_mem_drop (List.mem_of_mem_take hy), ?_⟩
  · unfold cutD
    rw [List.length_map, List.map_take, List.map_drop]
  · rw [List.length_take, List.length_drop]
    omega
theorem sol_bdR {xs : List Sp3} {rule : Int} (hx : ∀ x ∈ xs, SpOk x) (hl : xs.length ≤ 120) (u0 : 0 ≤ rule) (u1 : rule ≤ 1000000) : 0 ≤ solI xs rule ∧ solI xs rule ≤ 1000000000000000 := by
  have h1 := sum_bd (l := xs.map (·.h)) (m := 1000000000000) fun y hy => by
    obtain ⟨x, hx', rfl⟩ := List.mem_map.mp hy
    exact ⟨(hx x hx').h0, (hx x hx').h1⟩
  have h2 := foot_bd hx hl u0 u1
  rw [List.length_map] at h1
  unfold solI
  omega

theorem ok__law_room {f : Addr} {fd : FuncData} (F : Fun K "_law_room" "_law_room" s__law_room f fd) (B : Bn mg) (c__law_take : Cal P wd K mg base "_law_take" 1 ["_law_bag_here", "_law_many"] [] sp__law_take) (c__law_length : Cal P wd K mg base "_law_length" 2 ["_law_bag_here", "_law_most"] [] sp__law_length) (c__law_solid : Cal P wd K mg base "_law_solid" 2 ["_law_strips_here", "_law_rule"] [] sp__law_solid)  : FnOk P wd K mg base CX0 3 f fd ["_law_bag_here", "_law_strips_here", "_law_feather_here", "_law_rule", "_law_unit_here"] sp__law_room := by
  refine F.ok sc__law_room (fun vs H Q E h => ?_) (fun cdv A outer s H vs Q E hr h => ?_)
  · obtain ⟨F, M, bb, v, u, xs, b, l, g, w, s, rule, un, rfl, ww, hb, hv, hx, hl, hu, ok, u0, u1, n0, n1, k⟩ := h
    all_goals rfl
  · obtain ⟨F, M, bb, v, u, xs, b, l, g, w, s, rule, un, rfl, ww, hb, hv, hx, hl, hu, ok, u0, u1, n0, n1, k⟩ := h
    refine ⟨_, (pss_cons (ps_if (pt_cmpR (k_eq (K := K) rfl hr.units) (pe_cal c__law_take (hr.mono (by decide)) (by rfl) (pa_cons (pv 0) (pa_cons pe_int pa_nil))) pe_int (nomark _)) (pss_one (ps_ret (pe_cal c__law_length (hr.mono (by decide)) (by rfl) (pa_cons (pv 0) (pa_cons (pv 4) pa_nil))))) pss_nil)
      (pss_cons (ps_set (i := 5) sc__law_room.nd rfl (Or.inl rfl) (pe_cal c__law_take (hr.mono (by decide)) (by rfl) (pa_cons (pv 0) (pa_cons (pe_op (k_add (K := K) rfl) (pe_callB (k_len (K := K) rfl) (by rfl) B.len_ (by decide +kernel) (pa_cons (pv 1) pa_nil)) pe_int) pa_nil))))
      (pss_cons (ps_set (i := 6) sc__law_room.nd rfl (Or.inl rfl) (pe_slice (k_sl (K := K) rfl) (pv 1) (po_some (pv 5)) (po_some (pe_op (k_add (K := K) rfl) (pe_op (k_add (K := K) rfl) (pv 5) pe_int) (pe_cal c__law_take (hr.mono (by decide)) (by rfl) (pa_cons (pv 0) (pa_cons pe_int pa_nil)))))))
      (pss_cons (ps_set (i := 7) sc__law_room.nd rfl (Or.inl rfl) (pe_ix (k_ix (K := K) rfl) (pv 2) (pe_cal c__law_take (hr.mono (by decide)) (by rfl) (pa_cons (pv 0) (pa_cons pe_int pa_nil))) (fun _ _ => rfl)))
      (pss_cons (ps_set (i := 8) sc__law_room.nd rfl (Or.inl rfl) (pe_op (k_add (K := K) rfl) (pe_cal c__law_solid (hr.mono (by decide)) (by rfl) (pa_cons (pv 6) (pa_cons (pv 3) pa_nil))) (pe_op uo_mul (pe_callB (k_max (K := K) rfl rfl) (by rfl) B.max_ (by decide +kernel) (pa_cons (pe_op op_sub (pe_callB (k_len (K := K) rfl) (by rfl) B.len_ (by decide +kernel) (pa_cons (pv 6) pa_nil)) pe_int) (pa_cons pe_int pa_nil))) (pv 7))))
      (pss_cons (ps_if (pt_cmpR (k_eq (K := K) rfl hr.units) (pe_cal c__law_take (hr.mono (by decide)) (by rfl) (pa_cons (pv 0) (pa_cons pe_int pa_nil))) pe_int (nomark _)) (pss_one (ps_set (i := 8) sc__law_room.nd rfl (Or.inl rfl) (pe_op (k_add (K := K) rfl) (pv 8) (pe_cal c__law_length (hr.mono (by decide)) (by rfl) (pa_cons (pv 0) (pa_cons (pe_op op_fdivW (pv 4) pe_int) pa_nil)))))) pss_nil)
      (pss_cons (ps_if (pt_cmpR (k_eq (K := K) rfl hr.units) (pe_cal c__law_take (hr.mono (by decide)) (by rfl) (pa_cons (pv 0) (pa_cons pe_int pa_nil))) pe_int (nomark _)) (pss_one (ps_set (i := 8) sc__law_room.nd rfl (Or.inl rfl) (pe_op op_sub (pv 8) (pe_cal c__law_length (hr.mono (by decide)) (by rfl) (pa_cons (pv 0) (pa_cons (pe_op op_fdivW (pv 4) pe_int) pa_nil)))))) pss_nil)
      (pss_one (ps_ret (pe_callB (k_min (K := K) rfl rfl) (by rfl) B.min_ (by decide +kernel) (pa_cons (pe_callB (k_max (K := K) rfl rfl) (by rfl) B.max_ (by decide +kernel) (pa_cons (pv 8) (pa_cons pe_int pa_nil))) (pa_cons pe_int pa_nil)))))))))))), ?_⟩
    try dsimp only [cxOf, Cx.nox, Cx.wish, Cx.blk]
    have hl0 := ok.l0; have hlb := ok.lb; have hbm := ok.bm
    have hu' : Rk F M u (.tup [.int b, .int l, g, .int w, .int s]) := hu
    rw [show L2.start (["_law_bag_here", "_law_strips_here", "_law_feather_here", "_law_rule", "_law_unit_here", "_law_begin", "_law_some", "_law_size", "_law_near"] : List Str) [.ref bb, v, u, .int rule, .int un] = [some (.ref bb), some v, some u, some (.int rule), some (.int un), none, none, none, none] from rfl]
    wtm_at "n"
    refine n_take ww hb (by omega) (by omega) fun c1 H1 c10 c11 ww => ?_
    wtm_at "n"
    wtm_at "fork"
    · wtm_at "n"
      refine n_length ww hb n0 n1 fun r H2 r0 r1 ww => ?_
      wtm_at "n"
      exact k _ _ r0 (by omega) ww
    wtm_at "n"
    rw [List.length_map]
    refine n_take ww hb (by omega) (by omega) fun c2 H2 c20 c21 ww => ?_
    wtm_at "n"
    refine n_take ww hb (by omega) (by omega) fun c3 H3 c30 c31 ww => ?_
    wtm_at "n"
    rename_i ps Hs ws
    obtain ⟨ys, ey, hy, hyl⟩ := cut_spD xs (some c2) (some (c2 + 1 + c3))
    rw [ey] at ws
    clear ww
    refine n_take ws (by ktf_call "mem") (by omega) (by omega) fun c4 H4 c40 c41 ww => ?_
    clear ws
    wtm_at "n"
    have key : ∃ z : Int, (z = b ∨ z = l) ∧ atI [D.int b, D.int l, g, D.int w, D.int s] c4 = some (.int z) := by
      rcases (show c4 = 0 ∨ c4 = 1 by omega) with e | e
      · exact ⟨b, .inl rfl, by rw [e]; rfl⟩
      · exact ⟨l, .inr rfl, by rw [e]; rfl⟩
    obtain ⟨z, hz, ez⟩ := key
    refine n_ixT ww hu'.more ez fun uz ww2 => ?_
    obtain ⟨rfl, ww⟩ := ww2.eq0
    clear ww2
    wtm_at "n"
    refine n_lsolid ww (.ml List.mem_cons_self) (by omega) fun H5 ww => ?_
    have hsb := sol_bdR (xs := ys) (rule := rule) (fun y h => hx y (hy y h)) (by omega) u0 u1
    wtm_at "n"
    rw [List.length_map]
    obtain ⟨m, em⟩ : ∃ m : Int, m = (if (0 : Int) > (ys.length : Int) - 1 then (0 : Int) else (ys.length : Int) - 1) := ⟨_, rfl⟩
    have hm : 0 ≤ m ∧ m ≤ 120 := by rw [em]; split <;> omega
    rw [← em]
    clear em
    refine .inl ⟨m, z, rfl, rfl, Bd.cm (j := 8) (k := 60) (Bd.of 120 (by omega)) (Bd.of 1000000000000 (by omega)), ?_⟩
    wtm_at "sq2"
    simp only [List.set_cons_succ, List.set_cons_zero]
    with_reducible refine s_midN2 (fun σ' H' => ∃ near : Int, σ' = [some (.ref bb), some v, some u, some (.int rule), some (.int un), some (.int c2), some (.ref ps), some (.int z), some (.int near)] ∧ Wf F H' M) ?_ (fun N fin => ?_)
    rotate_left
    · wtm_at "n"
      refine n_take ww (by ktf_call "mem") (by omega) (by omega) fun c5 H6 c50 c51 ww => ?_
      wtm_at "n"
      wtm_at "fork"
      · wtm_at "n"
        refine s_I ⟨by decide, by decide⟩ ?_
        wtm_at "n"
        refine n_length ww (by ktf_call "mem") (by omega) (by omega) fun r H2 r0 r1 ww => ?_
        wtm_at "n"
        exact fin _ _ ⟨_, rfl, by wtm_at "wf"⟩
      · wtm_at "n"
        exact fin _ _ ⟨_, rfl, by wtm_at "wf"⟩
    clear ww
    rintro σ' H' ⟨near, rfl, ww⟩
    with_reducible refine s_mid (fun σ' H' => ∃ near : Int, σ' = [some (.ref bb), some v, some u, some (.int rule), some (.int un), some (.int c2), some (.ref ps), some (.int z), some (.int near)] ∧ Wf F H' M) ?_ (fun N fin => ?_)
    rotate_left
    · wtm_at "n"
      refine n_take ww hb (by omega) (by omega) fun c5 H6 c50 c51 ww => ?_
      wtm_at "n"
      wtm_at "fork"
      · wtm_at "n"
        refine s_I ⟨by decide, by decide⟩ ?_
        wtm_at "n"
        refine n_length ww hb (by omega) (by omega) fun r H2 r0 r1 ww => ?_
        wtm_at "n"
        exact fin _ _ ⟨_, rfl, ww⟩
      · wtm_at "n"
        exact fin _ _ ⟨_, rfl, ww⟩
    clear ww
    rintro σ' H' ⟨near2, rfl, ww⟩
    wtm_at "n"
    exact k _ _ (by split <;> split <;> omega) (by split <;> split <;> omega) ww
abbrev s__law_frame : Stmt := top 71
theorem sc__law_frame : FnScope ["_law_bag_here", "_law_strips_here", "_law_unit_here", "_law_feather_here", "_law_rule", "_law_many", "_law_rooms", "_law_k"] ["_law_bag_here", "_law_strips_here", "_law_unit_here"] (defScope s__law_frame) := ⟨rfl, rfl, rfl, by decide +kernel, rfl, by decide +kernel, by decide +kernel⟩
def sp__law_frame : Sp := fun vs H Q _ => ∃ F M bb v, ∃ (xs : List Sp3) (un : Int), vs = [.ref bb, v, .int un] ∧ Wf F H M ∧ .bag bb ∈ M ∧ Rk F M v (.lst (xs.map spD)) ∧ (∀ x ∈ xs, SpOk x) ∧ xs.length ≤ 120 ∧ 0 ≤ un ∧ un ≤ 1000000000000 ∧ ∀ t H' (r : Row) (rooms : List Int) (rest rule : Int), ROk r → r.b ≤ un / 4 → rooms.length ≤ 24 → (∀ x ∈ rooms, 0 ≤ x ∧ x ≤ 1000000000000) → 0 ≤ rest → rest ≤ 1000000000000 → 0 ≤ rule → rule ≤ 1000000 → Wf ((t, .tup [rowR' r, .lst (rooms.map D.int), .int rest, .int rule]) :: F) H' M → Q t H'
theorem n_lframe {F : List (V × D)} {H : Hp} {M : List ME} {bb : Addr} {v : V} {xs : List Sp3} {un : Int} {Q : VK} {E : XK} (ww : Wf F H M) (hb : .bag bb ∈ M) (hv : Rk F M v (.lst (xs.map spD))) (hx : ∀ x ∈ xs, SpOk x) (hl : xs.length ≤ 120) (n0 : 0 ≤ un) (n1 : un ≤ 1000000000000) (q : ∀ t H' (r : Row) (rooms : List Int) (rest rule : Int), ROk r → r.b ≤ un / 4 → rooms.length ≤ 24 → (∀ x ∈ rooms, 0 ≤ x ∧ x ≤ 1000000000000) → 0 ≤ rest → rest ≤ 1000000000000 → 0 ≤ rule → rule ≤ 1000000 → Wf ((t, .tup [rowR' r, .lst (rooms.map D.int), .int rest, .int rule]) :: F) H' M → Q t H') : sp__law_frame ([.ref bb, v, .int un] ++ []) H Q E := ⟨F, M, bb, v, xs, un, rfl, ww, hb, hv, hx, hl, n0, n1, q⟩

theorem ok__law_frame {f : Addr} {fd : FuncData} (F : Fun K "_law_frame" "_law_frame" s__law_frame f fd) (B : Bn mg) (c__law_part : Cal P wd K mg base "_law_part" 3 ["_law_bag_here", "_law_unit_here"] [] sp__law_part) (c__law_length : Cal P wd K mg base "_law_length" 2 ["_law_bag_here", "_law_most"] [] sp__law_length) (c__law_take : Cal P wd K mg base "_law_take" 1 ["_law_bag_here", "_law_many"] [] sp__law_take) (c__law_room : Cal P wd K mg base "_law_room" 3 ["_law_bag_here", "_law_strips_here", "_law_feather_here", "_law_rule", "_law_unit_here"] [] sp__law_room)  : FnOk P wd K mg base CX0 4 f fd ["_law_bag_here", "_law_strips_here", "_law_unit_here"] sp__law_frame := by
  refine F.ok sc__law_frame (fun vs H Q E h => ?_) (fun cdv A outer s H vs Q E hr h => ?_)
  · obtain ⟨F, M, bb, v, xs, un, rfl, ww, hb, hv, hx, hl, n0, n1, k⟩ := h
    all_goals rfl
  · obtain ⟨F, M, bb, v, xs, un, rfl, ww, hb, hv, hx, hl, n0, n1, k⟩ := h
    refine ⟨_, (pss_cons (ps_set (i := 3) sc__law_frame.nd rfl (Or.inr rfl) (pe_cal c__law_part (hr.mono (by decide)) (by rfl) (pa_cons (pv 0) (pa_cons (pe_op op_fdivW (pv 2) pe_int) pa_nil))))
      (pss_cons (ps_set (i := 4) sc__law_frame.nd rfl (Or.inr rfl) (pe_cal c__law_length (hr.mono (by decide)) (by rfl) (pa_cons (pv 0) (pa_cons (pe_callB (k_min (K := K) rfl rfl) (by rfl) B.min_ (by decide +kernel) (pa_cons (pv 2) (pa_cons pe_int pa_nil))) pa_nil))))
      (pss_cons (ps_set (i := 5) sc__law_frame.nd rfl (Or.inl rfl) (pe_cal c__law_take (hr.mono (by decide)) (by rfl) (pa_cons (pv 0) (pa_cons pe_int pa_nil))))
      (pss_cons (ps_if (pt_cmpR (k_eq (K := K) rfl hr.units) (pe_cal c__law_take (hr.mono (by decide)) (by rfl) (pa_cons (pv 0) (pa_cons pe_int pa_nil))) pe_int (nomark _)) (pss_one (ps_set (i := 5) sc__law_frame.nd rfl (Or.inl rfl) pe_int)) pss_nil)
      (pss_cons (ps_setLc (i := 6) (own := [("_law_k", 7)]) (by rfl) sc__law_frame.nd rfl rfl (sw_true rfl rfl rfl (by decide +kernel)) (pi_range1 (by rfl) B.range_ (pa_cons (pv 5) pa_nil)) (blkOk_by (own := [("_law_k", 7)]) (N := ["_law_bag_here", "_law_strips_here", "_law_unit_here", "_law_feather_here", "_law_rule", "_law_many", "_law_rooms", "_law_k"]) (sc := defScope s__law_frame) (by decide +kernel)) (fun _ _ _ _ _ => (pg_name (i := 7) sc__law_frame.nd rfl (Or.inl rfl))) (fun _ _ _ _ _ => pts_nil) (fun _ _ _ _ _ => (pe_cal c__law_room (hr.mono (by decide)) (by rfl) (pa_cons (pv 0) (pa_cons (pv 1) (pa_cons (pv 3) (pa_cons (pv 4) (pa_cons (pv 2) pa_nil))))))))
      (pss_one (ps_ret (pe_tup (pa_cons (pv 3) (pa_cons (pv 6) (pa_cons (pe_cal c__law_room (hr.mono (by decide)) (by rfl) (pa_cons (pv 0) (pa_cons (pv 1) (pa_cons (pv 3) (pa_cons (pv 4) (pa_cons (pv 2) pa_nil)))))) (pa_cons (pv 4) pa_nil)))))))))))), ?_⟩
    try dsimp only [cxOf, Cx.nox, Cx.wish, Cx.blk]
    rw [show L2.start (["_law_bag_here", "_law_strips_here", "_law_unit_here", "_law_feather_here", "_law_rule", "_law_many", "_law_rooms", "_law_k"] : List Str) [.ref bb, v, .int un] = [some (.ref bb), some v, some (.int un), none, none, none, none, none] from rfl]
    wtm_at "n"
    refine s_I ⟨by decide, by decide⟩ ?_
    wtm_at "n"
    refine n_lptB ww hb (by omega) (by omega) fun u H1 b l g w s pok pun ww => ?_
    obtain ⟨r, rok, er, erb, _⟩ := row_of pok
    rw [er] at ww
    wtm_at "n"
    refine n_length ww hb (by split <;> omega) (by split <;> omega) fun rule H2 u0 u1 ww => ?_
    have u1 : rule ≤ 1000000 := by split at u1 <;> omega
    wtm_at "n"
    refine n_take ww hb (by omega) (by omega) fun c1 H3 c10 c11 ww => ?_
    wtm_at "sq2"
    simp only [List.set_cons_succ, List.set_cons_zero]
    with_reducible refine s_midN2 (fun σ' H' => ∃ c : Int, σ' = [some (.ref bb), some v, some (.int un), some u, some (.int rule), some (.int c), none, none] ∧ 0 ≤ c ∧ c ≤ 24 ∧ Wf ((u, rowR' r) :: F) H' M) ?_ (fun N fin => ?_)
    rotate_left
    · wtm_at "n"
      refine n_take ww hb (by omega) (by omega) fun c5 H6 c50 c51 ww => ?_
      wtm_at "n"
      wtm_at "fork"
      · wtm_at "n"
        exact fin _ _ ⟨_, rfl, by omega, by omega, ww⟩
      · wtm_at "n"
        exact fin _ _ ⟨_, rfl, by omega, by omega, ww⟩
    clear ww c10 c11 c1
    rintro σ' H' ⟨c, rfl, c0, c24, ww⟩
    wtm_at "n"
    refine s_rng1' (by omega) (by omega) ?_
    refine n_lcN ww (fun i acc => ∃ ns : List Int, acc = ns.map D.int ∧ ns.length = i ∧ ∀ x ∈ ns, 0 ≤ x ∧ x ≤ 1000000000000) ⟨[], rfl, rfl, fun _ h => (nomatch h)⟩ (by omega) ?_ ?_
    · rintro i Dp acc H3 Ap Sk hi ⟨ns, rfl, hn, hns⟩ w kA kS
      wtm_at "n"
      refine ⟨rfl, ?_⟩
      wtm_at "n"
      refine n_lroomS w (List.mem_cons_of_mem _ hb) hv.moreF.more hx hl (.mem List.mem_cons_self) rok u0 u1 n0 n1 fun x H4 x0 x1 w => ?_
      wtm_at "n"
      refine kA _ (.int x) _ (w.add (.int x)) ⟨ns ++ [x], by rw [List.map_append]; rfl, by rw [List.length_append, hn]; rfl, fun y hy => ?_⟩
      rcases List.mem_append.mp hy with h | h
      · exact hns y h
      · rw [List.mem_singleton.mp h]
        exact ⟨x0, x1⟩
    rintro pr es H3 ⟨rooms, rfl, hn, hrs⟩ ww
    have ww := ww.frzL .here
    wtm_at "n"
    refine n_lroomS ww hb hv.moreF.moreF hx hl (.mem (List.mem_cons_of_mem _ List.mem_cons_self)) rok u0 u1 n0 n1 fun x H4 x0 x1 ww => ?_
    wtm_at "n"
    rename_i t H5 ww
    exact k _ _ r rooms x rule rok (by rw [erb]; exact pun) (by omega) hrs x0 x1 u0 u1 (by wtm_at "wf1")
abbrev s__law_feather : Stmt := top 73
theorem sc__law_feather : FnScope ["_law_told"] ["_law_told"] (defScope s__law_feather) := ⟨rfl, rfl, rfl, by decide +kernel, rfl, by decide +kernel, by decide +kernel⟩
def sp__law_feather (C : Addr) : Sp := fun vs H Q _ => ∃ F M u b l g w s, vs = [u] ∧ Wf F H M ∧ Rk F M u (rowD b l g w s) ∧ PartOk b l g w s ∧ ∀ r H', Wf ((r, prt C b l g w s) :: F) H' M → Q r H'
theorem n_lfeather {C : Addr} {F : List (V × D)} {H : Hp} {M : List ME} {u : V} {b l w s : Int} {g : D} {Q : VK} {E : XK} (ww : Wf F H M) (hu : Rk F M u (rowD b l g w s)) (ok : PartOk b l g w s) (q : ∀ r H', Wf ((r, prt C b l g w s) :: F) H' M → Q r H') : sp__law_feather C ([u] ++ []) H Q E := ⟨F, M, u, b, l, g, w, s, rfl, ww, hu, ok, q⟩

theorem ok__law_feather {f : Addr} {fd : FuncData} (F : Fun K "_law_feather" "_law_feather" s__law_feather f fd) (B : Bn mg) (m_Part : Mak P wd K mg base "Part" C_Part 3 ["self", "base", "least", "greatest", "grow", "shrink"] [] (sp_Part___init__ C_Part))  : FnOk P wd K mg base CX0 5 f fd ["_law_told"] (sp__law_feather C_Part) := by
  refine F.ok sc__law_feather (fun vs H Q E h => ?_) (fun cdv A outer s H vs Q E hr h => ?_)
  · obtain ⟨F, M, u, b, l, g, w, s, rfl, ww, hu, ok, k⟩ := h
    all_goals rfl
  · obtain ⟨F, M, u, b, l, g, w, s, rfl, ww, hu, ok, k⟩ := h
    refine ⟨_, (pss_one (ps_ret (pe_mk m_Part (hr.mono (by decide)) rfl (pa_cons (pe_ix (k_ix (K := K) rfl) (pv 0) pe_int (fun _ _ => rfl)) (pa_cons (pe_ix (k_ix (K := K) rfl) (pv 0) pe_int (fun _ _ => rfl)) (pa_cons (pe_ix (k_ix (K := K) rfl) (pv 0) pe_int (fun _ _ => rfl)) (pa_cons (pe_ix (k_ix (K := K) rfl) (pv 0) pe_int (fun _ _ => rfl)) (pa_cons (pe_ix (k_ix (K := K) rfl) (pv 0) pe_int (fun _ _ => rfl)) pa_nil)))))))), ?_⟩
    try dsimp only [cxOf, Cx.nox, Cx.wish, Cx.blk]
    wtm_at "n"
    refine n_mkPart (by assumption) (.mem List.mem_cons_self) ok fun r H1 ww => ?_
    exact k r _ (by wtm_at "wf")
abbrev s__law_told_well : Stmt := top 77
theorem sc__law_told_well : FnScope ["_law_found", "_law_many", "_law_at", "_law_row"] ["_law_found", "_law_many"] (defScope s__law_told_well) := ⟨rfl, rfl, rfl, by decide +kernel, rfl, by decide +kernel, by decide +kernel⟩
def sp__law_told_well : Sp := fun vs H Q _ => ∃ F M v p, ∃ (q : Rat) (m : Int) (ns : List Nd), vs = [v, .int m] ∧ Wf F H M ∧ Kn F v (.tup [frq q, .ref p]) ∧ .ml p (ns.map nD) ∈ M ∧ Sz 8000 q ∧ (∀ (i : Nat) (n : Nd), ns[i]? = some n → n.1 = (if i = 0 then 0 else (ns.getD (i - 1) (0, 0)).2) ∧ n.1 < n.2) ∧ (if ns.length = 0 then (0 : Int) else (ns.getD (ns.length - 1) (0, 0)).2) = m ∧ ∀ H', Wf F H' M → Q (.bl true) H'
theorem n_toldwell {F : List (V × D)} {H : Hp} {M : List ME} {v : V} {p : Addr} {q : Rat} {m : Int} {ns : List Nd} {Q : VK} {E : XK} (w : Wf F H M) (hv : Kn F v (.tup [frq q, .ref p])) (hm : .ml p (ns.map nD) ∈ M) (sq : Sz 8000 q) (h1 : ∀ (i : Nat) (n : Nd), ns[i]? = some n → n.1 = (if i = 0 then 0 else (ns.getD (i - 1) (0, 0)).2) ∧ n.1 < n.2) (h2 : (if ns.length = 0 then (0 : Int) else (ns.getD (ns.length - 1) (0, 0)).2) = m) (k : ∀ H', Wf F H' M → Q (.bl true) H') : sp__law_told_well ([v, .int m] ++ []) H Q E := ⟨F, M, v, p, q, m, ns, rfl, w, hv, hm, sq, h1, h2, k⟩

theorem ok__law_told_well {f : Addr} {fd : FuncData} (F : Fun K "_law_told_well" "_law_told_well" s__law_told_well f fd) (B : Bn mg) (c__law_fraction : Cal P wd K mg base "_law_fraction" 2 ["_law_found"] [] sp__law_fraction) (c__law_whole : Cal P wd K mg base "_law_whole" 1 ["_law_found"] [] sp__law_whole)  : FnOk P wd K mg base CX0 3 f fd ["_law_found", "_law_many"] sp__law_told_well := by
  refine F.ok sc__law_told_well (fun vs H Q E h => ?_) (fun cdv A outer s H vs Q E hr h => ?_)
  · obtain ⟨F, M, v, p, q, m, ns, rfl, w, hv, hm, sq, h1, h2, k⟩ := h
    all_goals rfl
  · obtain ⟨F, M, v, p, q, m, ns, rfl, w, hv, hm, sq, h1, h2, k⟩ := h
    refine ⟨_, (pss_cons (ps_if (pw_or (pt_not (pt_val (pe_callB (k_isi (K := K) rfl) (by rfl) B.isinstance_ (by decide +kernel) (pa_cons (pv 0) (pa_cons (pe_bltn (v := .ty "tuple") (by rfl) B.tuple_ (by decide +kernel) rfl) pa_nil))))) (pw_or (pt_cmpR (k_ne (K := K) rfl hr.units) (pe_callB (k_len (K := K) rfl) (by rfl) B.len_ (by decide +kernel) (pa_cons (pv 0) pa_nil)) pe_int (nomark _)) (pw_or1 (pt_not (pt_val (pe_cal c__law_fraction (hr.mono (by decide)) (by rfl) (pa_cons (pe_ix (k_ix (K := K) rfl) (pv 0) pe_int (fun _ _ => rfl)) pa_nil))))))).pt (pss_one (ps_ret pe_bl)) pss_nil)
      (pss_cons (ps_if (pt_not (pt_val (pe_callB (k_isi (K := K) rfl) (by rfl) B.isinstance_ (by decide +kernel) (pa_cons (pe_ix (k_ix (K := K) rfl) (pv 0) pe_int (fun _ _ => rfl)) (pa_cons (pe_bltn (v := .ty "list") (by rfl) B.list_ (by decide +kernel) rfl) pa_nil))))) (pss_one (ps_ret pe_bl)) pss_nil)
      (pss_cons (ps_set (i := 2) sc__law_told_well.nd rfl (Or.inl rfl) pe_int)
      (pss_cons (ps_for PassesOwn.never rfl (kpi_list (K := K) rfl (pe_ix (k_ix (K := K) rfl) (pv 0) pe_int (fun _ _ => rfl))) (pg_name (i := 3) sc__law_told_well.nd rfl (Or.inl rfl)) (pss_cons (ps_if (pw_or (pt_not (pt_val (pe_callB (k_isi (K := K) rfl) (by rfl) B.isinstance_ (by decide +kernel) (pa_cons (pv 3) (pa_cons (pe_bltn (v := .ty "tuple") (by rfl) B.tuple_ (by decide +kernel) rfl) pa_nil))))) (pw_or (pt_cmpR (k_ne (K := K) rfl hr.units) (pe_callB (k_len (K := K) rfl) (by rfl) B.len_ (by decide +kernel) (pa_cons (pv 3) pa_nil)) pe_int (nomark _)) (pw_or (pt_not (pt_val (pe_cal c__law_whole (hr.mono (by decide)) (by rfl) (pa_cons (pe_ix (k_ix (K := K) rfl) (pv 3) pe_int (fun _ _ => rfl)) pa_nil)))) (pw_or1 (pt_not (pt_val (pe_cal c__law_whole (hr.mono (by decide)) (by rfl) (pa_cons (pe_ix (k_ix (K := K) rfl) (pv 3) pe_int (fun _ _ => rfl)) pa_nil)))))))).pt (pss_one (ps_ret pe_bl)) pss_nil)
      (pss_cons (ps_if (pw_or (pt_cmpR (k_ne (K := K) rfl hr.units) (pe_ix (k_ix (K := K) rfl) (pv 3) pe_int (fun _ _ => rfl)) (pv 2) (nomark _)) (pw_or1 (pt_cmpR op_le (pe_ix (k_ix (K := K) rfl) (pv 3) pe_int (fun _ _ => rfl)) (pv 2) (nomark _)))).pt (pss_one (ps_ret pe_bl)) pss_nil)
      (pss_one (ps_set (i := 2) sc__law_told_well.nd rfl (Or.inl rfl) (pe_ix (k_ix (K := K) rfl) (pv 3) pe_int (fun _ _ => rfl)))))))
      (pss_one (ps_ret (pe_cmpR (k_eq (K := K) rfl hr.units) (pv 2) (pv 1) (nomark _)))))))), ?_⟩
    try dsimp only [cxOf, Cx.nox, Cx.wish, Cx.blk]
    have hv' : Rk F M v (.tup [frq q, .ref p]) := Rk.of hv fun q => by rcases q with ⟨n, e⟩ | ⟨n, e⟩ <;> cases e
    wtm_at "n"
    rename_i u0 w0
    refine n_lfrac w0 (.mem List.mem_cons_self) sq fun H1 w1 => ?_
    have w : Wf F H1 M := w1.tail
    clear w0 w1
    wtm_at "n"
    refine n_forL w (fun i σ' F' M' => ∃ x3, σ' = [some v, some (.int m), some (.int (if i = 0 then 0 else (ns.getD (i - 1) (0, 0)).2)), x3] ∧ F = F' ∧ M = M') (by rintro i σ' F' M' ⟨_, rfl, rfl, rfl⟩; exact .ml hm) ⟨_, rfl, rfl, rfl⟩ ?_ ?_
    · rintro i d y σ' H2 F' M' hd ⟨x3, rfl, rfl, rfl⟩ w
      obtain ⟨n, hn, rfl⟩ := map_get hd
      obtain ⟨a1, a2⟩ := h1 i n hn
      have hg : ns.getD i (0, 0) = n := by rw [List.getD_eq_getElem?_getD, hn]; rfl
      have hy : Rk ((y, nD n) :: F) M y (.tup [.int n.1, .int n.2]) := .mem List.mem_cons_self
      rw [← a1]
      wtm_at "n"
      refine s_iteDn (by omega) ?_
      wtm_at "n"
      exact ⟨_, _, ⟨some y, by rw [if_neg (by omega), Nat.add_sub_cancel, hg]; rfl, rfl, rfl⟩, by wtm_at "wf"⟩
    rintro σ' H2 F' M' ⟨x3, rfl, rfl, rfl⟩ w
    rw [List.length_map, h2]
    wtm_at "n"
    rw [decide_eq_true rfl]
    exact k _ w
/-! ### lines as columns; ways as rows of places -/
def lnX (ws : List Int) : List Sp3 := ws.map fun z => ⟨z, some 0, []⟩
theorem lnX_len (ws : List Int) : (lnX ws).length = ws.length := List.length_map _
theorem lnX_so (ws : List Int) (rule : Int) (b i : Nat) : clSo (lnX ws) rule b i = ((ws.drop b).take (i + 1)).sum := by
  unfold clSo lnX
  rw [← List.map_drop, ← List.map_take]
  have h1 : ∀ l : List Int, ((l.map fun z => (⟨z, some 0, []⟩ : Sp3)).map (·.h)) = l := fun l => by rw [List.map_map]; exact List.map_id _
  have h2 : ∀ l : List Int, footI (l.map fun z => (⟨z, some 0, []⟩ : Sp3)) rule = 0 := fun l => by
    unfold footI
    rw [if_pos]
    rw [List.map_map]
    induction l with
    | nil => rfl
    | cons a l ih => rw [List.map_cons, List.sum_cons, ih]; rfl
  rw [h1, h2, Int.add_zero]
theorem lnX_get (ws : List Int) {i : Nat} (h : i < ws.length) : (lnX ws).getD i sp0 = ⟨ws.getD i 0, some 0, []⟩ := by
  unfold lnX
  rw [List.getD_eq_getElem?_getD, List.getElem?_map, List.getElem?_eq_getElem h, List.getD_eq_getElem?_getD, List.getElem?_eq_getElem h]
  rfl
theorem lnX_stk (ws : List Int) (e : Nat) : stkI (lnX ws) e = 0 := by
  unfold stkI
  split
  · rename_i h
    rw [lnX_len] at h
    rw [lnX_get ws (by omega)]
    rfl
  · rfl
/-- no fee, or one of nought -/
def Fee0 (fe : Fee) : Prop := ∀ s m r, feeI fe s m r = 0
theorem lnX_C {ws : List Int} {r : Row} {rule room : Int} {fe : Fee} (h : Fee0 fe) (b i : Nat) (al : Bool) : clC (lnX ws) r rule room fe b i al = cstO r ((ws.drop b).take (i + 1)).sum i room (b + i + 1 == ws.length) al := by
  unfold clC
  rw [lnX_so, lnX_len, lnX_stk, h]
  cases cstO r ((ws.drop b).take (i + 1)).sum i room (b + i + 1 == ws.length) al with
  | none => rfl
  | some c =>
    show some (c + ((0 : Int) : Rat) + ((0 : Int) : Rat)) = some c
    rw [show ((0 : Int) : Rat) = 0 from rfl, Rat.add_zero, Rat.add_zero]
theorem lnX_S {ws : List Int} {r : Row} {rule room : Int} {fe : Fee} {mk : Nat → Nd} (h : Fee0 fe) (b : Nat) : ∀ (j i : Nat), b + i + j = ws.length → clS (lnX ws) r rule room fe mk b (i == 0) i j = upS (lnC ws r room b) mk i j
  | 0, i, _ => rfl
  | j + 1, i, e => by
    have hb : brkB (lnX ws) (b + i + 1) = true := by
      unfold brkB
      rw [Nat.add_sub_cancel, lnX_get ws (by omega)]
      rfl
    unfold clS upS
    rw [if_pos hb, lnX_C h, show cstO r ((ws.drop b).take (i + 1)).sum i room (b + i + 1 == ws.length) (i == 0) = lnC ws r room b i from rfl]
    cases lnC ws r room b i with
    | none => rfl
    | some c => rw [← lnX_S h b j (i + 1) (by omega)]; rfl
theorem Wgr.ext' {g k : Wgr} (h1 : g.st = k.st) (h2 : g.fin = k.fin) : g = k := by
  cases g
  cases k
  cases h1
  cases h2
  rfl
/-- the steps from where words are -/
theorem lnX_st {ws : List Int} {r : Row} {rooms : List Int} {rest rule : Int} {fe : Fee} (h : Fee0 fe) (n : Nd) : (clG (lnX ws) r rooms rest rule fe).st n = (lnG ws r rooms rest).st n := by
  show (clS (lnX ws) r rule _ fe _ _ true 0 ((lnX ws).length - _)).reverse = (upS _ _ 0 _).reverse
  rw [lnX_len]
  by_cases hn : n.1.toNat ≤ ws.length
  · rw [← lnX_S h n.1.toNat (ws.length - n.1.toNat) 0 (by omega)]
    rfl
  · rw [show ws.length - n.1.toNat = 0 by omega]
    rfl
theorem lnX_G {ws : List Int} {r : Row} {rooms : List Int} {rest rule : Int} {fe : Fee} (h : Fee0 fe) : clG (lnX ws) r rooms rest rule fe = lnG ws r rooms rest :=
  Wgr.ext' (funext fun n => lnX_st h n) (by funext n; show (n.1 == ((lnX ws).length : Int)) = _; rw [lnX_len]; rfl)
theorem lnX_ok {ws : List Int} {r : Row} {rooms : List Int} {rest rule : Int} (ok : LnOk ws r rooms rest) (hl : rooms.length ≤ 24) (u0 : 0 ≤ rule) (u1 : rule ≤ 1000000) : ClOk (lnX ws) r rooms rest rule where
  ok := ok.ok
  xl := by rw [lnX_len]; have := ok.w60; omega
  xb := fun x hx => by
    obtain ⟨z, hz, rfl⟩ := List.mem_map.mp hx
    have := ok.wb z hz
    exact ⟨by show 0 ≤ z; omega, by show z ≤ 1000000000000; omega, fun _ h => (nomatch h), by show (0 : Nat) ≤ 60; decide, fun s e => by cases e; exact ⟨by decide, by decide⟩⟩
  l24 := hl
  rb := ok.rb
  r0 := ok.r0
  r1 := ok.r1
  u0 := u0
  u1 := u1
section
variable {g : Wgr} {U : List Nd} {M k : Nat}
/-- a way goes on -/
theorem path_inc (ok : WgOk g U M k) : ∀ (i : Nat) {n : Nd} {q : Rat}, n ∈ U → prc g M n = some q → ∀ (j : Nat), j + 1 < (pathF g (prc g M) i n).length → ((pathF g (prc g M) i n).getD j (0, 0)).1 < ((pathF g (prc g M) i n).getD (j + 1) (0, 0)).1
  | 0, n, q, hn, hq, j, hj => by simp [pathF] at hj
  | i + 1, n, q, hn, hq, j, hj => by
    cases hf : g.fin n with
    | true => rw [pathF_end hf] at hj; simp at hj
    | false =>
      obtain ⟨s, hs, e1, e2⟩ := nxt_some ok hn hf hq
      obtain ⟨h1, h2⟩ := ok.go n hn hf s hs
      have hp : ∃ p, prc g M s.2 = some p := by
        cases e : prc g M s.2 with
        | none => rw [e] at e2; cases e2
        | some p => exact ⟨p, rfl⟩
      obtain ⟨p, hp⟩ := hp
      rw [pathF_step hf e1] at hj ⊢
      cases j with
      | zero =>
        obtain ⟨t, et⟩ := pathF_head g (prc g M) i s.2
        rw [et]
        exact h2
      | succ j =>
        have := path_inc ok i h1 hp j (by simpa using hj)
        simpa using this
end
/-- the rows that a way tells: from the first place on, each where the one ahead ends -/
theorem wyL_chain {l : List Nd} (h0 : (l.getD 0 (0, 0)).1 = 0) (hi : ∀ j, j + 1 < l.length → (l.getD j (0, 0)).1 < (l.getD (j + 1) (0, 0)).1) (i : Nat) (n : Nd) (e : (wyL l)[i]? = some n) : n.1 = (if i = 0 then 0 else ((wyL l).getD (i - 1) (0, 0)).2) ∧ n.1 < n.2 := by
  have hl : i < (wyL l).length := (List.getElem?_eq_some_iff.mp e).1
  rw [wyL_len] at hl
  have hg := wyL_get (l := l) (k := i) (by omega)
  rw [e] at hg
  cases hg
  refine ⟨?_, hi i (by omega)⟩
  by_cases z : i = 0
  · subst z
    rw [if_pos rfl]
    exact h0
  · rw [if_neg z]
    have h2 := wyL_get (l := l) (k := i - 1) (by omega)
    have h3 : (wyL l).getD (i - 1) (0, 0) = ((l.getD (i - 1) (0, 0)).1, (l.getD (i - 1 + 1) (0, 0)).1) := by rw [List.getD_eq_getElem?_getD, h2]; rfl
    rw [h3, show i - 1 + 1 = i by omega]
theorem wyL_end {l : List Nd} (h0 : (l.getD 0 (0, 0)).1 = 0) (hl : 1 ≤ l.length) : (if (wyL l).length = 0 then (0 : Int) else ((wyL l).getD ((wyL l).length - 1) (0, 0)).2) = (l.getD (l.length - 1) (0, 0)).1 := by
  rw [wyL_len]
  split
  · rw [show l.length - 1 = 0 by omega, h0]
  · have h2 := wyL_get (l := l) (k := l.length - 1 - 1) (by omega)
    have h3 : (wyL l).getD (l.length - 1 - 1) (0, 0) = ((l.getD (l.length - 1 - 1) (0, 0)).1, (l.getD (l.length - 1 - 1 + 1) (0, 0)).1) := by rw [List.getD_eq_getElem?_getD, h2]; rfl
    rw [h3, show l.length - 1 - 1 + 1 = l.length - 1 by omega]
theorem Wf.upG {F : List (V × D)} {H : Hp} {M : List ME} {t : V} {p : Addr} {ds : List D} {d : D} (w : Wf F H M) (h : Kn F t (.tup [d, .ref p])) (h2 : Kn F (.ref p) (.lst ds)) : Wf ((t, .tup [d, .lst ds]) :: F) H M := by
  obtain ⟨I, Mc, w, ac, hF⟩ := w.ex
  have e := h.is hF
  have e2 := h2.is hF
  refine ⟨I, Mc, w, ac, fun f hf => ?_⟩
  rcases List.mem_cons.mp hf with rfl | hf
  · cases e with
    | tup ht ha =>
      cases ha with
      | cons h1 ha =>
        cases ha with
        | cons h3 ha =>
          cases ha
          cases h3
          exact .tup ht (.cons h1 (.cons e2 .nil))
  · exact hF f hf

def tabOf (o : Obj) : Option Addr := match o with
  | ⟨_, _, .fields vs, _⟩ => (match (vs[11]? : Option Value) with
    | some (.ref P) => some P
    | _ => none)
  | _ => none
theorem tabIn_of {K : PySem.W.Frag} {x : Str} {f c Pt : Addr} {oc : Value} {od : Option Addr} {fd : FuncData} {sl : Array (Option Value)} {ob : Obj} (ha : PySem.W.nsIn K mainGlobals x = some (some (.ref f))) (hl : K.lookup f = some ⟨oc, od, .func fd, sl⟩) (hc : fd.code = .ref c) (lc : K.lookup c = some ob) (tv : tabOf ob = some Pt) : PySem.W.tabIn K x = some (c, Pt) := by
  unfold PySem.W.tabIn
  rw [ha]
  dsimp only
  rw [hl]
  dsimp only
  rw [hc]
  dsimp only
  rw [lc]
  obtain ⟨o1, o2, o3, o4⟩ := ob
  unfold tabOf at tv
  cases o3 with
  | fields vs =>
    dsimp only at tv ⊢
    split at tv
    · rename_i P2 hv
      rw [hv]
      cases tv
      rfl
    · cases tv
  | _ => cases tv
def sp_law (K : PySem.W.Frag) (Pt : Addr) : Sp := fun vs H Q _ => ∃ a, ∃ ns : List Int, vs = [.ref a] ∧ SqL K H a (ns.map V.int) ∧ H Pt = some (.tbl #[]) ∧ ns.length ≤ 63 ∧ (∀ z ∈ ns, Builtin.Int.intBits z ≤ 1048576) ∧ ∀ H', Q (.bl true) H'

abbrev s_law : Stmt := top 78
theorem sc_law : FnScope ["_law_script", "_law_bag_here", "_law_unit_here", "_law_many", "_law_large", "_law_widths", "_law_k", "_law_wide", "_law_strips_here", "_law_feather_here", "_law_rooms", "_law_rest", "_law_rule", "_law_part_here", "_law_lines", "_law_columns", "_law_paid", "_law_one", "_law_other", "_law_c"] ["_law_script"] (defScope s_law) := ⟨rfl, rfl, rfl, by decide +kernel, rfl, by decide +kernel, by decide +kernel⟩
theorem n_bagW {K : PySem.W.Frag} {F : List (V × D)} {M : List ME} {H : Hp} {a : Addr} {ns : List Int} {Q : VK} {E : XK} (w : Wf F H M) (hS : SqL K H a (ns.map V.int)) (q : ∀ p H', Wf F H' (.bag p :: M) → Q (.ref p) H') : sp__law_bag K ([.ref a] ++ []) H Q E := by
  obtain ⟨I, Mc, w, ac, hF⟩ := w.ex
  exact ⟨I, Mc, a, ns, rfl, w, hS, fun p c o J H' s w' hb => q p H' ⟨J, _, w', .cons (.bag hb) (ac.mono s), fun f hf => (hF f hf).mono s⟩⟩
theorem s_rng3 {σ : L2.St} {H : Hp} {ta : TA} {R : It → Hp → Prop} (h : ta σ H fun vs H1 => ∃ (i j c : Int) (n : Nat), vs = [.int i, .int j, .int c] ∧ RgC i j c n ∧ R (Itc i c n) H1) : iRng3 ta σ H R := h
theorem src_C {lo c : Int} {n : Nat} : Src (Itc lo c n) n (fun i => .int (lo + (i : Nat) * c)) (fun _ _ => True) where
  go := fun i H F M hi _ _ => hi
  stop := fun H F M _ _ => Nat.le_refl _
  yld := fun i H F M x H' hi _ w y => by
    obtain ⟨rfl, rfl⟩ := y
    exact w.add (.int _)
theorem cut_ints5 (xs : List Int) : ∃ ys : List Int, cutD (xs.map D.int) none (some 5) = ys.map D.int ∧ (∀ y ∈ ys, y ∈ xs) ∧ ys.length ≤ 5 := by
  refine ⟨(xs.drop (HT.sIx xs.length 0 none)).take (HT.sIx xs.length xs.length (some 5) - HT.sIx xs.length 0 none), ?_, fun y hy => List.mem_of_mem_drop (List.mem_of_mem_take hy), ?_⟩
  · unfold cutD
    rw [List.length_map, List.map_take, List.map_drop]
  · rw [List.length_take]
    have : HT.sIx xs.length xs.length (some 5) ≤ 5 := by
      show min (5 : Int).toNat _ ≤ 5
      exact Nat.min_le_left _ _
    omega
theorem lx_nb (ns : List Nd) (c : Rat) : NB 4 (.tup [frq c, .lst (ns.map nD)]) := .tup fun d hd => by
  simp only [List.mem_cons, List.not_mem_nil, or_false] at hd
  rcases hd with rfl | rfl
  · exact .tup fun d hd => by simp only [List.mem_cons, List.not_mem_nil, or_false] at hd; rcases hd with rfl | rfl <;> exact .int _
  · exact .lst fun d hd => by
      obtain ⟨n, _, rfl⟩ := List.mem_map.mp hd
      exact .tup fun d hd => by simp only [List.mem_cons, List.not_mem_nil, or_false] at hd; rcases hd with rfl | rfl <;> exact .int _

theorem ok_law {f : Addr} {fd : FuncData} (F : Fun K "law" "law" s_law f fd) (B : Bn mg) (c__law_bag : Cal P wd K mg base "_law_bag" 1 ["_law_script"] [] (sp__law_bag K)) (c__law_take : Cal P wd K mg base "_law_take" 1 ["_law_bag_here", "_law_many"] [] sp__law_take) (c__law_length : Cal P wd K mg base "_law_length" 2 ["_law_bag_here", "_law_most"] [] sp__law_length) (c__law_frame : Cal P wd K mg base "_law_frame" 4 ["_law_bag_here", "_law_strips_here", "_law_unit_here"] [] sp__law_frame) (c__law_feather : Cal P wd K mg base "_law_feather" 5 ["_law_told"] [] (sp__law_feather C_Part)) (c_set_lines : Cal P wd K mg base "set_lines" 12 ["widths", "blank", "rooms", "rest"] [] (sp_set_lines C_Part)) (c_set_columns_at5 : Cal P wd K mg base "set_columns" 12 ["strips", "feather", "rooms", "rest", "rule", "fee"] [.non] (sp_set_columns P wd K mg base C_Part)) (c__law_copied : Cal P wd K mg base "_law_copied" 1 ["_law_strips_here"] [] sp__law_copied) (c__law_told_well : Cal P wd K mg base "_law_told_well" 3 ["_law_found", "_law_many"] [] sp__law_told_well) (c_set_columns : Cal P wd K mg base "set_columns" 12 ["strips", "feather", "rooms", "rest", "rule", "fee"] [] (sp_set_columns P wd K mg base C_Part)) (m_Lines : Mak P wd K mg base "Lines" C_Lines 4 ["self", "widths", "blank", "rooms", "rest"] [] (sp_Lines___init__ C_Lines C_Part)) (m_Columns_at5 : Mak P wd K mg base "Columns" C_Columns 5 ["self", "strips", "feather", "rooms", "rest", "rule", "fee"] [.non] (sp_Columns___init__ P wd K mg base C_Columns C_Part)) (t_Lines_steps_from : Met P wd K mg base "steps_from" C_Lines 7 ["self", "node"] [] (sp_Lines_steps_from C_Lines C_Part)) (t_Columns_steps_from : Met P wd K mg base "steps_from" C_Columns 9 ["self", "node"] [] (sp_Columns_steps_from P wd K mg base C_Columns C_Part)) (t_Lines_is_end : Met P wd K mg base "is_end" C_Lines 1 ["self", "node"] [] (sp_Lines_is_end C_Lines C_Part)) (t_Columns_is_end : Met P wd K mg base "is_end" C_Columns 1 ["self", "node"] [] (sp_Columns_is_end P wd K mg base C_Columns C_Part)) (t_Lines_first_node : Met P wd K mg base "first_node" C_Lines 1 ["self"] [] (sp_Lines_first_node)) (t_Columns_first_node : Met P wd K mg base "first_node" C_Columns 1 ["self"] [] (sp_Columns_first_node)) (o_Lines : OwnC K C_Lines) (n_Lines : ∀ f ∈ (["widths", "blank", "rooms", "rest"] : List Str), NoAttr K C_Lines f) (o_Columns : OwnC K C_Columns) (n_Columns : ∀ f ∈ (["strips", "feather", "rooms", "rest", "rule", "fee"] : List Str), NoAttr K C_Columns f) {c_law P_law : Addr} (T : fd.code = .ref c_law) (TB : LamX.TabB base mg c_law P_law)  : FnOk P wd K mg base CX0 13 f fd ["_law_script"] (sp_law K P_law) := by
  refine F.okT T sc_law (fun vs H Q E h => ?_) (fun A outer s H vs Q E hr h => ?_)
  · obtain ⟨a, ns, rfl, hS, hT, hl, hbits, k⟩ := h
    all_goals rfl
  · obtain ⟨a, ns, rfl, hS, hT, hl, hbits, k⟩ := h
    refine ⟨_, (pss_cons (ps_set (i := 1) sc_law.nd rfl (Or.inl rfl) (pe_cal c__law_bag (hr.mono (by decide)) (by rfl) (pa_cons (pv 0) pa_nil)))
      (pss_cons (ps_set (i := 2) sc_law.nd rfl (Or.inl rfl) (pe_ix (k_ix (K := K) rfl) (pe_lst (pa_cons pe_int (pa_cons pe_int (pa_cons pe_int pa_nil)))) (pe_cal c__law_take (hr.mono (by decide)) (by rfl) (pa_cons (pv 1) (pa_cons pe_int pa_nil))) (fun _ _ => rfl)))
      (pss_cons (ps_set (i := 3) sc_law.nd rfl (Or.inl rfl) (pe_op (k_add (K := K) rfl) pe_int (pe_cal c__law_take (hr.mono (by decide)) (by rfl) (pa_cons (pv 1) (pa_cons pe_int pa_nil)))))
      (pss_cons (ps_set (i := 4) sc_law.nd rfl (Or.inl rfl) (pe_cmpR (k_eq (K := K) rfl hr.units) (pe_cal c__law_take (hr.mono (by decide)) (by rfl) (pa_cons (pv 1) (pa_cons pe_int pa_nil))) pe_int (nomark _)))
      (pss_cons (ps_if (pt_val (pv 4)) (pss_one (ps_set (i := 3) sc_law.nd rfl (Or.inl rfl) pe_int)) pss_nil)
      (pss_cons (ps_set (i := 5) sc_law.nd rfl (Or.inl rfl) (pe_lst pa_nil))
      (pss_cons (ps_for PassesOwn.never rfl (pi_range1 (by rfl) B.range_ (pa_cons (pv 3) pa_nil)) (pg_name (i := 6) sc_law.nd rfl (Or.inl rfl)) (pss_cons (ps_set (i := 7) sc_law.nd rfl (Or.inl rfl) (pe_callB (k_max (K := K) rfl rfl) (by rfl) B.max_ (by decide +kernel) (pa_cons pe_int (pa_cons (pe_cal c__law_length (hr.mono (by decide)) (by rfl) (pa_cons (pv 1) (pa_cons (pv 2) pa_nil))) pa_nil))))
      (pss_cons (ps_if (pw_and (pt_cmpR op_gt (pv 6) pe_int (nomark _)) (pw_and1 (pt_cmpR (k_eq (K := K) rfl hr.units) (pe_cal c__law_take (hr.mono (by decide)) (by rfl) (pa_cons (pv 1) (pa_cons pe_int pa_nil))) pe_int (nomark _)))).pt (pss_one (ps_set (i := 7) sc_law.nd rfl (Or.inl rfl) (pe_ix (k_ix (K := K) rfl) (pv 5) (pe_cal c__law_take (hr.mono (by decide)) (by rfl) (pa_cons (pv 1) (pa_cons (pv 6) pa_nil))) (fun _ _ => rfl)))) pss_nil)
      (pss_one (ps_expr (pe_bm PySem.F.plainAttrs_list PySem.F.slot_list_append PySem.F.type_list_append mt_append (pv 5) (pa_cons (pv 7) pa_nil)))))))
      (pss_cons (ps_setLc (i := 8) (own := [("_law_wide", 7)]) (by rfl) sc_law.nd rfl rfl (sw_true rfl rfl rfl (by decide +kernel)) (kpi_list (K := K) rfl (pv 5)) (blkOk_by (own := [("_law_wide", 7)]) (N := ["_law_script", "_law_bag_here", "_law_unit_here", "_law_many", "_law_large", "_law_widths", "_law_k", "_law_wide", "_law_strips_here", "_law_feather_here", "_law_rooms", "_law_rest", "_law_rule", "_law_part_here", "_law_lines", "_law_columns", "_law_paid", "_law_one", "_law_other", "_law_c"]) (sc := defScope s_law) (by decide +kernel)) (fun _ _ _ _ _ => (pg_name (i := 7) sc_law.nd rfl (Or.inl rfl))) (fun _ _ _ _ _ => pts_nil) (fun _ _ _ _ _ => (pe_tup (pa_cons (pv 7) (pa_cons pe_int (pa_cons (pe_lst pa_nil) pa_nil))))))
      (pss_cons (ps_asg (pe_cal c__law_frame (hr.mono (by decide)) (by rfl) (pa_cons (pv 1) (pa_cons (pv 8) (pa_cons (pv 2) pa_nil)))) (kpg_tup (K := K) (n := 4) rfl rfl (pgs_cons (pg_name (i := 9) sc_law.nd rfl (Or.inl rfl)) (pgs_cons (pg_name (i := 10) sc_law.nd rfl (Or.inl rfl)) (pgs_cons (pg_name (i := 11) sc_law.nd rfl (Or.inl rfl)) (pgs_cons (pg_name (i := 12) sc_law.nd rfl (Or.inl rfl)) pgs_nil))))))
      (pss_cons (ps_if (pt_val (pv 4)) (pss_cons (ps_set (i := 10) sc_law.nd rfl (Or.inl rfl) (pe_lst pa_nil))
      (pss_one (ps_set (i := 11) sc_law.nd rfl (Or.inl rfl) (pe_op (k_add (K := K) rfl) (pe_callB (k_sum (K := K) rfl rfl) (by rfl) B.sum_ (by decide +kernel) (pa_cons (pe_slice (k_sl (K := K) rfl) (pv 5) po_none (po_some pe_int)) pa_nil)) (pe_op uo_mul pe_int (pe_ix (k_ix (K := K) rfl) (pv 9) pe_int (fun _ _ => rfl))))))) pss_nil)
      (pss_cons (ps_set (i := 13) sc_law.nd rfl (Or.inl rfl) (pe_cal c__law_feather (hr.mono (by decide)) (by rfl) (pa_cons (pv 9) pa_nil)))
      (pss_cons (ps_set (i := 14) sc_law.nd rfl (Or.inl rfl) (pe_cal c_set_lines (hr.mono (by decide)) (by rfl) (pa_cons (pe_callTy (k_list (K := K) rfl) (by rfl) B.list_ (by decide +kernel) (pa_cons (pv 5) pa_nil)) (pa_cons (pv 13) (pa_cons (pe_callTy (k_list (K := K) rfl) (by rfl) B.list_ (by decide +kernel) (pa_cons (pv 10) pa_nil)) (pa_cons (pv 11) pa_nil))))))
      (pss_cons (ps_set (i := 15) sc_law.nd rfl (Or.inl rfl) (pe_cal c_set_columns_at5 (hr.mono (by decide)) (by rfl) (pa_cons (pe_cal c__law_copied (hr.mono (by decide)) (by rfl) (pa_cons (pv 8) pa_nil)) (pa_cons (pv 13) (pa_cons (pe_callTy (k_list (K := K) rfl) (by rfl) B.list_ (by decide +kernel) (pa_cons (pv 10) pa_nil)) (pa_cons (pv 11) (pa_cons pe_int pa_nil)))))))
      (pss_cons (ps_if (pw_or (pt_not (pt_val (pe_cal c__law_told_well (hr.mono (by decide)) (by rfl) (pa_cons (pv 14) (pa_cons (pv 3) pa_nil))))) (pw_or (pt_not (pt_val (pe_cal c__law_told_well (hr.mono (by decide)) (by rfl) (pa_cons (pv 15) (pa_cons (pv 3) pa_nil))))) (pw_or1 (pt_cmpR (k_ne (K := K) rfl hr.units) (pv 14) (pv 15) (nomark _))))).pt (pss_one (ps_ret pe_bl)) pss_nil)
      (pss_cons (ps_set (i := 16) sc_law.nd rfl (Or.inl rfl) (pe_cal c_set_columns (hr.mono (by decide)) (by rfl) (pa_cons (pe_cal c__law_copied (hr.mono (by decide)) (by rfl) (pa_cons (pv 8) pa_nil)) (pa_cons (pv 13) (pa_cons (pe_callTy (k_list (K := K) rfl) (by rfl) B.list_ (by decide +kernel) (pa_cons (pv 10) pa_nil)) (pa_cons (pv 11) (pa_cons (pv 12) (pa_cons (pe_lamV TB rfl rfl (lamFree_by (sc := defScope s_law) (by decide +kernel))) pa_nil))))))))
      (pss_cons (ps_if (pt_cmpR (k_ne (K := K) rfl hr.units) (pv 16) (pv 14) (nomark _)) (pss_one (ps_ret pe_bl)) pss_nil)
      (pss_cons (ps_set (i := 17) sc_law.nd rfl (Or.inl rfl) (pe_mk m_Lines (hr.mono (by decide)) rfl (pa_cons (pe_callTy (k_list (K := K) rfl) (by rfl) B.list_ (by decide +kernel) (pa_cons (pv 5) pa_nil)) (pa_cons (pv 13) (pa_cons (pe_callTy (k_list (K := K) rfl) (by rfl) B.list_ (by decide +kernel) (pa_cons (pv 10) pa_nil)) (pa_cons (pv 11) pa_nil))))))
      (pss_cons (ps_set (i := 18) sc_law.nd rfl (Or.inl rfl) (pe_mk m_Columns_at5 (hr.mono (by decide)) rfl (pa_cons (pe_cal c__law_copied (hr.mono (by decide)) (by rfl) (pa_cons (pv 8) pa_nil)) (pa_cons (pv 13) (pa_cons (pe_callTy (k_list (K := K) rfl) (by rfl) B.list_ (by decide +kernel) (pa_cons (pv 10) pa_nil)) (pa_cons (pv 11) (pa_cons (pv 12) pa_nil)))))))
      (pss_cons (ps_for PassesOwn.never rfl (pi_range3 (by rfl) B.range_ (pa_cons pe_int (pa_cons (pe_op (k_add (K := K) rfl) (pv 3) pe_int) (pa_cons (pe_op (k_add (K := K) rfl) pe_int (pe_op uo_mul pe_int (pe_callTy uc_int (by rfl) B.int_ (by decide +kernel) (pa_cons (pv 4) pa_nil)))) pa_nil)))) (pg_name (i := 6) sc_law.nd rfl (Or.inl rfl)) (pss_cons (ps_set (i := 19) sc_law.nd rfl (Or.inl rfl) (pe_cal c__law_take (hr.mono (by decide)) (by rfl) (pa_cons (pv 1) (pa_cons (pe_op (k_add (K := K) rfl) (pe_callB (k_len (K := K) rfl) (by rfl) B.len_ (by decide +kernel) (pa_cons (pv 10) pa_nil)) pe_int) pa_nil))))
      (pss_one (ps_if (pw_or (pt_cmpR (k_ne (K := K) rfl hr.units) (pe_two (pe_met (pv 17) t_Lines_steps_from (hr.mono (by decide)) (pa_cons (pe_tup (pa_cons (pv 6) (pa_cons (pv 19) pa_nil))) pa_nil)) (pe_met (pv 17) t_Columns_steps_from (hr.mono (by decide)) (pa_cons (pe_tup (pa_cons (pv 6) (pa_cons (pv 19) pa_nil))) pa_nil))) (pe_two (pe_met (pv 18) t_Lines_steps_from (hr.mono (by decide)) (pa_cons (pe_tup (pa_cons (pv 6) (pa_cons (pv 19) pa_nil))) pa_nil)) (pe_met (pv 18) t_Columns_steps_from (hr.mono (by decide)) (pa_cons (pe_tup (pa_cons (pv 6) (pa_cons (pv 19) pa_nil))) pa_nil))) (nomark _)) (pw_or1 (pt_cmpR (k_ne (K := K) rfl hr.units) (pe_two (pe_met (pv 17) t_Lines_is_end (hr.mono (by decide)) (pa_cons (pe_tup (pa_cons (pv 6) (pa_cons (pv 19) pa_nil))) pa_nil)) (pe_met (pv 17) t_Columns_is_end (hr.mono (by decide)) (pa_cons (pe_tup (pa_cons (pv 6) (pa_cons (pv 19) pa_nil))) pa_nil))) (pe_two (pe_met (pv 18) t_Lines_is_end (hr.mono (by decide)) (pa_cons (pe_tup (pa_cons (pv 6) (pa_cons (pv 19) pa_nil))) pa_nil)) (pe_met (pv 18) t_Columns_is_end (hr.mono (by decide)) (pa_cons (pe_tup (pa_cons (pv 6) (pa_cons (pv 19) pa_nil))) pa_nil))) (nomark _)))).pt (pss_one (ps_ret pe_bl)) pss_nil))))
      (pss_one (ps_ret (pe_cmpR (k_eq (K := K) rfl hr.units) (pe_two (pe_met0 (pv 17) t_Lines_first_node (hr.mono (by decide))) (pe_met0 (pv 17) t_Columns_first_node (hr.mono (by decide)))) (pe_two (pe_met0 (pv 18) t_Lines_first_node (hr.mono (by decide))) (pe_met0 (pv 18) t_Columns_first_node (hr.mono (by decide)))) (nomark _))))))))))))))))))))))), ?_⟩
    try dsimp only [cxOf, Cx.nox, Cx.wish, Cx.blk]
    have w0 := Wf.tb0 (q := "law.<locals>." ++ "<lambda>") hT
    rw [show L2.start (["_law_script", "_law_bag_here", "_law_unit_here", "_law_many", "_law_large", "_law_widths", "_law_k", "_law_wide", "_law_strips_here", "_law_feather_here", "_law_rooms", "_law_rest", "_law_rule", "_law_part_here", "_law_lines", "_law_columns", "_law_paid", "_law_one", "_law_other", "_law_c"] : List Str) [.ref a] = [some (.ref a), none, none, none, none, none, none, none, none, none, none, none, none, none, none, none, none, none, none, none] from rfl]
    wtm_at "n"
    refine n_bagW w0 hS fun b H0 w => ?_
    wtm_at "n"
    rename_i pl Hl wl
    refine n_take wl (by ktf_call "mem") (by omega) (by omega) fun c1 H1 c10 c11 w => ?_
    have key : ∃ un : Int, (un = 12 ∨ un = 1000 ∨ un = 1000000) ∧ atI [D.int 12, D.int 1000, D.int 1000000] c1 = some (.int un) := by
      rcases (show c1 = 0 ∨ c1 = 1 ∨ c1 = 2 by omega) with e | e | e
      · exact ⟨12, .inl rfl, by rw [e]; rfl⟩
      · exact ⟨1000, .inr (.inl rfl), by rw [e]; rfl⟩
      · exact ⟨1000000, .inr (.inr rfl), by rw [e]; rfl⟩
    obtain ⟨un, hun, eun⟩ := key
    have hu0 : 12 ≤ un ∧ un ≤ 1000000 := by omega
    clear wl
    wtm_at "n"
    refine n_ixL w (.ml List.mem_cons_self) eun fun uu w => ?_
    obtain ⟨rfl, w⟩ := w.eq0
    have w : Wf [] H1 [.bag b, .tb P_law ("law.<locals>." ++ "<lambda>")] := by wtm_at "wf"
    wtm_at "n"
    refine n_take w (by ktf_call "mem") (by omega) (by omega) fun c2 H2 c20 c21 w => ?_
    wtm_at "n"
    refine n_take w (by ktf_call "mem") (by omega) (by omega) fun c3 H3 c30 c31 w => ?_
    wtm_at "sq2"
    simp only [List.set_cons_succ, List.set_cons_zero]
    with_reducible refine s_midN2 (fun σ' H' => ∃ m : Int, σ' = [some (.ref a), some (.ref b), some (.int un), some (.int m), some (.bl (decide (V.int c3 = V.int 15))), none, none, none, none, none, none, none, none, none, none, none, none, none, none, none] ∧ ((c3 = 15 ∧ m = 60) ∨ (c3 ≠ 15 ∧ m = 1 + c2)) ∧ Wf [] H' [.bag b, .tb P_law ("law.<locals>." ++ "<lambda>")]) ?_ (fun N fin => ?_)
    rotate_left
    · by_cases h15 : c3 = 15
      · rw [decide_eq_true (show V.int c3 = V.int 15 by rw [h15])] at *
        wtm_at "n"
        exact fin _ _ ⟨60, rfl, .inl ⟨h15, rfl⟩, w⟩
      · rw [decide_eq_false (show ¬ V.int c3 = V.int 15 from fun e => h15 (V.int.inj e))] at *
        wtm_at "n"
        exact fin _ _ ⟨_, rfl, .inr ⟨h15, rfl⟩, w⟩
    clear w
    rintro σ' H' ⟨m, rfl, hm, w⟩
    have hm0 : 1 ≤ m ∧ m ≤ 60 := by omega
    obtain ⟨lg, elg⟩ : ∃ lg : Bool, lg = decide (V.int c3 = V.int 15) := ⟨_, rfl⟩
    have hlg : (lg = true ∧ m = 60) ∨ (lg = false ∧ m ≤ 14) := by
      rcases hm with ⟨h, e⟩ | ⟨h, e⟩
      · exact .inl ⟨by rw [elg, decide_eq_true (show V.int c3 = V.int 15 by rw [h])], e⟩
      · exact .inr ⟨by rw [elg, decide_eq_false (show ¬ V.int c3 = V.int 15 from fun e => h (V.int.inj e))], by omega⟩
    rw [← elg]
    clear elg hm
    wtm_at "n"
    rename_i pw Hw w2
    refine s_rng1' (by omega) (by omega) ?_
    clear w
    refine n_forR w2 (fun i σ' F' M' => ∃ (ws : List Int) (x6 x7 : Option V), σ' = [some (.ref a), some (.ref b), some (.int un), some (.int m), some (.bl lg), some (.ref pw), x6, x7, none, none, none, none, none, none, none, none, none, none, none, none] ∧ [] = F' ∧ M' = [.ml pw (ws.map D.int), .bag b, .tb P_law ("law.<locals>." ++ "<lambda>")] ∧ ws.length = i ∧ ∀ z ∈ ws, 1 ≤ z ∧ z ≤ 1000000) ⟨[], _, _, rfl, rfl, rfl, rfl, fun _ h => (nomatch h)⟩ ?_ ?_
    · rintro i σ' H1 F' M' hi ⟨ws, x6, x7, rfl, rfl, rfl, hwl, hws⟩ w
      wtm_at "n"
      refine n_length w (by ktf_call "mem") (by omega) (by omega) fun z H2 z0 z1 w => ?_
      wtm_at "sq2"
      simp only [List.set_cons_succ, List.set_cons_zero]
      with_reducible refine s_midN2 (fun σ' H' => ∃ z : Int, σ' = [some (.ref a), some (.ref b), some (.int un), some (.int m), some (.bl lg), some (.ref pw), some (.int (0 + (i : Int))), some (.int z), none, none, none, none, none, none, none, none, none, none, none, none] ∧ 1 ≤ z ∧ z ≤ 1000000 ∧ Wf [] H' [.ml pw (ws.map D.int), .bag b, .tb P_law ("law.<locals>." ++ "<lambda>")]) ?_ (fun N fin => ?_)
      rotate_left
      · wtm_at "n"
        wtm_at "fork"
        · rename_i hpos
          wtm_at "n"
          refine n_take w (by ktf_call "mem") (by omega) (by omega) fun c4 H4 c40 c41 w => ?_
          wtm_at "n"
          wtm_at "fork"
          · wtm_at "n"
            refine n_take w (by ktf_call "mem") (by omega) (by omega) fun c5 H5 c50 c51 w => ?_
            refine n_ixN (ns := ws) (j := c5.toNat) w (.ml List.mem_cons_self) (by omega) (by omega) ?_
            wtm_at "n"
            have hg : ws.getD c5.toNat 0 ∈ ws := by
              rw [List.getD_eq_getElem?_getD, List.getElem?_eq_getElem (by omega)]
              exact List.getElem_mem _
            exact fin _ _ ⟨_, rfl, (hws _ hg).1, (hws _ hg).2, w⟩
          · wtm_at "n"
            exact fin _ _ ⟨_, rfl, by split <;> omega, by split <;> omega, w⟩
        · wtm_at "n"
          exact fin _ _ ⟨_, rfl, by split <;> omega, by split <;> omega, w⟩
      clear w z0 z1 z
      rintro σ' H3 ⟨z, rfl, z0, z1, w⟩
      wtm_at "n"
      rename_i H4 w4
      refine ⟨_, _, ⟨ws ++ [z], _, _, rfl, rfl, rfl, by rw [List.length_append, hwl]; rfl, fun y hy => ?_⟩, by rw [List.map_append]; exact w4⟩
      rcases List.mem_append.mp hy with h | h
      · exact hws y h
      · rw [List.mem_singleton.mp h]
        exact ⟨z0, z1⟩
    clear w2
    rintro σ' H1 F' M' ⟨ws, x6, x7, rfl, rfl, rfl, hwl, hws⟩ w
    have hwl : (ws.length : Int) = m := by omega
    wtm_at "n"
    refine n_lcKL w (fun i acc F' M' => M' = [.ml pw (ws.map D.int), .bag b, .tb P_law ("law.<locals>." ++ "<lambda>")] ∧ acc = (lnX (ws.take i)).map spD) (fun i acc F' M' h => by rw [h.1]; exact .ml List.mem_cons_self) ⟨rfl, rfl⟩ (by rw [List.length_map]; omega) ?_ ?_
    · rintro i d y Dp acc H0 F' M' Ap Sk hd ⟨rfl, rfl⟩ w kA kS
      obtain ⟨z, hz, rfl⟩ := map_get hd
      obtain ⟨rfl, w⟩ := w.eq0
      wtm_at "n"
      refine ⟨rfl, ?_⟩
      repeat (first | tbr_iter "f1" | wtm_at "e1" | wtm_at "s1" | wtm_at "b1")
      refine n_newL (ds := []) w .nil (by simp) fun q H2 w => ?_
      have w := w.frzL .here
      repeat (first | tbr_iter "f1" | wtm_at "e1" | wtm_at "s1" | wtm_at "b1")
      refine n_newT (ds := [.int z, .int 0, .lst []]) w (.cons (.int _) (.cons (.int _) (.cons (.mem List.mem_cons_self) .nil))) (by simp) fun t H3 w => ?_
      refine kA _ (spD ⟨z, some 0, []⟩) _ _ _ w ⟨rfl, ?_⟩
      rw [take_snoc hz]
      unfold lnX
      rw [List.map_append, List.map_append]
      rfl
    rintro px es H2 F' M' ⟨rfl, rfl⟩ w2
    rw [List.length_map, List.take_length] at w2
    have w : Wf [] H2 [.ml px ((lnX ws).map spD), .ml pw (ws.map D.int), .bag b, .tb P_law ("law.<locals>." ++ "<lambda>")] := by wtm_at "wf"
    clear w2
    have hxok : ∀ x ∈ lnX ws, SpOk x := fun x hx => by
      obtain ⟨z, hz, rfl⟩ := List.mem_map.mp hx
      have := hws z hz
      exact ⟨by show 0 ≤ z; omega, by show z ≤ 1000000000000; omega, fun _ h => (nomatch h), by show (0 : Nat) ≤ 60; decide, fun s e => by cases e; exact ⟨by decide, by decide⟩⟩
    wtm_at "n"
    refine n_lframe w (by ktf_call "mem") (.ml List.mem_cons_self) hxok (by rw [lnX_len]; omega) (by omega) (by omega) fun tf H3 r rooms rest rule rok rb hr24 hrs r0 r1 u0 u1 w => ?_
    refine n_gtup4 w (.mem List.mem_cons_self) fun uf ur ue uu w2 => ?_
    rw [w2.int_eq (v := ue) (n := rest) (.mem (by simp)), w2.int_eq (v := uu) (n := rule) (.mem (by simp))]
    have w : Wf [(uf, rowR' r), (ur, .lst (rooms.map D.int))] H3 [.ml px ((lnX ws).map spD), .ml pw (ws.map D.int), .bag b, .tb P_law ("law.<locals>." ++ "<lambda>")] := by wtm_at "wf"
    clear w2
    wtm_at "sq2"
    simp only [List.set_cons_succ, List.set_cons_zero]
    with_reducible refine s_midN2 (fun σ' H' => ∃ (vr : V) (rooms : List Int) (rest : Int) (x6 x7 : Option V), σ' = [some (.ref a), some (.ref b), some (.int un), some (.int m), some (.bl lg), some (.ref pw), x6, x7, some (.ref px), some uf, some vr, some (.int rest), some (.int rule), none, none, none, none, none, none, none] ∧ rooms.length ≤ 24 ∧ (∀ x ∈ rooms, 0 ≤ x ∧ x ≤ 1000000000000) ∧ 0 ≤ rest ∧ rest ≤ 1000000000000 ∧ Wf [(uf, rowR' r), (vr, .lst (rooms.map D.int))] H' [.ml px ((lnX ws).map spD), .ml pw (ws.map D.int), .bag b, .tb P_law ("law.<locals>." ++ "<lambda>")]) ?_ (fun N fin => ?_)
    rotate_left
    · cases lg with
      | false =>
        wtm_at "n"
        exact fin _ _ ⟨ur, rooms, rest, _, _, rfl, hr24, hrs, r0, r1, w⟩
      | true =>
        wtm_at "sq2"
        with_reducible refine s_ifS ?_
        wtm_at "sq2"
        rename_i pr H4 w4 ps Hs ws4
        have w4 := ws4
        obtain ⟨ys, ey, hy, hyl⟩ := cut_ints5 ws
        rw [ey] at ws4
        refine n_sum (ns := ys) ws4 (.ml List.mem_cons_self) ?_
        wtm_at "sq2"
        have hsum := sum_bound (l := ys) (m := 1000000) fun y h => ⟨by have := hws y (hy y h); omega, (hws y (hy y h)).2⟩
        have hrb : 0 ≤ r.b := by have := rok.l0; have := rok.lb; omega
        refine .inl ⟨4, r.b, rfl, rfl, Bd.cm (j := 8) (k := 60) (Bd.of 4 (by decide)) (Bd.of 1000000000000 (by omega)), ?_⟩
        wtm_at "sq2"
        have w5 := ws4.frzL (M' := .ml ps (ys.map D.int) :: [.ml px ((lnX ws).map spD), .ml pw (ws.map D.int), .bag b, .tb P_law ("law.<locals>." ++ "<lambda>")]) (.there .here)
        exact fin _ _ ⟨.ref pr, [], _, _, _, rfl, by decide, fun _ h => (nomatch h), by omega, by omega, w5.sub (KS.cons (.mem (by simp)) (KS.cons (.mem List.mem_cons_self) KS.nil)) (by ktf_call "sl")⟩
    clear w hrs hr24 r0 r1
    rintro σ' H4 ⟨vr, rooms, rest, x6, x7, rfl, hr24, hrs, r0, r1, w⟩
    have lok : LnOk ws r rooms rest := ⟨rok, by omega, by omega, hws, by omega, hrs, r0, r1⟩
    wtm_at "n"
    refine n_lfeather (C := C_Part) w (b := r.b) (l := r.l) (g := oD r.g) (w := r.w) (s := r.s) (.mem List.mem_cons_self) rok fun vp H5 w => ?_
    have w : Wf [(vp, prtR C_Part r), (vr, .lst (rooms.map D.int))] H5 [.ml px ((lnX ws).map spD), .ml pw (ws.map D.int), .bag b, .tb P_law ("law.<locals>." ++ "<lambda>")] := by wtm_at "wf"
    wtm_at "n"
    rename_i w1 p2 H6 w2
    clear w w1
    obtain ⟨g, eg⟩ : ∃ g, g = lnG ws r rooms rest := ⟨_, rfl⟩
    have gok : WgOk g (lnU ws.length rooms.length) ws.length 18 := eg ▸ ln_ok lok
    obtain ⟨L, eL⟩ : ∃ L, L = wayN g ws.length := ⟨_, rfl⟩
    have hz0 : ((0 : Int), (0 : Int)) ∈ lnU ws.length rooms.length := (ln_ok lok).u0
    obtain ⟨q0, hq0⟩ := ln_prc lok hz0
    rw [← eg] at hq0
    have hhd : ∃ tl, L = (0, 0) :: tl := by rw [eL]; exact pathF_head _ _ _ _
    have hz : Sz2 6000 3600 q0 := prc_sz gok hz0 hq0
    have h0 : (L.getD 0 (0, 0)).1 = 0 := by obtain ⟨tl, e⟩ := hhd; rw [e]; rfl
    have hl1 : 1 ≤ L.length := by obtain ⟨tl, e⟩ := hhd; rw [e]; simp
    have hinc : ∀ j, j + 1 < L.length → (L.getD j (0, 0)).1 < (L.getD (j + 1) (0, 0)).1 := by rw [eL]; exact path_inc gok _ hz0 hq0
    have hch := wyL_chain h0 hinc
    have hend : (if (wyL L).length = 0 then (0 : Int) else ((wyL L).getD ((wyL L).length - 1) (0, 0)).2) = m := by
      rw [wyL_end h0 hl1]
      obtain ⟨pre, z, e1, e2, _⟩ := path_last lok (ws.length + 1) (n := (0, 0)) hz0 (by simp; omega)
      rw [← eg] at e1
      have e3 : L = pre ++ [z] := by rw [eL]; exact e1
      rw [e3, List.length_append, List.length_singleton, Nat.add_sub_cancel, List.getD_eq_getElem?_getD, List.getElem?_append_right (Nat.le_refl _), Nat.sub_self]
      show z.1 = m
      rw [e2, hwl]
    refine n_setlines (ws := ws) w2 (.ml (by ktf_call "mem")) (.mem List.mem_cons_self) (.ml List.mem_cons_self) lok fun t1 p1 H7 c1 hc1 w => ?_
    rw [← eg] at hc1
    rw [← eg, ← eL] at w
    obtain rfl : c1 = q0 := Option.some.inj (hc1.symm.trans hq0)
    have w : Wf [(t1, .tup [frq c1, .ref p1]), (vp, prtR C_Part r), (vr, .lst (rooms.map D.int))] H7 (.ml p1 ((wyL L).map nD) :: [.ml px ((lnX ws).map spD), .ml pw (ws.map D.int), .bag b, .tb P_law ("law.<locals>." ++ "<lambda>")]) := by wtm_at "wf"
    clear w2
    wtm_at "n"
    refine n_lcopied (xs := lnX ws) w (.ml (by ktf_call "mem")) (by rw [lnX_len]; omega) fun pc H8 w => ?_
    wtm_at "n"
    rename_i pr H9 w9
    have f0 : Fee0 none := fun _ _ _ => rfl
    have cok0 := lnX_ok (rule := 0) lok hr24 (by decide) (by decide)
    refine n_setcols (xs := lnX ws) (r := r) (rooms := rooms) w9 (.ml (by ktf_call "mem")) (.mem (by ktf_call "mem")) (.ml List.mem_cons_self) (fe := none) (L := []) .non cok0 (fun _ e => (nomatch e)) (fun _ h => (nomatch h)) fun t2 p2 H10 c2 hc2 w => ?_
    rw [lnX_G f0, lnX_len, ← eg] at hc2
    rw [lnX_G f0, lnX_len, ← eg, ← eL] at w
    obtain rfl : c2 = c1 := Option.some.inj (hc2.symm.trans hq0)
    have w : Wf [(t2, .tup [frq c2, .ref p2]), (t1, .tup [frq c2, .ref p1]), (vp, prtR C_Part r), (vr, .lst (rooms.map D.int))] H10 (.ml p2 ((wyL L).map nD) :: .ml p1 ((wyL L).map nD) :: [.ml px ((lnX ws).map spD), .ml pw (ws.map D.int), .bag b, .tb P_law ("law.<locals>." ++ "<lambda>")]) := by wtm_at "wf"
    clear w9
    wtm_at "n"
    refine n_toldwell (p := p1) (q := c2) (ns := wyL L) w (.mem (by ktf_call "mem")) (by ktf_call "mem") (hz.sz (by decide) (by decide)) hch hend fun H11 w => ?_
    wtm_at "n"
    refine n_toldwell (p := p2) (q := c2) (ns := wyL L) w (.mem (by ktf_call "mem")) (by ktf_call "mem") (hz.sz (by decide) (by decide)) hch hend fun H12 w => ?_
    wtm_at "n"
    have w := w.frzL .here
    have w := w.frzL .here
    have w := w.upG (t := t1) (d := frq c2) (p := p1) (.mem (by ktf_call "mem")) (.mem List.mem_cons_self)
    have w := w.upG (t := t2) (d := frq c2) (p := p2) (.mem (by ktf_call "mem")) (.mem (by ktf_call "mem"))
    have w : Wf [(t1, .tup [frq c2, .lst ((wyL L).map nD)]), (t2, .tup [frq c2, .lst ((wyL L).map nD)]), (vp, prtR C_Part r), (vr, .lst (rooms.map D.int))] H12 [.ml px ((lnX ws).map spD), .ml pw (ws.map D.int), .bag b, .tb P_law ("law.<locals>." ++ "<lambda>")] := by wtm_at "wf"
    refine n_neT (d := .tup [frq c2, .lst ((wyL L).map nD)]) w (.mem (by ktf_call "mem")) (.mem (by ktf_call "mem")) ((lx_nb _ _).mono (by decide)) ?_
    wtm_at "n"
    refine n_lcopied (xs := lnX ws) w (.ml (by ktf_call "mem")) (by rw [lnX_len]; omega) fun pc H13 w => ?_
    wtm_at "n"
    rename_i pr H14 w14
    refine n_lam (φ := FnV P wd K mg base 8 (spFee [] (fun _ _ _ => 0))) w14 (show ME.tb P_law ("law.<locals>." ++ "<lambda>") ∈ _ from by ktf_call "mem") (fun f' c' I hf hc => ?_) fun ff H15 w => ?_
    · have hfn := fnV_lam (P := P) (w := wd) (K := K) (mg := mg) (base := base) (k := 0) (N := (["_law_solid_here", "_law_count", "_law_room_here"] : List Str)) (ps := (["_law_solid_here", "_law_count", "_law_room_here"] : List Str)) (fr := []) (sp := spFee [] (fun _ _ _ => 0)) ?S ?b ?i ?f ?h hf hc
      case h =>
        intro vs H Q q
        obtain ⟨F', M', s', m', r', rfl, w', _, _, _, _, _, _, _, q⟩ := q
        refine ⟨rfl, [], [], .nil, .nil, fun _ h => (nomatch h), fun A outer s f c hr => ⟨_, pe_int, ?_⟩⟩
        rw [cutC_nil]
        exact fun _ => q _ w'
      case S =>
        dsimp only
        exact NdefX.nscope_by (by decide +kernel)
      case b => exact fun pm cv ctv us hl => match us, hl with | [_, _, _], _ => rfl
      case i => exact fun x y c h => (nomatch (show (none : Option Addr) = some c from h))
      case f => exact fun y c h => (nomatch (show (none : Option Addr) = some c from h))
      exact hfn.imp (by decide) (fun _ _ _ h => h)
    have cok1 := lnX_ok (rule := rule) lok hr24 u0 u1
    have f1 : Fee0 (some fun _ _ _ => 0) := fun _ _ _ => rfl
    wtm_at "n"
    refine n_setcols (xs := lnX ws) (r := r) (rooms := rooms) w (.ml (by ktf_call "mem")) (.mem (by ktf_call "mem")) (.ml (by ktf_call "mem")) (fe := some fun _ _ _ => 0) (L := []) (.mem List.mem_cons_self) cok1 (fun f e => by cases e; intros; exact ⟨by show (0:Int) ≤ 0; decide, by show (0:Int) ≤ 1000000000000000000; decide⟩) (fun _ h => (nomatch h)) fun t3 p3 H16 c3 hc3 w => ?_
    rw [lnX_G f1, lnX_len, ← eg] at hc3
    rw [lnX_G f1, lnX_len, ← eg, ← eL] at w
    obtain rfl : c3 = c2 := Option.some.inj (hc3.symm.trans hq0)
    have w := w.frzL .here
    have w := w.upG (t := t3) (d := frq c3) (p := p3) (.mem (by ktf_call "mem")) (.mem List.mem_cons_self)
    have w : Wf [(t3, .tup [frq c3, .lst ((wyL L).map nD)]), (t1, .tup [frq c3, .lst ((wyL L).map nD)]), (vp, prtR C_Part r), (vr, .lst (rooms.map D.int))] H16 [.ml px ((lnX ws).map spD), .ml pw (ws.map D.int), .bag b, .tb P_law ("law.<locals>." ++ "<lambda>")] := by wtm_at "wf"
    wtm_at "n"
    refine n_neT (d := .tup [frq c3, .lst ((wyL L).map nD)]) w (.mem (by ktf_call "mem")) (.mem (by ktf_call "mem")) ((lx_nb _ _).mono (by decide)) ?_
    wtm_at "n"
    rename_i wa pw2 H17 w17
    clear wa
    rename_i pw1 Hy wy
    refine n_mkLn (C := C_Lines) (ws := ws) (r := r) (rooms := rooms) w17 (.ml (by ktf_call "mem")) (.mem (by ktf_call "mem")) (.ml (by ktf_call "mem")) lok fun one H18 w => ?_
    wtm_at "n"
    refine n_lcopied (xs := lnX ws) w (.ml (by ktf_call "mem")) (by rw [lnX_len]; omega) fun pc2 H19 w => ?_
    wtm_at "n"
    rename_i pr3 H20 w20
    refine n_mkCl (C := C_Columns) (xs := lnX ws) (r := r) (rooms := rooms) (fe := none) (L := []) w20 (.ml (by ktf_call "mem")) (.mem (by ktf_call "mem")) (.ml (by ktf_call "mem")) .non cok1 fun two H21 w => ?_
    have w : Wf [(.ref two, clO P wd K mg base C_Columns C_Part (lnX ws) r rooms rest rule none []), (.ref one, lnO C_Lines C_Part ws r rooms rest), (vr, .lst (rooms.map D.int))] H21 [.bag b, .tb P_law ("law.<locals>." ++ "<lambda>")] := by wtm_at "wf"
    clear w17 wy w20
    wtm_at "n"
    refine s_rng3 ?_
    wtm_at "n"
    refine s_mul (Bd.cm (j := 8) (k := 60) (Bd.of 9 (by decide)) (Bd.of 1 (by split <;> decide))) ?_
    wtm_at "n"
    obtain ⟨c, ec⟩ : ∃ c : Int, c = 1 + 9 * (if lg = true then 1 else 0) := ⟨_, rfl⟩
    rw [← ec]
    have hrg : ∃ n : Nat, RgC 0 (m + 1) c n ∧ ∀ i : Nat, i < n → 0 ≤ 0 + (i : Int) * c ∧ 0 + (i : Int) * c ≤ m := by
      rcases hlg with ⟨e1, e2⟩ | ⟨e1, e2⟩
      · rw [e1, if_pos rfl] at ec
        rw [ec, e2]
        exact ⟨7, ⟨by decide, by decide, by decide, by decide⟩, fun i h => ⟨by omega, by omega⟩⟩
      · rw [e1, if_neg (by decide)] at ec
        rw [ec]
        exact ⟨(m + 1).toNat, ⟨by decide, by decide, small_one (by decide) (by decide) (by omega) (by omega), by rw [show (1 : Int) + 9 * 0 = 1 from rfl, rangeSize_nat, Int.sub_zero]⟩, fun i h => ⟨by omega, by omega⟩⟩
    obtain ⟨n, hRg, hin⟩ := hrg
    refine ⟨_, _, _, n, rfl, hRg, ?_⟩
    refine n_forJ src_C w (fun i σ' F' M' => ∃ (x6 x19 : Option V), σ' = [some (.ref a), some (.ref b), some (.int un), some (.int m), some (.bl lg), some (.ref pw), x6, x7, some (.ref px), some uf, some vr, some (.int rest), some (.int rule), some vp, some t1, some t2, some t3, some (.ref one), some (.ref two), x19] ∧ F' = [(.ref two, clO P wd K mg base C_Columns C_Part (lnX ws) r rooms rest rule none []), (.ref one, lnO C_Lines C_Part ws r rooms rest), (vr, .lst (rooms.map D.int))] ∧ M' = [.bag b, .tb P_law ("law.<locals>." ++ "<lambda>")]) (fun _ _ _ _ _ => trivial) ⟨_, _, rfl, rfl, rfl⟩ ?_ ?_
    · rintro i x σ' H' F' M' hi ⟨x6, x19, rfl, rfl, rfl⟩ w
      obtain ⟨hi0, hi1⟩ := hin i hi
      rw [w.int_eq (v := x) (.mem List.mem_cons_self)]
      have w := w.tail
      obtain ⟨kk, ekk⟩ : ∃ kk : Int, kk = 0 + (i : Int) * c := ⟨_, rfl⟩
      rw [← ekk] at hi0 hi1 ⊢
      wtm_at "n"
      refine n_take w (by ktf_call "mem") (by rw [List.length_map]; omega) (by rw [List.length_map]; omega) fun c5 H5 c50 c51 w => ?_
      rw [List.length_map] at c51
      have hn : (kk, c5) ∈ lnU ws.length rooms.length := mem_lnU.mpr ⟨hi0, by show kk ≤ _; omega, c50, by show c5 ≤ _; omega⟩
      wtm_at "n"
      refine .inl ?_
      wtm_at "n"
      rename_i u1 H6 w6
      refine n_lnsteps (n := (kk, c5)) w6 (.mem (by ktf_call "mem")) (.mem List.mem_cons_self) lok hn fun p1 H7 w => ?_
      wtm_at "n"
      refine .inr ?_
      wtm_at "n"
      rename_i u2 H8 w8
      refine n_clsteps (n := (kk, c5)) (fe := none) (L := []) w8 (.mem (by ktf_call "mem")) (.mem List.mem_cons_self) cok1 (fun _ e => (nomatch e)) (fun _ h => (nomatch h)) (by rw [lnX_len]; exact hn) fun p2 H9 w => ?_
      rw [lnX_st f0] at w
      wtm_at "n"
      refine n_neT (d := .lst (((lnG ws r rooms rest).st (kk, c5)).map stD)) w (.ml (by ktf_call "mem")) (.ml (by ktf_call "mem")) ?_ ?_
      · exact .lst fun d hd => by
          obtain ⟨t, _, rfl⟩ := List.mem_map.mp hd
          exact (nb_stD t).mono (by decide)
      wtm_at "n"
      refine .inl ?_
      wtm_at "n"
      rename_i u3 H10 w10
      refine n_lnend (n := (kk, c5)) w10 (.mem (by ktf_call "mem")) (.mem List.mem_cons_self) fun H11 w => ?_
      wtm_at "n"
      refine .inr ?_
      wtm_at "n"
      rename_i u4 H12 w12
      refine n_clend (n := (kk, c5)) (fe := none) (L := []) w12 (.mem (by ktf_call "mem")) (.mem List.mem_cons_self) fun H13 w => ?_
      rw [lnX_G f0]
      wtm_at "n"
      wtm_at "n"
      exact ⟨_, _, ⟨_, _, rfl, rfl, rfl⟩, by wtm_at "wf"⟩
    clear w
    rintro σ' H' F' M' ⟨x6, x19, rfl, rfl, rfl⟩ w
    wtm_at "n"
    refine .inl ?_
    wtm_at "n"
    refine n_lnfirst w fun u5 H14 w => ?_
    wtm_at "n"
    refine .inr ?_
    wtm_at "n"
    refine n_clfirst w fun u6 H15 w => ?_
    wtm_at "n"
    refine n_eqT (d := nD (0, 0)) w (.mem (by ktf_call "mem")) (.mem List.mem_cons_self) (.tup fun d hd => by simp only [List.mem_cons, List.not_mem_nil, or_false] at hd; rcases hd with rfl | rfl <;> exact .int _) ?_
    wtm_at "n"
    exact k _
end
theorem all_mk {l : PySem.W.OpenLaw} {w : World} {K : PySem.W.Frag} {h : Heap} {mg : Str → Option Value} {fa : Addr} (X : K.In h) (G : h.Ns mainGlobals mg) (hfa : mg "law" = some (.ref fa))
    {f_is_whole : Addr} {od_is_whole an_is_whole : Option Addr} {sl_is_whole : Array (Option Value)} {oc_is_whole kV_is_whole dc_is_whole pm_is_whole cd_is_whole ct_is_whole : Value}
    (a_is_whole : PySem.W.nsIn K mainGlobals "is_whole" = some (some (.ref f_is_whole)))
    (l_is_whole : K.lookup f_is_whole = some ⟨oc_is_whole, od_is_whole, .func (PySem.W.fnOf "is_whole" "is_whole" (defArgs s_is_whole) (defBody s_is_whole) (defScope s_is_whole) .none kV_is_whole dc_is_whole pm_is_whole an_is_whole cd_is_whole ct_is_whole), sl_is_whole⟩)
    (cc_is_whole : PySem.W.codeIn K cd_is_whole "is_whole" = true) (k_is_whole : PySem.W.keepIn K (.ref f_is_whole) = true)
    {f_is_length : Addr} {od_is_length an_is_length : Option Addr} {sl_is_length : Array (Option Value)} {oc_is_length kV_is_length dc_is_length pm_is_length cd_is_length ct_is_length : Value}
    (a_is_length : PySem.W.nsIn K mainGlobals "is_length" = some (some (.ref f_is_length)))
    (l_is_length : K.lookup f_is_length = some ⟨oc_is_length, od_is_length, .func (PySem.W.fnOf "is_length" "is_length" (defArgs s_is_length) (defBody s_is_length) (defScope s_is_length) .none kV_is_length dc_is_length pm_is_length an_is_length cd_is_length ct_is_length), sl_is_length⟩)
    (cc_is_length : PySem.W.codeIn K cd_is_length "is_length" = true) (k_is_length : PySem.W.keepIn K (.ref f_is_length) = true)
    {f_is_small : Addr} {od_is_small an_is_small : Option Addr} {sl_is_small : Array (Option Value)} {oc_is_small kV_is_small dc_is_small pm_is_small cd_is_small ct_is_small : Value}
    (a_is_small : PySem.W.nsIn K mainGlobals "is_small" = some (some (.ref f_is_small)))
    (l_is_small : K.lookup f_is_small = some ⟨oc_is_small, od_is_small, .func (PySem.W.fnOf "is_small" "is_small" (defArgs s_is_small) (defBody s_is_small) (defScope s_is_small) .none kV_is_small dc_is_small pm_is_small an_is_small cd_is_small ct_is_small), sl_is_small⟩)
    (cc_is_small : PySem.W.codeIn K cd_is_small "is_small" = true) (k_is_small : PySem.W.keepIn K (.ref f_is_small) = true)
    {f_is_weight : Addr} {od_is_weight an_is_weight : Option Addr} {sl_is_weight : Array (Option Value)} {oc_is_weight kV_is_weight dc_is_weight pm_is_weight cd_is_weight ct_is_weight : Value}
    (a_is_weight : PySem.W.nsIn K mainGlobals "is_weight" = some (some (.ref f_is_weight)))
    (l_is_weight : K.lookup f_is_weight = some ⟨oc_is_weight, od_is_weight, .func (PySem.W.fnOf "is_weight" "is_weight" (defArgs s_is_weight) (defBody s_is_weight) (defScope s_is_weight) .none kV_is_weight dc_is_weight pm_is_weight an_is_weight cd_is_weight ct_is_weight), sl_is_weight⟩)
    (cc_is_weight : PySem.W.codeIn K cd_is_weight "is_weight" = true) (k_is_weight : PySem.W.keepIn K (.ref f_is_weight) = true)
    {f_divisor : Addr} {od_divisor an_divisor : Option Addr} {sl_divisor : Array (Option Value)} {oc_divisor kV_divisor dc_divisor pm_divisor cd_divisor ct_divisor : Value}
    (a_divisor : PySem.W.nsIn K mainGlobals "divisor" = some (some (.ref f_divisor)))
    (l_divisor : K.lookup f_divisor = some ⟨oc_divisor, od_divisor, .func (PySem.W.fnOf "divisor" "divisor" (defArgs s_divisor) (defBody s_divisor) (defScope s_divisor) .none kV_divisor dc_divisor pm_divisor an_divisor cd_divisor ct_divisor), sl_divisor⟩)
    (cc_divisor : PySem.W.codeIn K cd_divisor "divisor" = true) (k_divisor : PySem.W.keepIn K (.ref f_divisor) = true)
    {T_fraction : Addr} {to_fraction : Value} {td_fraction : Option Addr} {tn_fraction : Nat} {ts_fraction : Array (Option Value)} {tk_fraction_0 : Tok}
    {f_fraction : Addr} {od_fraction an_fraction : Option Addr} {sl_fraction : Array (Option Value)} {oc_fraction kV_fraction dc_fraction pm_fraction cd_fraction ct_fraction : Value}
    (a_fraction : PySem.W.nsIn K mainGlobals "fraction" = some (some (.ref f_fraction)))
    (l_fraction : K.lookup f_fraction = some ⟨oc_fraction, od_fraction, .func (PySem.W.fnOf "fraction" "fraction" (defArgs s_fraction) (defBody s_fraction) (defScope s_fraction) (.ref T_fraction) kV_fraction dc_fraction pm_fraction an_fraction cd_fraction ct_fraction), sl_fraction⟩)
    (cc_fraction : PySem.W.codeIn K cd_fraction "fraction" = true) (k_fraction : PySem.W.keepIn K (.ref f_fraction) = true)
    (dt_fraction : K.lookup T_fraction = some ⟨to_fraction, td_fraction, .seq [Value.int 1 tk_fraction_0].toArray tn_fraction, ts_fraction⟩)
    {f_plus : Addr} {od_plus an_plus : Option Addr} {sl_plus : Array (Option Value)} {oc_plus kV_plus dc_plus pm_plus cd_plus ct_plus : Value}
    (a_plus : PySem.W.nsIn K mainGlobals "plus" = some (some (.ref f_plus)))
    (l_plus : K.lookup f_plus = some ⟨oc_plus, od_plus, .func (PySem.W.fnOf "plus" "plus" (defArgs s_plus) (defBody s_plus) (defScope s_plus) .none kV_plus dc_plus pm_plus an_plus cd_plus ct_plus), sl_plus⟩)
    (cc_plus : PySem.W.codeIn K cd_plus "plus" = true) (k_plus : PySem.W.keepIn K (.ref f_plus) = true)
    {f_minus : Addr} {od_minus an_minus : Option Addr} {sl_minus : Array (Option Value)} {oc_minus kV_minus dc_minus pm_minus cd_minus ct_minus : Value}
    (a_minus : PySem.W.nsIn K mainGlobals "minus" = some (some (.ref f_minus)))
    (l_minus : K.lookup f_minus = some ⟨oc_minus, od_minus, .func (PySem.W.fnOf "minus" "minus" (defArgs s_minus) (defBody s_minus) (defScope s_minus) .none kV_minus dc_minus pm_minus an_minus cd_minus ct_minus), sl_minus⟩)
    (cc_minus : PySem.W.codeIn K cd_minus "minus" = true) (k_minus : PySem.W.keepIn K (.ref f_minus) = true)
    {f_times : Addr} {od_times an_times : Option Addr} {sl_times : Array (Option Value)} {oc_times kV_times dc_times pm_times cd_times ct_times : Value}
    (a_times : PySem.W.nsIn K mainGlobals "times" = some (some (.ref f_times)))
    (l_times : K.lookup f_times = some ⟨oc_times, od_times, .func (PySem.W.fnOf "times" "times" (defArgs s_times) (defBody s_times) (defScope s_times) .none kV_times dc_times pm_times an_times cd_times ct_times), sl_times⟩)
    (cc_times : PySem.W.codeIn K cd_times "times" = true) (k_times : PySem.W.keepIn K (.ref f_times) = true)
    {f_is_below : Addr} {od_is_below an_is_below : Option Addr} {sl_is_below : Array (Option Value)} {oc_is_below kV_is_below dc_is_below pm_is_below cd_is_below ct_is_below : Value}
    (a_is_below : PySem.W.nsIn K mainGlobals "is_below" = some (some (.ref f_is_below)))
    (l_is_below : K.lookup f_is_below = some ⟨oc_is_below, od_is_below, .func (PySem.W.fnOf "is_below" "is_below" (defArgs s_is_below) (defBody s_is_below) (defScope s_is_below) .none kV_is_below dc_is_below pm_is_below an_is_below cd_is_below ct_is_below), sl_is_below⟩)
    (cc_is_below : PySem.W.codeIn K cd_is_below "is_below" = true) (k_is_below : PySem.W.keepIn K (.ref f_is_below) = true)
    {C_Part : Addr} (aC_Part : PySem.W.nsIn K mainGlobals "Part" = some (some (.ref C_Part)))
    (pg_Part : PySem.W.plainGet K C_Part Str.empty = true)
    (hd_Part : PySem.W.hasDictIn K C_Part = true)
    (po_Part : PySem.W.plainOver K C_Part = true)
    (sa_Part : PySem.W.findIn K (.ref C_Part) "__setattr__" = some (some (.builtin "object.__setattr__")))
    (mk_Part : PySem.W.makesIn K C_Part = true)
    (kc_Part : PySem.W.keepIn K (.ref C_Part) = true)
    (ha_Part : PySem.W.findIn K (.ref C_Part) "__class__" = some (some (.builtin "object.__class__")))
    (hn_Part : PySem.W.specialIn K (.builtin "object.__class__") "__get__" = some (some (.builtin "getset_descriptor.__get__")))
    (htk_Part : PySem.W.takesIn K (.builtin "object.__class__") = some true)
    (hm_Part : PySem.W.mroIn K C_Part (.type "object") = some true)
    (nf_Part_base : PySem.W.findIn K (.ref C_Part) "base" = some none)
    (nf_Part_least : PySem.W.findIn K (.ref C_Part) "least" = some none)
    (nf_Part_greatest : PySem.W.findIn K (.ref C_Part) "greatest" = some none)
    (nf_Part_grow : PySem.W.findIn K (.ref C_Part) "grow" = some none)
    (nf_Part_shrink : PySem.W.findIn K (.ref C_Part) "shrink" = some none)
    {T_Part___init__ : Addr} {to_Part___init__ : Value} {td_Part___init__ : Option Addr} {tn_Part___init__ : Nat} {ts_Part___init__ : Array (Option Value)} {tk_Part___init___0 tk_Part___init___2 tk_Part___init___3 : Tok}
    {f_Part___init__ : Addr} {od_Part___init__ an_Part___init__ : Option Addr} {sl_Part___init__ : Array (Option Value)} {oc_Part___init__ kV_Part___init__ dc_Part___init__ pm_Part___init__ cd_Part___init__ ct_Part___init__ : Value}
    (a_Part___init__ : PySem.W.findIn K (.ref C_Part) "__init__" = some (some (.ref f_Part___init__))) (i_Part___init__ : PySem.W.isFn K (.ref f_Part___init__) = true)
    (l_Part___init__ : K.lookup f_Part___init__ = some ⟨oc_Part___init__, od_Part___init__, .func (PySem.W.fnOf "__init__" "Part.__init__" (defArgs s_Part___init__) (defBody s_Part___init__) (defScope s_Part___init__) (.ref T_Part___init__) kV_Part___init__ dc_Part___init__ pm_Part___init__ an_Part___init__ cd_Part___init__ ct_Part___init__), sl_Part___init__⟩)
    (cc_Part___init__ : PySem.W.codeIn K cd_Part___init__ "Part.__init__" = true) (k_Part___init__ : PySem.W.keepIn K (.ref f_Part___init__) = true)
    (dt_Part___init__ : K.lookup T_Part___init__ = some ⟨to_Part___init__, td_Part___init__, .seq [Value.int 0 tk_Part___init___0, Value.none, Value.int 1 tk_Part___init___2, Value.int 1 tk_Part___init___3].toArray tn_Part___init__, ts_Part___init__⟩)
    {f_Part_strain_at : Addr} {od_Part_strain_at an_Part_strain_at : Option Addr} {sl_Part_strain_at : Array (Option Value)} {oc_Part_strain_at kV_Part_strain_at dc_Part_strain_at pm_Part_strain_at cd_Part_strain_at ct_Part_strain_at : Value}
    (a_Part_strain_at : PySem.W.findIn K (.ref C_Part) "strain_at" = some (some (.ref f_Part_strain_at))) (i_Part_strain_at : PySem.W.isFn K (.ref f_Part_strain_at) = true)
    (l_Part_strain_at : K.lookup f_Part_strain_at = some ⟨oc_Part_strain_at, od_Part_strain_at, .func (PySem.W.fnOf "strain_at" "Part.strain_at" (defArgs s_Part_strain_at) (defBody s_Part_strain_at) (defScope s_Part_strain_at) .none kV_Part_strain_at dc_Part_strain_at pm_Part_strain_at an_Part_strain_at cd_Part_strain_at ct_Part_strain_at), sl_Part_strain_at⟩)
    (cc_Part_strain_at : PySem.W.codeIn K cd_Part_strain_at "Part.strain_at" = true) (k_Part_strain_at : PySem.W.keepIn K (.ref f_Part_strain_at) = true)
    {f_leanest : Addr} {od_leanest an_leanest : Option Addr} {sl_leanest : Array (Option Value)} {oc_leanest kV_leanest dc_leanest pm_leanest cd_leanest ct_leanest : Value}
    (a_leanest : PySem.W.nsIn K mainGlobals "leanest" = some (some (.ref f_leanest)))
    (l_leanest : K.lookup f_leanest = some ⟨oc_leanest, od_leanest, .func (PySem.W.fnOf "leanest" "leanest" (defArgs s_leanest) (defBody s_leanest) (defScope s_leanest) .none kV_leanest dc_leanest pm_leanest an_leanest cd_leanest ct_leanest), sl_leanest⟩)
    (cc_leanest : PySem.W.codeIn K cd_leanest "leanest" = true) (k_leanest : PySem.W.keepIn K (.ref f_leanest) = true)
    {f_fattest : Addr} {od_fattest an_fattest : Option Addr} {sl_fattest : Array (Option Value)} {oc_fattest kV_fattest dc_fattest pm_fattest cd_fattest ct_fattest : Value}
    (a_fattest : PySem.W.nsIn K mainGlobals "fattest" = some (some (.ref f_fattest)))
    (l_fattest : K.lookup f_fattest = some ⟨oc_fattest, od_fattest, .func (PySem.W.fnOf "fattest" "fattest" (defArgs s_fattest) (defBody s_fattest) (defScope s_fattest) .none kV_fattest dc_fattest pm_fattest an_fattest cd_fattest ct_fattest), sl_fattest⟩)
    (cc_fattest : PySem.W.codeIn K cd_fattest "fattest" = true) (k_fattest : PySem.W.keepIn K (.ref f_fattest) = true)
    {f_blank_size : Addr} {od_blank_size an_blank_size : Option Addr} {sl_blank_size : Array (Option Value)} {oc_blank_size kV_blank_size dc_blank_size pm_blank_size cd_blank_size ct_blank_size : Value}
    (a_blank_size : PySem.W.nsIn K mainGlobals "blank_size" = some (some (.ref f_blank_size)))
    (l_blank_size : K.lookup f_blank_size = some ⟨oc_blank_size, od_blank_size, .func (PySem.W.fnOf "blank_size" "blank_size" (defArgs s_blank_size) (defBody s_blank_size) (defScope s_blank_size) .none kV_blank_size dc_blank_size pm_blank_size an_blank_size cd_blank_size ct_blank_size), sl_blank_size⟩)
    (cc_blank_size : PySem.W.codeIn K cd_blank_size "blank_size" = true) (k_blank_size : PySem.W.keepIn K (.ref f_blank_size) = true)
    {f_shared_cost : Addr} {od_shared_cost an_shared_cost : Option Addr} {sl_shared_cost : Array (Option Value)} {oc_shared_cost kV_shared_cost dc_shared_cost pm_shared_cost cd_shared_cost ct_shared_cost : Value}
    (a_shared_cost : PySem.W.nsIn K mainGlobals "shared_cost" = some (some (.ref f_shared_cost)))
    (l_shared_cost : K.lookup f_shared_cost = some ⟨oc_shared_cost, od_shared_cost, .func (PySem.W.fnOf "shared_cost" "shared_cost" (defArgs s_shared_cost) (defBody s_shared_cost) (defScope s_shared_cost) .none kV_shared_cost dc_shared_cost pm_shared_cost an_shared_cost cd_shared_cost ct_shared_cost), sl_shared_cost⟩)
    (cc_shared_cost : PySem.W.codeIn K cd_shared_cost "shared_cost" = true) (k_shared_cost : PySem.W.keepIn K (.ref f_shared_cost) = true)
    {f_cost_of : Addr} {od_cost_of an_cost_of : Option Addr} {sl_cost_of : Array (Option Value)} {oc_cost_of kV_cost_of dc_cost_of pm_cost_of cd_cost_of ct_cost_of : Value}
    (a_cost_of : PySem.W.nsIn K mainGlobals "cost_of" = some (some (.ref f_cost_of)))
    (l_cost_of : K.lookup f_cost_of = some ⟨oc_cost_of, od_cost_of, .func (PySem.W.fnOf "cost_of" "cost_of" (defArgs s_cost_of) (defBody s_cost_of) (defScope s_cost_of) .none kV_cost_of dc_cost_of pm_cost_of an_cost_of cd_cost_of ct_cost_of), sl_cost_of⟩)
    (cc_cost_of : PySem.W.codeIn K cd_cost_of "cost_of" = true) (k_cost_of : PySem.W.keepIn K (.ref f_cost_of) = true)
    {f_look_list : Addr} {od_look_list an_look_list : Option Addr} {sl_look_list : Array (Option Value)} {oc_look_list kV_look_list dc_look_list pm_look_list cd_look_list ct_look_list : Value}
    (a_look_list : PySem.W.nsIn K mainGlobals "look_list" = some (some (.ref f_look_list)))
    (l_look_list : K.lookup f_look_list = some ⟨oc_look_list, od_look_list, .func (PySem.W.fnOf "look_list" "look_list" (defArgs s_look_list) (defBody s_look_list) (defScope s_look_list) .none kV_look_list dc_look_list pm_look_list an_look_list cd_look_list ct_look_list), sl_look_list⟩)
    (cc_look_list : PySem.W.codeIn K cd_look_list "look_list" = true) (k_look_list : PySem.W.keepIn K (.ref f_look_list) = true)
    {C_Lines : Addr} (aC_Lines : PySem.W.nsIn K mainGlobals "Lines" = some (some (.ref C_Lines)))
    (pg_Lines : PySem.W.plainGet K C_Lines Str.empty = true)
    (hd_Lines : PySem.W.hasDictIn K C_Lines = true)
    (po_Lines : PySem.W.plainOver K C_Lines = true)
    (sa_Lines : PySem.W.findIn K (.ref C_Lines) "__setattr__" = some (some (.builtin "object.__setattr__")))
    (mk_Lines : PySem.W.makesIn K C_Lines = true)
    (kc_Lines : PySem.W.keepIn K (.ref C_Lines) = true)
    (ha_Lines : PySem.W.findIn K (.ref C_Lines) "__class__" = some (some (.builtin "object.__class__")))
    (hn_Lines : PySem.W.specialIn K (.builtin "object.__class__") "__get__" = some (some (.builtin "getset_descriptor.__get__")))
    (htk_Lines : PySem.W.takesIn K (.builtin "object.__class__") = some true)
    (hm_Lines : PySem.W.mroIn K C_Lines (.type "object") = some true)
    (nf_Lines_widths : PySem.W.findIn K (.ref C_Lines) "widths" = some none)
    (nf_Lines_blank : PySem.W.findIn K (.ref C_Lines) "blank" = some none)
    (nf_Lines_rooms : PySem.W.findIn K (.ref C_Lines) "rooms" = some none)
    (nf_Lines_rest : PySem.W.findIn K (.ref C_Lines) "rest" = some none)
    {f_Lines_first_node : Addr} {od_Lines_first_node an_Lines_first_node : Option Addr} {sl_Lines_first_node : Array (Option Value)} {oc_Lines_first_node kV_Lines_first_node dc_Lines_first_node pm_Lines_first_node cd_Lines_first_node ct_Lines_first_node : Value}
    (a_Lines_first_node : PySem.W.findIn K (.ref C_Lines) "first_node" = some (some (.ref f_Lines_first_node))) (i_Lines_first_node : PySem.W.isFn K (.ref f_Lines_first_node) = true)
    (l_Lines_first_node : K.lookup f_Lines_first_node = some ⟨oc_Lines_first_node, od_Lines_first_node, .func (PySem.W.fnOf "first_node" "Lines.first_node" (defArgs s_Lines_first_node) (defBody s_Lines_first_node) (defScope s_Lines_first_node) .none kV_Lines_first_node dc_Lines_first_node pm_Lines_first_node an_Lines_first_node cd_Lines_first_node ct_Lines_first_node), sl_Lines_first_node⟩)
    (cc_Lines_first_node : PySem.W.codeIn K cd_Lines_first_node "Lines.first_node" = true) (k_Lines_first_node : PySem.W.keepIn K (.ref f_Lines_first_node) = true)
    {C_Columns : Addr} (aC_Columns : PySem.W.nsIn K mainGlobals "Columns" = some (some (.ref C_Columns)))
    (pg_Columns : PySem.W.plainGet K C_Columns Str.empty = true)
    (hd_Columns : PySem.W.hasDictIn K C_Columns = true)
    (po_Columns : PySem.W.plainOver K C_Columns = true)
    (sa_Columns : PySem.W.findIn K (.ref C_Columns) "__setattr__" = some (some (.builtin "object.__setattr__")))
    (mk_Columns : PySem.W.makesIn K C_Columns = true)
    (kc_Columns : PySem.W.keepIn K (.ref C_Columns) = true)
    (ha_Columns : PySem.W.findIn K (.ref C_Columns) "__class__" = some (some (.builtin "object.__class__")))
    (hn_Columns : PySem.W.specialIn K (.builtin "object.__class__") "__get__" = some (some (.builtin "getset_descriptor.__get__")))
    (htk_Columns : PySem.W.takesIn K (.builtin "object.__class__") = some true)
    (hm_Columns : PySem.W.mroIn K C_Columns (.type "object") = some true)
    (nf_Columns_strips : PySem.W.findIn K (.ref C_Columns) "strips" = some none)
    (nf_Columns_feather : PySem.W.findIn K (.ref C_Columns) "feather" = some none)
    (nf_Columns_rooms : PySem.W.findIn K (.ref C_Columns) "rooms" = some none)
    (nf_Columns_rest : PySem.W.findIn K (.ref C_Columns) "rest" = some none)
    (nf_Columns_rule : PySem.W.findIn K (.ref C_Columns) "rule" = some none)
    (nf_Columns_fee : PySem.W.findIn K (.ref C_Columns) "fee" = some none)
    {f_Columns_first_node : Addr} {od_Columns_first_node an_Columns_first_node : Option Addr} {sl_Columns_first_node : Array (Option Value)} {oc_Columns_first_node kV_Columns_first_node dc_Columns_first_node pm_Columns_first_node cd_Columns_first_node ct_Columns_first_node : Value}
    (a_Columns_first_node : PySem.W.findIn K (.ref C_Columns) "first_node" = some (some (.ref f_Columns_first_node))) (i_Columns_first_node : PySem.W.isFn K (.ref f_Columns_first_node) = true)
    (l_Columns_first_node : K.lookup f_Columns_first_node = some ⟨oc_Columns_first_node, od_Columns_first_node, .func (PySem.W.fnOf "first_node" "Columns.first_node" (defArgs s_Columns_first_node) (defBody s_Columns_first_node) (defScope s_Columns_first_node) .none kV_Columns_first_node dc_Columns_first_node pm_Columns_first_node an_Columns_first_node cd_Columns_first_node ct_Columns_first_node), sl_Columns_first_node⟩)
    (cc_Columns_first_node : PySem.W.codeIn K cd_Columns_first_node "Columns.first_node" = true) (k_Columns_first_node : PySem.W.keepIn K (.ref f_Columns_first_node) = true)
    {f_Lines_is_end : Addr} {od_Lines_is_end an_Lines_is_end : Option Addr} {sl_Lines_is_end : Array (Option Value)} {oc_Lines_is_end kV_Lines_is_end dc_Lines_is_end pm_Lines_is_end cd_Lines_is_end ct_Lines_is_end : Value}
    (a_Lines_is_end : PySem.W.findIn K (.ref C_Lines) "is_end" = some (some (.ref f_Lines_is_end))) (i_Lines_is_end : PySem.W.isFn K (.ref f_Lines_is_end) = true)
    (l_Lines_is_end : K.lookup f_Lines_is_end = some ⟨oc_Lines_is_end, od_Lines_is_end, .func (PySem.W.fnOf "is_end" "Lines.is_end" (defArgs s_Lines_is_end) (defBody s_Lines_is_end) (defScope s_Lines_is_end) .none kV_Lines_is_end dc_Lines_is_end pm_Lines_is_end an_Lines_is_end cd_Lines_is_end ct_Lines_is_end), sl_Lines_is_end⟩)
    (cc_Lines_is_end : PySem.W.codeIn K cd_Lines_is_end "Lines.is_end" = true) (k_Lines_is_end : PySem.W.keepIn K (.ref f_Lines_is_end) = true)
    {f_Columns_is_end : Addr} {od_Columns_is_end an_Columns_is_end : Option Addr} {sl_Columns_is_end : Array (Option Value)} {oc_Columns_is_end kV_Columns_is_end dc_Columns_is_end pm_Columns_is_end cd_Columns_is_end ct_Columns_is_end : Value}
    (a_Columns_is_end : PySem.W.findIn K (.ref C_Columns) "is_end" = some (some (.ref f_Columns_is_end))) (i_Columns_is_end : PySem.W.isFn K (.ref f_Columns_is_end) = true)
    (l_Columns_is_end : K.lookup f_Columns_is_end = some ⟨oc_Columns_is_end, od_Columns_is_end, .func (PySem.W.fnOf "is_end" "Columns.is_end" (defArgs s_Columns_is_end) (defBody s_Columns_is_end) (defScope s_Columns_is_end) .none kV_Columns_is_end dc_Columns_is_end pm_Columns_is_end an_Columns_is_end cd_Columns_is_end ct_Columns_is_end), sl_Columns_is_end⟩)
    (cc_Columns_is_end : PySem.W.codeIn K cd_Columns_is_end "Columns.is_end" = true) (k_Columns_is_end : PySem.W.keepIn K (.ref f_Columns_is_end) = true)
    {f_Lines_steps_from : Addr} {od_Lines_steps_from an_Lines_steps_from : Option Addr} {sl_Lines_steps_from : Array (Option Value)} {oc_Lines_steps_from kV_Lines_steps_from dc_Lines_steps_from pm_Lines_steps_from cd_Lines_steps_from ct_Lines_steps_from : Value}
    (a_Lines_steps_from : PySem.W.findIn K (.ref C_Lines) "steps_from" = some (some (.ref f_Lines_steps_from))) (i_Lines_steps_from : PySem.W.isFn K (.ref f_Lines_steps_from) = true)
    (l_Lines_steps_from : K.lookup f_Lines_steps_from = some ⟨oc_Lines_steps_from, od_Lines_steps_from, .func (PySem.W.fnOf "steps_from" "Lines.steps_from" (defArgs s_Lines_steps_from) (defBody s_Lines_steps_from) (defScope s_Lines_steps_from) .none kV_Lines_steps_from dc_Lines_steps_from pm_Lines_steps_from an_Lines_steps_from cd_Lines_steps_from ct_Lines_steps_from), sl_Lines_steps_from⟩)
    (cc_Lines_steps_from : PySem.W.codeIn K cd_Lines_steps_from "Lines.steps_from" = true) (k_Lines_steps_from : PySem.W.keepIn K (.ref f_Lines_steps_from) = true)
    {f_foot_by : Addr} {od_foot_by an_foot_by : Option Addr} {sl_foot_by : Array (Option Value)} {oc_foot_by kV_foot_by dc_foot_by pm_foot_by cd_foot_by ct_foot_by : Value}
    (a_foot_by : PySem.W.nsIn K mainGlobals "foot_by" = some (some (.ref f_foot_by)))
    (l_foot_by : K.lookup f_foot_by = some ⟨oc_foot_by, od_foot_by, .func (PySem.W.fnOf "foot_by" "foot_by" (defArgs s_foot_by) (defBody s_foot_by) (defScope s_foot_by) .none kV_foot_by dc_foot_by pm_foot_by an_foot_by cd_foot_by ct_foot_by), sl_foot_by⟩)
    (cc_foot_by : PySem.W.codeIn K cd_foot_by "foot_by" = true) (k_foot_by : PySem.W.keepIn K (.ref f_foot_by) = true)
    {f_Columns_steps_from : Addr} {od_Columns_steps_from an_Columns_steps_from : Option Addr} {sl_Columns_steps_from : Array (Option Value)} {oc_Columns_steps_from kV_Columns_steps_from dc_Columns_steps_from pm_Columns_steps_from cd_Columns_steps_from ct_Columns_steps_from : Value}
    (a_Columns_steps_from : PySem.W.findIn K (.ref C_Columns) "steps_from" = some (some (.ref f_Columns_steps_from))) (i_Columns_steps_from : PySem.W.isFn K (.ref f_Columns_steps_from) = true)
    (l_Columns_steps_from : K.lookup f_Columns_steps_from = some ⟨oc_Columns_steps_from, od_Columns_steps_from, .func (PySem.W.fnOf "steps_from" "Columns.steps_from" (defArgs s_Columns_steps_from) (defBody s_Columns_steps_from) (defScope s_Columns_steps_from) .none kV_Columns_steps_from dc_Columns_steps_from pm_Columns_steps_from an_Columns_steps_from cd_Columns_steps_from ct_Columns_steps_from), sl_Columns_steps_from⟩)
    (cc_Columns_steps_from : PySem.W.codeIn K cd_Columns_steps_from "Columns.steps_from" = true) (k_Columns_steps_from : PySem.W.keepIn K (.ref f_Columns_steps_from) = true)
    {f_steps_known : Addr} {od_steps_known an_steps_known : Option Addr} {sl_steps_known : Array (Option Value)} {oc_steps_known kV_steps_known dc_steps_known pm_steps_known cd_steps_known ct_steps_known : Value}
    (a_steps_known : PySem.W.nsIn K mainGlobals "steps_known" = some (some (.ref f_steps_known)))
    (l_steps_known : K.lookup f_steps_known = some ⟨oc_steps_known, od_steps_known, .func (PySem.W.fnOf "steps_known" "steps_known" (defArgs s_steps_known) (defBody s_steps_known) (defScope s_steps_known) .none kV_steps_known dc_steps_known pm_steps_known an_steps_known cd_steps_known ct_steps_known), sl_steps_known⟩)
    (cc_steps_known : PySem.W.codeIn K cd_steps_known "steps_known" = true) (k_steps_known : PySem.W.keepIn K (.ref f_steps_known) = true)
    {f_least_price : Addr} {od_least_price an_least_price : Option Addr} {sl_least_price : Array (Option Value)} {oc_least_price kV_least_price dc_least_price pm_least_price cd_least_price ct_least_price : Value}
    (a_least_price : PySem.W.nsIn K mainGlobals "least_price" = some (some (.ref f_least_price)))
    (l_least_price : K.lookup f_least_price = some ⟨oc_least_price, od_least_price, .func (PySem.W.fnOf "least_price" "least_price" (defArgs s_least_price) (defBody s_least_price) (defScope s_least_price) .none kV_least_price dc_least_price pm_least_price an_least_price cd_least_price ct_least_price), sl_least_price⟩)
    (cc_least_price : PySem.W.codeIn K cd_least_price "least_price" = true) (k_least_price : PySem.W.keepIn K (.ref f_least_price) = true)
    {f_prices_known : Addr} {od_prices_known an_prices_known : Option Addr} {sl_prices_known : Array (Option Value)} {oc_prices_known kV_prices_known dc_prices_known pm_prices_known cd_prices_known ct_prices_known : Value}
    (a_prices_known : PySem.W.nsIn K mainGlobals "prices_known" = some (some (.ref f_prices_known)))
    (l_prices_known : K.lookup f_prices_known = some ⟨oc_prices_known, od_prices_known, .func (PySem.W.fnOf "prices_known" "prices_known" (defArgs s_prices_known) (defBody s_prices_known) (defScope s_prices_known) .none kV_prices_known dc_prices_known pm_prices_known an_prices_known cd_prices_known ct_prices_known), sl_prices_known⟩)
    (cc_prices_known : PySem.W.codeIn K cd_prices_known "prices_known" = true) (k_prices_known : PySem.W.keepIn K (.ref f_prices_known) = true)
    {f_next_chosen : Addr} {od_next_chosen an_next_chosen : Option Addr} {sl_next_chosen : Array (Option Value)} {oc_next_chosen kV_next_chosen dc_next_chosen pm_next_chosen cd_next_chosen ct_next_chosen : Value}
    (a_next_chosen : PySem.W.nsIn K mainGlobals "next_chosen" = some (some (.ref f_next_chosen)))
    (l_next_chosen : K.lookup f_next_chosen = some ⟨oc_next_chosen, od_next_chosen, .func (PySem.W.fnOf "next_chosen" "next_chosen" (defArgs s_next_chosen) (defBody s_next_chosen) (defScope s_next_chosen) .none kV_next_chosen dc_next_chosen pm_next_chosen an_next_chosen cd_next_chosen ct_next_chosen), sl_next_chosen⟩)
    (cc_next_chosen : PySem.W.codeIn K cd_next_chosen "next_chosen" = true) (k_next_chosen : PySem.W.keepIn K (.ref f_next_chosen) = true)
    {f_way_of : Addr} {od_way_of an_way_of : Option Addr} {sl_way_of : Array (Option Value)} {oc_way_of kV_way_of dc_way_of pm_way_of cd_way_of ct_way_of : Value}
    (a_way_of : PySem.W.nsIn K mainGlobals "way_of" = some (some (.ref f_way_of)))
    (l_way_of : K.lookup f_way_of = some ⟨oc_way_of, od_way_of, .func (PySem.W.fnOf "way_of" "way_of" (defArgs s_way_of) (defBody s_way_of) (defScope s_way_of) .none kV_way_of dc_way_of pm_way_of an_way_of cd_way_of ct_way_of), sl_way_of⟩)
    (cc_way_of : PySem.W.codeIn K cd_way_of "way_of" = true) (k_way_of : PySem.W.keepIn K (.ref f_way_of) = true)
    {f_is_strip : Addr} {od_is_strip an_is_strip : Option Addr} {sl_is_strip : Array (Option Value)} {oc_is_strip kV_is_strip dc_is_strip pm_is_strip cd_is_strip ct_is_strip : Value}
    (a_is_strip : PySem.W.nsIn K mainGlobals "is_strip" = some (some (.ref f_is_strip)))
    (l_is_strip : K.lookup f_is_strip = some ⟨oc_is_strip, od_is_strip, .func (PySem.W.fnOf "is_strip" "is_strip" (defArgs s_is_strip) (defBody s_is_strip) (defScope s_is_strip) .none kV_is_strip dc_is_strip pm_is_strip an_is_strip cd_is_strip ct_is_strip), sl_is_strip⟩)
    (cc_is_strip : PySem.W.codeIn K cd_is_strip "is_strip" = true) (k_is_strip : PySem.W.keepIn K (.ref f_is_strip) = true)
    {f_look_at_strips : Addr} {od_look_at_strips an_look_at_strips : Option Addr} {sl_look_at_strips : Array (Option Value)} {oc_look_at_strips kV_look_at_strips dc_look_at_strips pm_look_at_strips cd_look_at_strips ct_look_at_strips : Value}
    (a_look_at_strips : PySem.W.nsIn K mainGlobals "look_at_strips" = some (some (.ref f_look_at_strips)))
    (l_look_at_strips : K.lookup f_look_at_strips = some ⟨oc_look_at_strips, od_look_at_strips, .func (PySem.W.fnOf "look_at_strips" "look_at_strips" (defArgs s_look_at_strips) (defBody s_look_at_strips) (defScope s_look_at_strips) .none kV_look_at_strips dc_look_at_strips pm_look_at_strips an_look_at_strips cd_look_at_strips ct_look_at_strips), sl_look_at_strips⟩)
    (cc_look_at_strips : PySem.W.codeIn K cd_look_at_strips "look_at_strips" = true) (k_look_at_strips : PySem.W.keepIn K (.ref f_look_at_strips) = true)
    {f_look_at_frame : Addr} {od_look_at_frame an_look_at_frame : Option Addr} {sl_look_at_frame : Array (Option Value)} {oc_look_at_frame kV_look_at_frame dc_look_at_frame pm_look_at_frame cd_look_at_frame ct_look_at_frame : Value}
    (a_look_at_frame : PySem.W.nsIn K mainGlobals "look_at_frame" = some (some (.ref f_look_at_frame)))
    (l_look_at_frame : K.lookup f_look_at_frame = some ⟨oc_look_at_frame, od_look_at_frame, .func (PySem.W.fnOf "look_at_frame" "look_at_frame" (defArgs s_look_at_frame) (defBody s_look_at_frame) (defScope s_look_at_frame) .none kV_look_at_frame dc_look_at_frame pm_look_at_frame an_look_at_frame cd_look_at_frame ct_look_at_frame), sl_look_at_frame⟩)
    (cc_look_at_frame : PySem.W.codeIn K cd_look_at_frame "look_at_frame" = true) (k_look_at_frame : PySem.W.keepIn K (.ref f_look_at_frame) = true)
    {f_copied_strips : Addr} {od_copied_strips an_copied_strips : Option Addr} {sl_copied_strips : Array (Option Value)} {oc_copied_strips kV_copied_strips dc_copied_strips pm_copied_strips cd_copied_strips ct_copied_strips : Value}
    (a_copied_strips : PySem.W.nsIn K mainGlobals "copied_strips" = some (some (.ref f_copied_strips)))
    (l_copied_strips : K.lookup f_copied_strips = some ⟨oc_copied_strips, od_copied_strips, .func (PySem.W.fnOf "copied_strips" "copied_strips" (defArgs s_copied_strips) (defBody s_copied_strips) (defScope s_copied_strips) .none kV_copied_strips dc_copied_strips pm_copied_strips an_copied_strips cd_copied_strips ct_copied_strips), sl_copied_strips⟩)
    (cc_copied_strips : PySem.W.codeIn K cd_copied_strips "copied_strips" = true) (k_copied_strips : PySem.W.keepIn K (.ref f_copied_strips) = true)
    {T_Columns___init__ : Addr} {to_Columns___init__ : Value} {td_Columns___init__ : Option Addr} {tn_Columns___init__ : Nat} {ts_Columns___init__ : Array (Option Value)}
    {f_Columns___init__ : Addr} {od_Columns___init__ an_Columns___init__ : Option Addr} {sl_Columns___init__ : Array (Option Value)} {oc_Columns___init__ kV_Columns___init__ dc_Columns___init__ pm_Columns___init__ cd_Columns___init__ ct_Columns___init__ : Value}
    (a_Columns___init__ : PySem.W.findIn K (.ref C_Columns) "__init__" = some (some (.ref f_Columns___init__))) (i_Columns___init__ : PySem.W.isFn K (.ref f_Columns___init__) = true)
    (l_Columns___init__ : K.lookup f_Columns___init__ = some ⟨oc_Columns___init__, od_Columns___init__, .func (PySem.W.fnOf "__init__" "Columns.__init__" (defArgs s_Columns___init__) (defBody s_Columns___init__) (defScope s_Columns___init__) (.ref T_Columns___init__) kV_Columns___init__ dc_Columns___init__ pm_Columns___init__ an_Columns___init__ cd_Columns___init__ ct_Columns___init__), sl_Columns___init__⟩)
    (cc_Columns___init__ : PySem.W.codeIn K cd_Columns___init__ "Columns.__init__" = true) (k_Columns___init__ : PySem.W.keepIn K (.ref f_Columns___init__) = true)
    (dt_Columns___init__ : K.lookup T_Columns___init__ = some ⟨to_Columns___init__, td_Columns___init__, .seq [Value.none].toArray tn_Columns___init__, ts_Columns___init__⟩)
    {T_set_columns : Addr} {to_set_columns : Value} {td_set_columns : Option Addr} {tn_set_columns : Nat} {ts_set_columns : Array (Option Value)}
    {f_set_columns : Addr} {od_set_columns an_set_columns : Option Addr} {sl_set_columns : Array (Option Value)} {oc_set_columns kV_set_columns dc_set_columns pm_set_columns cd_set_columns ct_set_columns : Value}
    (a_set_columns : PySem.W.nsIn K mainGlobals "set_columns" = some (some (.ref f_set_columns)))
    (l_set_columns : K.lookup f_set_columns = some ⟨oc_set_columns, od_set_columns, .func (PySem.W.fnOf "set_columns" "set_columns" (defArgs s_set_columns) (defBody s_set_columns) (defScope s_set_columns) (.ref T_set_columns) kV_set_columns dc_set_columns pm_set_columns an_set_columns cd_set_columns ct_set_columns), sl_set_columns⟩)
    (cc_set_columns : PySem.W.codeIn K cd_set_columns "set_columns" = true) (k_set_columns : PySem.W.keepIn K (.ref f_set_columns) = true)
    (dt_set_columns : K.lookup T_set_columns = some ⟨to_set_columns, td_set_columns, .seq [Value.none].toArray tn_set_columns, ts_set_columns⟩)
    {f_look_widths : Addr} {od_look_widths an_look_widths : Option Addr} {sl_look_widths : Array (Option Value)} {oc_look_widths kV_look_widths dc_look_widths pm_look_widths cd_look_widths ct_look_widths : Value}
    (a_look_widths : PySem.W.nsIn K mainGlobals "look_widths" = some (some (.ref f_look_widths)))
    (l_look_widths : K.lookup f_look_widths = some ⟨oc_look_widths, od_look_widths, .func (PySem.W.fnOf "look_widths" "look_widths" (defArgs s_look_widths) (defBody s_look_widths) (defScope s_look_widths) .none kV_look_widths dc_look_widths pm_look_widths an_look_widths cd_look_widths ct_look_widths), sl_look_widths⟩)
    (cc_look_widths : PySem.W.codeIn K cd_look_widths "look_widths" = true) (k_look_widths : PySem.W.keepIn K (.ref f_look_widths) = true)
    {f_Lines___init__ : Addr} {od_Lines___init__ an_Lines___init__ : Option Addr} {sl_Lines___init__ : Array (Option Value)} {oc_Lines___init__ kV_Lines___init__ dc_Lines___init__ pm_Lines___init__ cd_Lines___init__ ct_Lines___init__ : Value}
    (a_Lines___init__ : PySem.W.findIn K (.ref C_Lines) "__init__" = some (some (.ref f_Lines___init__))) (i_Lines___init__ : PySem.W.isFn K (.ref f_Lines___init__) = true)
    (l_Lines___init__ : K.lookup f_Lines___init__ = some ⟨oc_Lines___init__, od_Lines___init__, .func (PySem.W.fnOf "__init__" "Lines.__init__" (defArgs s_Lines___init__) (defBody s_Lines___init__) (defScope s_Lines___init__) .none kV_Lines___init__ dc_Lines___init__ pm_Lines___init__ an_Lines___init__ cd_Lines___init__ ct_Lines___init__), sl_Lines___init__⟩)
    (cc_Lines___init__ : PySem.W.codeIn K cd_Lines___init__ "Lines.__init__" = true) (k_Lines___init__ : PySem.W.keepIn K (.ref f_Lines___init__) = true)
    {f_set_lines : Addr} {od_set_lines an_set_lines : Option Addr} {sl_set_lines : Array (Option Value)} {oc_set_lines kV_set_lines dc_set_lines pm_set_lines cd_set_lines ct_set_lines : Value}
    (a_set_lines : PySem.W.nsIn K mainGlobals "set_lines" = some (some (.ref f_set_lines)))
    (l_set_lines : K.lookup f_set_lines = some ⟨oc_set_lines, od_set_lines, .func (PySem.W.fnOf "set_lines" "set_lines" (defArgs s_set_lines) (defBody s_set_lines) (defScope s_set_lines) .none kV_set_lines dc_set_lines pm_set_lines an_set_lines cd_set_lines ct_set_lines), sl_set_lines⟩)
    (cc_set_lines : PySem.W.codeIn K cd_set_lines "set_lines" = true) (k_set_lines : PySem.W.keepIn K (.ref f_set_lines) = true)
    {f__law_bag : Addr} {od__law_bag an__law_bag : Option Addr} {sl__law_bag : Array (Option Value)} {oc__law_bag kV__law_bag dc__law_bag pm__law_bag cd__law_bag ct__law_bag : Value}
    (a__law_bag : PySem.W.nsIn K mainGlobals "_law_bag" = some (some (.ref f__law_bag)))
    (l__law_bag : K.lookup f__law_bag = some ⟨oc__law_bag, od__law_bag, .func (PySem.W.fnOf "_law_bag" "_law_bag" (defArgs s__law_bag) (defBody s__law_bag) (defScope s__law_bag) .none kV__law_bag dc__law_bag pm__law_bag an__law_bag cd__law_bag ct__law_bag), sl__law_bag⟩)
    (cc__law_bag : PySem.W.codeIn K cd__law_bag "_law_bag" = true) (k__law_bag : PySem.W.keepIn K (.ref f__law_bag) = true)
    {f__law_take : Addr} {od__law_take an__law_take : Option Addr} {sl__law_take : Array (Option Value)} {oc__law_take kV__law_take dc__law_take pm__law_take cd__law_take ct__law_take : Value}
    (a__law_take : PySem.W.nsIn K mainGlobals "_law_take" = some (some (.ref f__law_take)))
    (l__law_take : K.lookup f__law_take = some ⟨oc__law_take, od__law_take, .func (PySem.W.fnOf "_law_take" "_law_take" (defArgs s__law_take) (defBody s__law_take) (defScope s__law_take) .none kV__law_take dc__law_take pm__law_take an__law_take cd__law_take ct__law_take), sl__law_take⟩)
    (cc__law_take : PySem.W.codeIn K cd__law_take "_law_take" = true) (k__law_take : PySem.W.keepIn K (.ref f__law_take) = true)
    {f__law_length : Addr} {od__law_length an__law_length : Option Addr} {sl__law_length : Array (Option Value)} {oc__law_length kV__law_length dc__law_length pm__law_length cd__law_length ct__law_length : Value}
    (a__law_length : PySem.W.nsIn K mainGlobals "_law_length" = some (some (.ref f__law_length)))
    (l__law_length : K.lookup f__law_length = some ⟨oc__law_length, od__law_length, .func (PySem.W.fnOf "_law_length" "_law_length" (defArgs s__law_length) (defBody s__law_length) (defScope s__law_length) .none kV__law_length dc__law_length pm__law_length an__law_length cd__law_length ct__law_length), sl__law_length⟩)
    (cc__law_length : PySem.W.codeIn K cd__law_length "_law_length" = true) (k__law_length : PySem.W.keepIn K (.ref f__law_length) = true)
    {f__law_whole : Addr} {od__law_whole an__law_whole : Option Addr} {sl__law_whole : Array (Option Value)} {oc__law_whole kV__law_whole dc__law_whole pm__law_whole cd__law_whole ct__law_whole : Value}
    (a__law_whole : PySem.W.nsIn K mainGlobals "_law_whole" = some (some (.ref f__law_whole)))
    (l__law_whole : K.lookup f__law_whole = some ⟨oc__law_whole, od__law_whole, .func (PySem.W.fnOf "_law_whole" "_law_whole" (defArgs s__law_whole) (defBody s__law_whole) (defScope s__law_whole) .none kV__law_whole dc__law_whole pm__law_whole an__law_whole cd__law_whole ct__law_whole), sl__law_whole⟩)
    (cc__law_whole : PySem.W.codeIn K cd__law_whole "_law_whole" = true) (k__law_whole : PySem.W.keepIn K (.ref f__law_whole) = true)
    {f__law_low : Addr} {od__law_low an__law_low : Option Addr} {sl__law_low : Array (Option Value)} {oc__law_low kV__law_low dc__law_low pm__law_low cd__law_low ct__law_low : Value}
    (a__law_low : PySem.W.nsIn K mainGlobals "_law_low" = some (some (.ref f__law_low)))
    (l__law_low : K.lookup f__law_low = some ⟨oc__law_low, od__law_low, .func (PySem.W.fnOf "_law_low" "_law_low" (defArgs s__law_low) (defBody s__law_low) (defScope s__law_low) .none kV__law_low dc__law_low pm__law_low an__law_low cd__law_low ct__law_low), sl__law_low⟩)
    (cc__law_low : PySem.W.codeIn K cd__law_low "_law_low" = true) (k__law_low : PySem.W.keepIn K (.ref f__law_low) = true)
    {f__law_fraction : Addr} {od__law_fraction an__law_fraction : Option Addr} {sl__law_fraction : Array (Option Value)} {oc__law_fraction kV__law_fraction dc__law_fraction pm__law_fraction cd__law_fraction ct__law_fraction : Value}
    (a__law_fraction : PySem.W.nsIn K mainGlobals "_law_fraction" = some (some (.ref f__law_fraction)))
    (l__law_fraction : K.lookup f__law_fraction = some ⟨oc__law_fraction, od__law_fraction, .func (PySem.W.fnOf "_law_fraction" "_law_fraction" (defArgs s__law_fraction) (defBody s__law_fraction) (defScope s__law_fraction) .none kV__law_fraction dc__law_fraction pm__law_fraction an__law_fraction cd__law_fraction ct__law_fraction), sl__law_fraction⟩)
    (cc__law_fraction : PySem.W.codeIn K cd__law_fraction "_law_fraction" = true) (k__law_fraction : PySem.W.keepIn K (.ref f__law_fraction) = true)
    {f__law_weight : Addr} {od__law_weight an__law_weight : Option Addr} {sl__law_weight : Array (Option Value)} {oc__law_weight kV__law_weight dc__law_weight pm__law_weight cd__law_weight ct__law_weight : Value}
    (a__law_weight : PySem.W.nsIn K mainGlobals "_law_weight" = some (some (.ref f__law_weight)))
    (l__law_weight : K.lookup f__law_weight = some ⟨oc__law_weight, od__law_weight, .func (PySem.W.fnOf "_law_weight" "_law_weight" (defArgs s__law_weight) (defBody s__law_weight) (defScope s__law_weight) .none kV__law_weight dc__law_weight pm__law_weight an__law_weight cd__law_weight ct__law_weight), sl__law_weight⟩)
    (cc__law_weight : PySem.W.codeIn K cd__law_weight "_law_weight" = true) (k__law_weight : PySem.W.keepIn K (.ref f__law_weight) = true)
    {f__law_part : Addr} {od__law_part an__law_part : Option Addr} {sl__law_part : Array (Option Value)} {oc__law_part kV__law_part dc__law_part pm__law_part cd__law_part ct__law_part : Value}
    (a__law_part : PySem.W.nsIn K mainGlobals "_law_part" = some (some (.ref f__law_part)))
    (l__law_part : K.lookup f__law_part = some ⟨oc__law_part, od__law_part, .func (PySem.W.fnOf "_law_part" "_law_part" (defArgs s__law_part) (defBody s__law_part) (defScope s__law_part) .none kV__law_part dc__law_part pm__law_part an__law_part cd__law_part ct__law_part), sl__law_part⟩)
    (cc__law_part : PySem.W.codeIn K cd__law_part "_law_part" = true) (k__law_part : PySem.W.keepIn K (.ref f__law_part) = true)
    {f__law_copied : Addr} {od__law_copied an__law_copied : Option Addr} {sl__law_copied : Array (Option Value)} {oc__law_copied kV__law_copied dc__law_copied pm__law_copied cd__law_copied ct__law_copied : Value}
    (a__law_copied : PySem.W.nsIn K mainGlobals "_law_copied" = some (some (.ref f__law_copied)))
    (l__law_copied : K.lookup f__law_copied = some ⟨oc__law_copied, od__law_copied, .func (PySem.W.fnOf "_law_copied" "_law_copied" (defArgs s__law_copied) (defBody s__law_copied) (defScope s__law_copied) .none kV__law_copied dc__law_copied pm__law_copied an__law_copied cd__law_copied ct__law_copied), sl__law_copied⟩)
    (cc__law_copied : PySem.W.codeIn K cd__law_copied "_law_copied" = true) (k__law_copied : PySem.W.keepIn K (.ref f__law_copied) = true)
    {f__law_foot : Addr} {od__law_foot an__law_foot : Option Addr} {sl__law_foot : Array (Option Value)} {oc__law_foot kV__law_foot dc__law_foot pm__law_foot cd__law_foot ct__law_foot : Value}
    (a__law_foot : PySem.W.nsIn K mainGlobals "_law_foot" = some (some (.ref f__law_foot)))
    (l__law_foot : K.lookup f__law_foot = some ⟨oc__law_foot, od__law_foot, .func (PySem.W.fnOf "_law_foot" "_law_foot" (defArgs s__law_foot) (defBody s__law_foot) (defScope s__law_foot) .none kV__law_foot dc__law_foot pm__law_foot an__law_foot cd__law_foot ct__law_foot), sl__law_foot⟩)
    (cc__law_foot : PySem.W.codeIn K cd__law_foot "_law_foot" = true) (k__law_foot : PySem.W.keepIn K (.ref f__law_foot) = true)
    {f__law_solid : Addr} {od__law_solid an__law_solid : Option Addr} {sl__law_solid : Array (Option Value)} {oc__law_solid kV__law_solid dc__law_solid pm__law_solid cd__law_solid ct__law_solid : Value}
    (a__law_solid : PySem.W.nsIn K mainGlobals "_law_solid" = some (some (.ref f__law_solid)))
    (l__law_solid : K.lookup f__law_solid = some ⟨oc__law_solid, od__law_solid, .func (PySem.W.fnOf "_law_solid" "_law_solid" (defArgs s__law_solid) (defBody s__law_solid) (defScope s__law_solid) .none kV__law_solid dc__law_solid pm__law_solid an__law_solid cd__law_solid ct__law_solid), sl__law_solid⟩)
    (cc__law_solid : PySem.W.codeIn K cd__law_solid "_law_solid" = true) (k__law_solid : PySem.W.keepIn K (.ref f__law_solid) = true)
    {f__law_room : Addr} {od__law_room an__law_room : Option Addr} {sl__law_room : Array (Option Value)} {oc__law_room kV__law_room dc__law_room pm__law_room cd__law_room ct__law_room : Value}
    (a__law_room : PySem.W.nsIn K mainGlobals "_law_room" = some (some (.ref f__law_room)))
    (l__law_room : K.lookup f__law_room = some ⟨oc__law_room, od__law_room, .func (PySem.W.fnOf "_law_room" "_law_room" (defArgs s__law_room) (defBody s__law_room) (defScope s__law_room) .none kV__law_room dc__law_room pm__law_room an__law_room cd__law_room ct__law_room), sl__law_room⟩)
    (cc__law_room : PySem.W.codeIn K cd__law_room "_law_room" = true) (k__law_room : PySem.W.keepIn K (.ref f__law_room) = true)
    {f__law_frame : Addr} {od__law_frame an__law_frame : Option Addr} {sl__law_frame : Array (Option Value)} {oc__law_frame kV__law_frame dc__law_frame pm__law_frame cd__law_frame ct__law_frame : Value}
    (a__law_frame : PySem.W.nsIn K mainGlobals "_law_frame" = some (some (.ref f__law_frame)))
    (l__law_frame : K.lookup f__law_frame = some ⟨oc__law_frame, od__law_frame, .func (PySem.W.fnOf "_law_frame" "_law_frame" (defArgs s__law_frame) (defBody s__law_frame) (defScope s__law_frame) .none kV__law_frame dc__law_frame pm__law_frame an__law_frame cd__law_frame ct__law_frame), sl__law_frame⟩)
    (cc__law_frame : PySem.W.codeIn K cd__law_frame "_law_frame" = true) (k__law_frame : PySem.W.keepIn K (.ref f__law_frame) = true)
    {f__law_feather : Addr} {od__law_feather an__law_feather : Option Addr} {sl__law_feather : Array (Option Value)} {oc__law_feather kV__law_feather dc__law_feather pm__law_feather cd__law_feather ct__law_feather : Value}
    (a__law_feather : PySem.W.nsIn K mainGlobals "_law_feather" = some (some (.ref f__law_feather)))
    (l__law_feather : K.lookup f__law_feather = some ⟨oc__law_feather, od__law_feather, .func (PySem.W.fnOf "_law_feather" "_law_feather" (defArgs s__law_feather) (defBody s__law_feather) (defScope s__law_feather) .none kV__law_feather dc__law_feather pm__law_feather an__law_feather cd__law_feather ct__law_feather), sl__law_feather⟩)
    (cc__law_feather : PySem.W.codeIn K cd__law_feather "_law_feather" = true) (k__law_feather : PySem.W.keepIn K (.ref f__law_feather) = true)
    {f__law_told_well : Addr} {od__law_told_well an__law_told_well : Option Addr} {sl__law_told_well : Array (Option Value)} {oc__law_told_well kV__law_told_well dc__law_told_well pm__law_told_well cd__law_told_well ct__law_told_well : Value}
    (a__law_told_well : PySem.W.nsIn K mainGlobals "_law_told_well" = some (some (.ref f__law_told_well)))
    (l__law_told_well : K.lookup f__law_told_well = some ⟨oc__law_told_well, od__law_told_well, .func (PySem.W.fnOf "_law_told_well" "_law_told_well" (defArgs s__law_told_well) (defBody s__law_told_well) (defScope s__law_told_well) .none kV__law_told_well dc__law_told_well pm__law_told_well an__law_told_well cd__law_told_well ct__law_told_well), sl__law_told_well⟩)
    (cc__law_told_well : PySem.W.codeIn K cd__law_told_well "_law_told_well" = true) (k__law_told_well : PySem.W.keepIn K (.ref f__law_told_well) = true)
    {f_law : Addr} {od_law an_law : Option Addr} {sl_law : Array (Option Value)} {oc_law kV_law dc_law pm_law ct_law : Value} {cA_law P_law : Addr}
    (a_law : PySem.W.nsIn K mainGlobals "law" = some (some (.ref f_law)))
    (l_law : K.lookup f_law = some ⟨oc_law, od_law, .func (PySem.W.fnOf "law" "law" (defArgs s_law) (defBody s_law) (defScope s_law) .none kV_law dc_law pm_law an_law (.ref cA_law) ct_law), sl_law⟩)
    (cc_law : PySem.W.codeIn K (.ref cA_law) "law" = true) (k_law : PySem.W.keepIn K (.ref f_law) = true)
    {ob_law : Obj} (lc_law : K.lookup cA_law = some ob_law) (tv_law : tabOf ob_law = some P_law) (np_law : K.lookup P_law = none)
    {C_NoFraction : Addr} (aC_NoFraction : PySem.W.nsIn K mainGlobals "NoFraction" = some (some (.ref C_NoFraction)))
    (ek_NoFraction : PySem.W.keepIn K (.ref C_NoFraction) = true)
    (eb_NoFraction : PySem.W.subIn K (.ref C_NoFraction) (.type "BaseException") = some true)
    (et_NoFraction : PySem.W.typeIn K (.ref C_NoFraction) = some (.type "type"))
    (ic_NoFraction : PySem.W.isClsIn K C_NoFraction = true)
    {C_Wrong : Addr} (aC_Wrong : PySem.W.nsIn K mainGlobals "Wrong" = some (some (.ref C_Wrong)))
    (ek_Wrong : PySem.W.keepIn K (.ref C_Wrong) = true)
    (eb_Wrong : PySem.W.subIn K (.ref C_Wrong) (.type "BaseException") = some true)
    (et_Wrong : PySem.W.typeIn K (.ref C_Wrong) = some (.type "type"))
    (ic_Wrong : PySem.W.isClsIn K C_Wrong = true)
    {C_FairError : Addr} (aC_FairError : PySem.W.nsIn K mainGlobals "FairError" = some (some (.ref C_FairError)))
    (ek_FairError : PySem.W.keepIn K (.ref C_FairError) = true)
    (eb_FairError : PySem.W.subIn K (.ref C_FairError) (.type "BaseException") = some true)
    (et_FairError : PySem.W.typeIn K (.ref C_FairError) = some (.type "type"))
    (ic_FairError : PySem.W.isClsIn K C_FairError = true)
    (bsp : PySem.W.specialIn K (.ref C_FairError) "__getattribute__" = some (some (.builtin "type.__getattribute__"))) (brd : PySem.W.readsIn K C_FairError (.type "type") = true) (bat : PySem.W.findCls K (.ref C_FairError) (.type "type") "__init__" = some (.val (.builtin "ValueError.__init__")))
    {nm_Wrong qn_Wrong : Str} {N_Wrong : Addr} {bs_Wrong : List Value} {sn_Wrong : List Str} {sub_Wrong : List Value} {ab_Wrong : Bool} {col_Wrong : Option Bool} {dd_Wrong : Option Addr} {m0_Wrong m1_Wrong m2_Wrong m3_Wrong m5_Wrong : Option Value}
    (xL_Wrong : K.lookup C_Wrong = some (excClassObj nm_Wrong qn_Wrong C_Wrong N_Wrong bs_Wrong [.ref C_FairError, .type "ValueError", .type "Exception", .type "BaseException", .type "object"] true sn_Wrong sub_Wrong ab_Wrong col_Wrong dd_Wrong m0_Wrong m1_Wrong m2_Wrong m3_Wrong m5_Wrong "ValueError.__new__"))
    (xs_Wrong : PySem.W.findIn K (.ref C_Wrong) "__setattr__" = some (some (.builtin "object.__setattr__")))
    (nb_Wrong : PySem.W.findIn K (.ref C_Wrong) "at" = some none)
    {f_Wrong___init__ : Addr} {od_Wrong___init__ an_Wrong___init__ : Option Addr} {sl_Wrong___init__ : Array (Option Value)} {oc_Wrong___init__ kV_Wrong___init__ dc_Wrong___init__ pm_Wrong___init__ cd_Wrong___init__ ct_Wrong___init__ : Value}
    (a_Wrong___init__ : PySem.W.findIn K (.ref C_Wrong) "__init__" = some (some (.ref f_Wrong___init__))) (t1_Wrong : PySem.W.typeIn K (.ref f_Wrong___init__) = some (.type "function"))
    (l_Wrong___init__ : K.lookup f_Wrong___init__ = some ⟨oc_Wrong___init__, od_Wrong___init__, .func (PySem.W.fnOf "__init__" "Wrong.__init__" (defArgs s_Wrong___init__) (defBody s_Wrong___init__) (defScope s_Wrong___init__) .none kV_Wrong___init__ dc_Wrong___init__ pm_Wrong___init__ an_Wrong___init__ cd_Wrong___init__ ct_Wrong___init__), sl_Wrong___init__⟩)
    (cc_Wrong___init__ : PySem.W.codeIn K cd_Wrong___init__ "Wrong.__init__" = true) (k_Wrong___init__ : PySem.W.keepIn K (.ref f_Wrong___init__) = true)
    (eq_NoFraction : PySem.W.excIn K C_NoFraction HandSPX.veTail "ValueError.__new__" = true)
    (z_len : PySem.W.nsIn K mainGlobals "len" = some none)
    (z_abs : PySem.W.nsIn K mainGlobals "abs" = some none)
    (z_isinstance : PySem.W.nsIn K mainGlobals "isinstance" = some none)
    (z_min : PySem.W.nsIn K mainGlobals "min" = some none)
    (z_max : PySem.W.nsIn K mainGlobals "max" = some none)
    (z_sum : PySem.W.nsIn K mainGlobals "sum" = some none)
    (z_sorted : PySem.W.nsIn K mainGlobals "sorted" = some none)
    (z_range : PySem.W.nsIn K mainGlobals "range" = some none)
    (z_zip : PySem.W.nsIn K mainGlobals "zip" = some none)
    (z_enumerate : PySem.W.nsIn K mainGlobals "enumerate" = some none)
    (z_reversed : PySem.W.nsIn K mainGlobals "reversed" = some none)
    (z_int : PySem.W.nsIn K mainGlobals "int" = some none)
    (z_bool : PySem.W.nsIn K mainGlobals "bool" = some none)
    (z_tuple : PySem.W.nsIn K mainGlobals "tuple" = some none)
    (z_list : PySem.W.nsIn K mainGlobals "list" = some none)
    (z_str : PySem.W.nsIn K mainGlobals "str" = some none)
    (z_dict : PySem.W.nsIn K mainGlobals "dict" = some none)
    (z_ValueError : PySem.W.nsIn K mainGlobals "ValueError" = some none)
    (z_set : PySem.W.nsIn K mainGlobals "set" = some none)
    (z_any : PySem.W.nsIn K mainGlobals "any" = some none)
    (z_all : PySem.W.nsIn K mainGlobals "all" = some none)
    {t_LENGTH : Tok} (n_LENGTH : PySem.W.nsIn K mainGlobals "LENGTH" = some (some (.int 1000000000000 t_LENGTH)))
    {t_SMALL : Tok} (n_SMALL : PySem.W.nsIn K mainGlobals "SMALL" = some (some (.int 1000000 t_SMALL)))
    {t_WEIGHT : Tok} (n_WEIGHT : PySem.W.nsIn K mainGlobals "WEIGHT" = some (some (.int 1000 t_WEIGHT)))
    {t_ALONE : Tok} (n_ALONE : PySem.W.nsIn K mainGlobals "ALONE" = some (some (.int 10000000000000000000000000000000000000000 t_ALONE)))
    {t_MOST_STRIPS : Tok} (n_MOST_STRIPS : PySem.W.nsIn K mainGlobals "MOST_STRIPS" = some (some (.int 120 t_MOST_STRIPS)))
    {t_MOST_COLUMNS : Tok} (n_MOST_COLUMNS : PySem.W.nsIn K mainGlobals "MOST_COLUMNS" = some (some (.int 24 t_MOST_COLUMNS)))
    {t_MOST_NOTES : Tok} (n_MOST_NOTES : PySem.W.nsIn K mainGlobals "MOST_NOTES" = some (some (.int 60 t_MOST_NOTES)))
    {t_MOST_WORDS : Tok} (n_MOST_WORDS : PySem.W.nsIn K mainGlobals "MOST_WORDS" = some (some (.int 60 t_MOST_WORDS)))
    {t_MOST_ROOMS : Tok} (n_MOST_ROOMS : PySem.W.nsIn K mainGlobals "MOST_ROOMS" = some (some (.int 60 t_MOST_ROOMS)))
    : ∃ (c P : Addr) (fd : FuncData), PySem.W.tabIn K "law" = some (c, P) ∧ K.lookup P = none ∧ (∀ (s : Shared) (v : Value), BindsTo s fd ⟨[v], []⟩ [("_law_script", v)]) ∧ ∀ base : Heap, K.In base → base.Ns mainGlobals mg → LamX.TabB base mg c P → FnOk l.prog w K mg base CX0 13 fa fd ["_law_script"] (sp_law K P) := by
  have e := hfa.symm.trans (PySem.W.mg_of X G a_law)
  cases e
  have B : Bn mg := ⟨PySem.W.mg_none_of X G z_len, PySem.W.mg_none_of X G z_abs, PySem.W.mg_none_of X G z_isinstance, PySem.W.mg_none_of X G z_min, PySem.W.mg_none_of X G z_max, PySem.W.mg_none_of X G z_sum, PySem.W.mg_none_of X G z_sorted, PySem.W.mg_none_of X G z_range, PySem.W.mg_none_of X G z_zip, PySem.W.mg_none_of X G z_enumerate, PySem.W.mg_none_of X G z_reversed, PySem.W.mg_none_of X G z_int, PySem.W.mg_none_of X G z_bool, PySem.W.mg_none_of X G z_tuple, PySem.W.mg_none_of X G z_list, PySem.W.mg_none_of X G z_str, PySem.W.mg_none_of X G z_dict, PySem.W.mg_none_of X G z_ValueError, PySem.W.mg_none_of X G z_set, PySem.W.mg_none_of X G z_any, PySem.W.mg_none_of X G z_all⟩
  have g_LENGTH : ∃ t, mg "LENGTH" = some (.int 1000000000000 t) := ⟨_, PySem.W.mg_of X G n_LENGTH⟩
  have g_SMALL : ∃ t, mg "SMALL" = some (.int 1000000 t) := ⟨_, PySem.W.mg_of X G n_SMALL⟩
  have g_WEIGHT : ∃ t, mg "WEIGHT" = some (.int 1000 t) := ⟨_, PySem.W.mg_of X G n_WEIGHT⟩
  have g_ALONE : ∃ t, mg "ALONE" = some (.int 10000000000000000000000000000000000000000 t) := ⟨_, PySem.W.mg_of X G n_ALONE⟩
  have g_MOST_STRIPS : ∃ t, mg "MOST_STRIPS" = some (.int 120 t) := ⟨_, PySem.W.mg_of X G n_MOST_STRIPS⟩
  have g_MOST_COLUMNS : ∃ t, mg "MOST_COLUMNS" = some (.int 24 t) := ⟨_, PySem.W.mg_of X G n_MOST_COLUMNS⟩
  have g_MOST_NOTES : ∃ t, mg "MOST_NOTES" = some (.int 60 t) := ⟨_, PySem.W.mg_of X G n_MOST_NOTES⟩
  have g_MOST_WORDS : ∃ t, mg "MOST_WORDS" = some (.int 60 t) := ⟨_, PySem.W.mg_of X G n_MOST_WORDS⟩
  have g_MOST_ROOMS : ∃ t, mg "MOST_ROOMS" = some (.int 60 t) := ⟨_, PySem.W.mg_of X G n_MOST_ROOMS⟩
  have g_NoFraction : mg "NoFraction" = some (.ref C_NoFraction) := PySem.W.mg_of X G aC_NoFraction
  have g_Wrong : mg "Wrong" = some (.ref C_Wrong) := PySem.W.mg_of X G aC_Wrong
  have g_FairError : mg "FairError" = some (.ref C_FairError) := PySem.W.mg_of X G aC_FairError
  have g_Part : mg "Part" = some (.ref C_Part) := PySem.W.mg_of X G aC_Part
  have g_Columns : mg "Columns" = some (.ref C_Columns) := PySem.W.mg_of X G aC_Columns
  have g_Lines : mg "Lines" = some (.ref C_Lines) := PySem.W.mg_of X G aC_Lines
  have bb_ : ErrB K mg "FairError" C_FairError := ⟨g_FairError, bsp, brd, bat⟩
  have T_Wrong : OexC K C_Wrong := ⟨⟨nm_Wrong, qn_Wrong, N_Wrong, bs_Wrong, _, sn_Wrong, sub_Wrong, ab_Wrong, col_Wrong, dd_Wrong, m0_Wrong, m1_Wrong, m2_Wrong, m3_Wrong, m5_Wrong, xL_Wrong, rfl⟩, xs_Wrong, eb_Wrong, et_Wrong, ek_Wrong⟩
  have F_Wrong___init__ := fun_mk (st := s_Wrong___init__) l_Wrong___init__ cc_Wrong___init__ k_Wrong___init__
  have e_NoFraction : ErrC K mg "NoFraction" C_NoFraction := ⟨g_NoFraction, eq_NoFraction, ek_NoFraction, eb_NoFraction, et_NoFraction⟩
  have o_Part : OwnC K C_Part := ⟨⟨pg_Part, hd_Part, po_Part, sa_Part⟩, ha_Part, hn_Part, htk_Part, hm_Part⟩
  have n_Part : ∀ f ∈ (["base", "least", "greatest", "grow", "shrink"] : List Str), NoAttr K C_Part f := (List.forall_mem_cons.2 ⟨nf_Part_base, (List.forall_mem_cons.2 ⟨nf_Part_least, (List.forall_mem_cons.2 ⟨nf_Part_greatest, (List.forall_mem_cons.2 ⟨nf_Part_grow, (List.forall_mem_cons.2 ⟨nf_Part_shrink, (fun _ z => nomatch z)⟩)⟩)⟩)⟩)⟩)
  have o_Columns : OwnC K C_Columns := ⟨⟨pg_Columns, hd_Columns, po_Columns, sa_Columns⟩, ha_Columns, hn_Columns, htk_Columns, hm_Columns⟩
  have n_Columns : ∀ f ∈ (["strips", "feather", "rooms", "rest", "rule", "fee"] : List Str), NoAttr K C_Columns f := (List.forall_mem_cons.2 ⟨nf_Columns_strips, (List.forall_mem_cons.2 ⟨nf_Columns_feather, (List.forall_mem_cons.2 ⟨nf_Columns_rooms, (List.forall_mem_cons.2 ⟨nf_Columns_rest, (List.forall_mem_cons.2 ⟨nf_Columns_rule, (List.forall_mem_cons.2 ⟨nf_Columns_fee, (fun _ z => nomatch z)⟩)⟩)⟩)⟩)⟩)⟩)
  have o_Lines : OwnC K C_Lines := ⟨⟨pg_Lines, hd_Lines, po_Lines, sa_Lines⟩, ha_Lines, hn_Lines, htk_Lines, hm_Lines⟩
  have n_Lines : ∀ f ∈ (["widths", "blank", "rooms", "rest"] : List Str), NoAttr K C_Lines f := (List.forall_mem_cons.2 ⟨nf_Lines_widths, (List.forall_mem_cons.2 ⟨nf_Lines_blank, (List.forall_mem_cons.2 ⟨nf_Lines_rooms, (List.forall_mem_cons.2 ⟨nf_Lines_rest, (fun _ z => nomatch z)⟩)⟩)⟩)⟩)
  have F_is_whole := fun_mk (st := s_is_whole) l_is_whole cc_is_whole k_is_whole
  have F_is_length := fun_mk (st := s_is_length) l_is_length cc_is_length k_is_length
  have F_is_small := fun_mk (st := s_is_small) l_is_small cc_is_small k_is_small
  have F_is_weight := fun_mk (st := s_is_weight) l_is_weight cc_is_weight k_is_weight
  have F_divisor := fun_mk (st := s_divisor) l_divisor cc_divisor k_divisor
  have F_fraction := funD_mk (st := s_fraction) (dvs := [.int 1]) l_fraction cc_fraction k_fraction dt_fraction (.cons ⟨_, rfl⟩ .nil) (by simp)
  have F_plus := fun_mk (st := s_plus) l_plus cc_plus k_plus
  have F_minus := fun_mk (st := s_minus) l_minus cc_minus k_minus
  have F_times := fun_mk (st := s_times) l_times cc_times k_times
  have F_is_below := fun_mk (st := s_is_below) l_is_below cc_is_below k_is_below
  have F_Part___init__ := funD_mk (st := s_Part___init__) (dvs := [.int 0, .non, .int 1, .int 1]) l_Part___init__ cc_Part___init__ k_Part___init__ dt_Part___init__ (.cons ⟨_, rfl⟩ (.cons rfl (.cons ⟨_, rfl⟩ (.cons ⟨_, rfl⟩ .nil)))) (by simp)
  have F_Part_strain_at := fun_mk (st := s_Part_strain_at) l_Part_strain_at cc_Part_strain_at k_Part_strain_at
  have F_leanest := fun_mk (st := s_leanest) l_leanest cc_leanest k_leanest
  have F_fattest := fun_mk (st := s_fattest) l_fattest cc_fattest k_fattest
  have F_blank_size := fun_mk (st := s_blank_size) l_blank_size cc_blank_size k_blank_size
  have F_shared_cost := fun_mk (st := s_shared_cost) l_shared_cost cc_shared_cost k_shared_cost
  have F_cost_of := fun_mk (st := s_cost_of) l_cost_of cc_cost_of k_cost_of
  have F_look_list := fun_mk (st := s_look_list) l_look_list cc_look_list k_look_list
  have F_Lines_first_node := fun_mk (st := s_Lines_first_node) l_Lines_first_node cc_Lines_first_node k_Lines_first_node
  have F_Columns_first_node := fun_mk (st := s_Columns_first_node) l_Columns_first_node cc_Columns_first_node k_Columns_first_node
  have F_Lines_is_end := fun_mk (st := s_Lines_is_end) l_Lines_is_end cc_Lines_is_end k_Lines_is_end
  have F_Columns_is_end := fun_mk (st := s_Columns_is_end) l_Columns_is_end cc_Columns_is_end k_Columns_is_end
  have F_Lines_steps_from := fun_mk (st := s_Lines_steps_from) l_Lines_steps_from cc_Lines_steps_from k_Lines_steps_from
  have F_foot_by := fun_mk (st := s_foot_by) l_foot_by cc_foot_by k_foot_by
  have F_Columns_steps_from := fun_mk (st := s_Columns_steps_from) l_Columns_steps_from cc_Columns_steps_from k_Columns_steps_from
  have F_steps_known := fun_mk (st := s_steps_known) l_steps_known cc_steps_known k_steps_known
  have F_least_price := fun_mk (st := s_least_price) l_least_price cc_least_price k_least_price
  have F_prices_known := fun_mk (st := s_prices_known) l_prices_known cc_prices_known k_prices_known
  have F_next_chosen := fun_mk (st := s_next_chosen) l_next_chosen cc_next_chosen k_next_chosen
  have F_way_of := fun_mk (st := s_way_of) l_way_of cc_way_of k_way_of
  have F_is_strip := fun_mk (st := s_is_strip) l_is_strip cc_is_strip k_is_strip
  have F_look_at_strips := fun_mk (st := s_look_at_strips) l_look_at_strips cc_look_at_strips k_look_at_strips
  have F_look_at_frame := fun_mk (st := s_look_at_frame) l_look_at_frame cc_look_at_frame k_look_at_frame
  have F_copied_strips := fun_mk (st := s_copied_strips) l_copied_strips cc_copied_strips k_copied_strips
  have F_Columns___init__ := funD_mk (st := s_Columns___init__) (dvs := [.non]) l_Columns___init__ cc_Columns___init__ k_Columns___init__ dt_Columns___init__ (.cons rfl .nil) (by simp)
  have F_set_columns := funD_mk (st := s_set_columns) (dvs := [.non]) l_set_columns cc_set_columns k_set_columns dt_set_columns (.cons rfl .nil) (by simp)
  have F_look_widths := fun_mk (st := s_look_widths) l_look_widths cc_look_widths k_look_widths
  have F_Lines___init__ := fun_mk (st := s_Lines___init__) l_Lines___init__ cc_Lines___init__ k_Lines___init__
  have F_set_lines := fun_mk (st := s_set_lines) l_set_lines cc_set_lines k_set_lines
  have F__law_bag := fun_mk (st := s__law_bag) l__law_bag cc__law_bag k__law_bag
  have F__law_take := fun_mk (st := s__law_take) l__law_take cc__law_take k__law_take
  have F__law_length := fun_mk (st := s__law_length) l__law_length cc__law_length k__law_length
  have F__law_whole := fun_mk (st := s__law_whole) l__law_whole cc__law_whole k__law_whole
  have F__law_low := fun_mk (st := s__law_low) l__law_low cc__law_low k__law_low
  have F__law_fraction := fun_mk (st := s__law_fraction) l__law_fraction cc__law_fraction k__law_fraction
  have F__law_weight := fun_mk (st := s__law_weight) l__law_weight cc__law_weight k__law_weight
  have F__law_part := fun_mk (st := s__law_part) l__law_part cc__law_part k__law_part
  have F__law_copied := fun_mk (st := s__law_copied) l__law_copied cc__law_copied k__law_copied
  have F__law_foot := fun_mk (st := s__law_foot) l__law_foot cc__law_foot k__law_foot
  have F__law_solid := fun_mk (st := s__law_solid) l__law_solid cc__law_solid k__law_solid
  have F__law_room := fun_mk (st := s__law_room) l__law_room cc__law_room k__law_room
  have F__law_frame := fun_mk (st := s__law_frame) l__law_frame cc__law_frame k__law_frame
  have F__law_feather := fun_mk (st := s__law_feather) l__law_feather cc__law_feather k__law_feather
  have F__law_told_well := fun_mk (st := s__law_told_well) l__law_told_well cc__law_told_well k__law_told_well
  have F_law := fun_mk (st := s_law) l_law cc_law k_law
  refine ⟨_, _, PySem.W.fnOf "law" "law" (defArgs s_law) (defBody s_law) (defScope s_law) .none kV_law dc_law pm_law an_law (.ref cA_law) ct_law, tabIn_of a_law l_law rfl lc_law tv_law, np_law, fun s v => .of_eq rfl, fun base _ _ TB => ?_⟩
  have e_Wrong : ErrI l.prog w K mg base "Wrong" C_Wrong 1 ["self", "at"] "at" := ⟨T_Wrong, g_Wrong, _, _, a_Wrong___init__, t1_Wrong, okI_Wrong F_Wrong___init__ bb_ T_Wrong nb_Wrong, F_Wrong___init__.binds (ps := ["self", "at"]) fun _ _ _ _ _ _ us hl => match us, hl with | [_, _], _ => rfl⟩
  have c_is_whole : Cal l.prog w K mg base "is_whole" 1 ["thing"] [] (sp_is_whole K) := ⟨_, _, [], ok_is_whole F_is_whole B , PySem.W.mg_of X G a_is_whole, k_is_whole, F_is_whole.binds (ps := ["thing"]) fun _ _ _ _ _ _ us hl => match us, hl with | [_], _ => rfl, .nil⟩
  have c_is_length : Cal l.prog w K mg base "is_length" 2 ["thing"] [] (sp_is_length K) := ⟨_, _, [], ok_is_length F_is_length B c_is_whole g_LENGTH, PySem.W.mg_of X G a_is_length, k_is_length, F_is_length.binds (ps := ["thing"]) fun _ _ _ _ _ _ us hl => match us, hl with | [_], _ => rfl, .nil⟩
  have c_is_small : Cal l.prog w K mg base "is_small" 2 ["thing"] [] (sp_is_small K) := ⟨_, _, [], ok_is_small F_is_small B c_is_whole g_SMALL, PySem.W.mg_of X G a_is_small, k_is_small, F_is_small.binds (ps := ["thing"]) fun _ _ _ _ _ _ us hl => match us, hl with | [_], _ => rfl, .nil⟩
  have c_is_weight : Cal l.prog w K mg base "is_weight" 2 ["thing"] [] (sp_is_weight K) := ⟨_, _, [], ok_is_weight F_is_weight B c_is_whole g_WEIGHT, PySem.W.mg_of X G a_is_weight, k_is_weight, F_is_weight.binds (ps := ["thing"]) fun _ _ _ _ _ _ us hl => match us, hl with | [_], _ => rfl, .nil⟩
  have c_divisor : Cal l.prog w K mg base "divisor" 1 ["one", "other"] [] sp_divisor := ⟨_, _, [], ok_divisor F_divisor B , PySem.W.mg_of X G a_divisor, k_divisor, F_divisor.binds (ps := ["one", "other"]) fun _ _ _ _ _ _ us hl => match us, hl with | [_, _], _ => rfl, .nil⟩
  have ok_fraction_ := ok_fraction F_fraction B c_divisor
  have c_fraction_at1 : Cal l.prog w K mg base "fraction" 2 ["top", "bottom"] [.int 1] sp_fraction := by
    obtain ⟨ds, hv, hb⟩ := F_fraction.binds1 (ps := ["top", "bottom"]) 1 0 (by simp) rfl (fun T kV doc pm an cdv ct us its h1 h2 => match us, its, h1, h2 with | [_], [_], _, _ => ⟨_, rfl, rfl⟩)
    exact ⟨_, _, ds, ok_fraction_, PySem.W.mg_of X G a_fraction, k_fraction, hb, hv⟩
  have c_fraction : Cal l.prog w K mg base "fraction" 2 ["top", "bottom"] [] sp_fraction := by
    obtain ⟨ds, hv, hb⟩ := F_fraction.binds1 (ps := ["top", "bottom"]) 2 1 (by simp) rfl (fun T kV doc pm an cdv ct us its h1 h2 => match us, its, h1, h2 with | [_, _], [_], _, _ => ⟨_, rfl, rfl⟩)
    exact ⟨_, _, ds, ok_fraction_, PySem.W.mg_of X G a_fraction, k_fraction, hb, hv⟩
  have cx_fraction : CalX l.prog w K mg base "fraction" 2 ["top", "bottom"] [] (spx_fraction C_NoFraction) := by
    obtain ⟨ds, hv, hb⟩ := F_fraction.binds1 (ps := ["top", "bottom"]) 2 1 (by simp) rfl (fun T kV doc pm an cdv ct us its h1 h2 => match us, its, h1, h2 with | [_, _], [_], _, _ => ⟨_, rfl, rfl⟩)
    exact ⟨_, _, ds, okx_fraction F_fraction B e_NoFraction, PySem.W.mg_of X G a_fraction, k_fraction, hb, hv⟩
  have c_plus : Cal l.prog w K mg base "plus" 3 ["one", "other"] [] sp_plus := ⟨_, _, [], ok_plus F_plus B c_fraction, PySem.W.mg_of X G a_plus, k_plus, F_plus.binds (ps := ["one", "other"]) fun _ _ _ _ _ _ us hl => match us, hl with | [_, _], _ => rfl, .nil⟩
  have c_minus : Cal l.prog w K mg base "minus" 3 ["one", "other"] [] sp_minus := ⟨_, _, [], ok_minus F_minus B c_fraction, PySem.W.mg_of X G a_minus, k_minus, F_minus.binds (ps := ["one", "other"]) fun _ _ _ _ _ _ us hl => match us, hl with | [_, _], _ => rfl, .nil⟩
  have c_times : Cal l.prog w K mg base "times" 3 ["one", "other"] [] sp_times := ⟨_, _, [], ok_times F_times B c_fraction, PySem.W.mg_of X G a_times, k_times, F_times.binds (ps := ["one", "other"]) fun _ _ _ _ _ _ us hl => match us, hl with | [_, _], _ => rfl, .nil⟩
  have c_is_below : Cal l.prog w K mg base "is_below" 1 ["one", "other"] [] sp_is_below := ⟨_, _, [], ok_is_below F_is_below B , PySem.W.mg_of X G a_is_below, k_is_below, F_is_below.binds (ps := ["one", "other"]) fun _ _ _ _ _ _ us hl => match us, hl with | [_, _], _ => rfl, .nil⟩
  have ok_Part___init___ := ok_Part___init__ F_Part___init__ B c_is_length c_is_weight o_Part n_Part
  have mx_Part : MakX l.prog w K mg base "Part" C_Part 3 ["self", "base", "least", "greatest", "grow", "shrink"] [] (spx_Part___init__ K C_Part C_Wrong) := by
    obtain ⟨ds, hv, hb⟩ := F_Part___init__.binds1 (ps := ["self", "base", "least", "greatest", "grow", "shrink"]) 6 4 (by simp) rfl (fun T kV doc pm an cdv ct us its h1 h2 => match us, its, h1, h2 with | [_, _, _, _, _, _], [_, _, _, _], _, _ => ⟨_, rfl, rfl⟩)
    exact ⟨_, _, ds, ⟨mk_Part, a_Part___init__, i_Part___init__, kc_Part⟩, okx_Part___init__ F_Part___init__ B c_is_length c_is_weight o_Part n_Part e_Wrong, PySem.W.mg_of X G aC_Part, hb, hv⟩
  have m_Part : Mak l.prog w K mg base "Part" C_Part 3 ["self", "base", "least", "greatest", "grow", "shrink"] [] (sp_Part___init__ C_Part) := by
    obtain ⟨ds, hv, hb⟩ := F_Part___init__.binds1 (ps := ["self", "base", "least", "greatest", "grow", "shrink"]) 6 4 (by simp) rfl (fun T kV doc pm an cdv ct us its h1 h2 => match us, its, h1, h2 with | [_, _, _, _, _, _], [_, _, _, _], _, _ => ⟨_, rfl, rfl⟩)
    exact ⟨_, _, ds, ⟨mk_Part, a_Part___init__, i_Part___init__, kc_Part⟩, ok_Part___init___, PySem.W.mg_of X G aC_Part, hb, hv⟩
  have t_Part_strain_at : Met l.prog w K mg base "strain_at" C_Part 4 ["self", "size"] [] (sp_Part_strain_at C_Part) := ⟨_, _, [], o_Part.cl, ⟨a_Part_strain_at, i_Part_strain_at, k_Part_strain_at⟩, ok_Part_strain_at F_Part_strain_at B c_minus c_is_below c_fraction o_Part n_Part, F_Part_strain_at.binds (ps := ["self", "size"]) fun _ _ _ _ _ _ us hl => match us, hl with | [_, _], _ => rfl, .nil⟩
  have c_leanest : Cal l.prog w K mg base "leanest" 1 ["blank"] [] (sp_leanest C_Part) := ⟨_, _, [], ok_leanest F_leanest B o_Part n_Part, PySem.W.mg_of X G a_leanest, k_leanest, F_leanest.binds (ps := ["blank"]) fun _ _ _ _ _ _ us hl => match us, hl with | [_], _ => rfl, .nil⟩
  have c_fattest : Cal l.prog w K mg base "fattest" 1 ["blank"] [] (sp_fattest C_Part) := ⟨_, _, [], ok_fattest F_fattest B o_Part n_Part, PySem.W.mg_of X G a_fattest, k_fattest, F_fattest.binds (ps := ["blank"]) fun _ _ _ _ _ _ us hl => match us, hl with | [_], _ => rfl, .nil⟩
  have c_blank_size : Cal l.prog w K mg base "blank_size" 3 ["space", "many", "blank"] [] (sp_blank_size C_Part) := ⟨_, _, [], ok_blank_size F_blank_size B c_fattest c_fraction o_Part n_Part, PySem.W.mg_of X G a_blank_size, k_blank_size, F_blank_size.binds (ps := ["space", "many", "blank"]) fun _ _ _ _ _ _ us hl => match us, hl with | [_, _, _], _ => rfl, .nil⟩
  have c_shared_cost : Cal l.prog w K mg base "shared_cost" 5 ["space", "many", "blank"] [] (sp_shared_cost C_Part) := ⟨_, _, [], ok_shared_cost F_shared_cost B c_blank_size c_minus c_times c_plus t_Part_strain_at o_Part n_Part, PySem.W.mg_of X G a_shared_cost, k_shared_cost, F_shared_cost.binds (ps := ["space", "many", "blank"]) fun _ _ _ _ _ _ us hl => match us, hl with | [_, _, _], _ => rfl, .nil⟩
  have c_cost_of : Cal l.prog w K mg base "cost_of" 6 ["solid", "many", "blank", "room", "last", "alone"] [] (sp_cost_of C_Part) := ⟨_, _, [], ok_cost_of F_cost_of B c_leanest c_shared_cost o_Part n_Part g_ALONE, PySem.W.mg_of X G a_cost_of, k_cost_of, F_cost_of.binds (ps := ["solid", "many", "blank", "room", "last", "alone"]) fun _ _ _ _ _ _ us hl => match us, hl with | [_, _, _, _, _, _], _ => rfl, .nil⟩
  have c_look_list : Cal l.prog w K mg base "look_list" 1 ["things", "place", "least", "most"] [] sp_look_list := ⟨_, _, [], ok_look_list F_look_list B , PySem.W.mg_of X G a_look_list, k_look_list, F_look_list.binds (ps := ["things", "place", "least", "most"]) fun _ _ _ _ _ _ us hl => match us, hl with | [_, _, _, _], _ => rfl, .nil⟩
  have t_Lines_first_node : Met l.prog w K mg base "first_node" C_Lines 1 ["self"] [] (sp_Lines_first_node) := ⟨_, _, [], o_Lines.cl, ⟨a_Lines_first_node, i_Lines_first_node, k_Lines_first_node⟩, ok_Lines_first_node F_Lines_first_node B , F_Lines_first_node.binds (ps := ["self"]) fun _ _ _ _ _ _ us hl => match us, hl with | [_], _ => rfl, .nil⟩
  have t_Columns_first_node : Met l.prog w K mg base "first_node" C_Columns 1 ["self"] [] (sp_Columns_first_node) := ⟨_, _, [], o_Columns.cl, ⟨a_Columns_first_node, i_Columns_first_node, k_Columns_first_node⟩, ok_Columns_first_node F_Columns_first_node B , F_Columns_first_node.binds (ps := ["self"]) fun _ _ _ _ _ _ us hl => match us, hl with | [_], _ => rfl, .nil⟩
  have t_Lines_is_end : Met l.prog w K mg base "is_end" C_Lines 1 ["self", "node"] [] (sp_Lines_is_end C_Lines C_Part) := ⟨_, _, [], o_Lines.cl, ⟨a_Lines_is_end, i_Lines_is_end, k_Lines_is_end⟩, ok_Lines_is_end F_Lines_is_end B o_Lines n_Lines, F_Lines_is_end.binds (ps := ["self", "node"]) fun _ _ _ _ _ _ us hl => match us, hl with | [_, _], _ => rfl, .nil⟩
  have t_Columns_is_end : Met l.prog w K mg base "is_end" C_Columns 1 ["self", "node"] [] (sp_Columns_is_end l.prog w K mg base C_Columns C_Part) := ⟨_, _, [], o_Columns.cl, ⟨a_Columns_is_end, i_Columns_is_end, k_Columns_is_end⟩, ok_Columns_is_end F_Columns_is_end B o_Columns n_Columns, F_Columns_is_end.binds (ps := ["self", "node"]) fun _ _ _ _ _ _ us hl => match us, hl with | [_, _], _ => rfl, .nil⟩
  have t_Lines_steps_from : Met l.prog w K mg base "steps_from" C_Lines 7 ["self", "node"] [] (sp_Lines_steps_from C_Lines C_Part) := ⟨_, _, [], o_Lines.cl, ⟨a_Lines_steps_from, i_Lines_steps_from, k_Lines_steps_from⟩, ok_Lines_steps_from F_Lines_steps_from B c_cost_of o_Lines n_Lines, F_Lines_steps_from.binds (ps := ["self", "node"]) fun _ _ _ _ _ _ us hl => match us, hl with | [_, _], _ => rfl, .nil⟩
  have c_foot_by : Cal l.prog w K mg base "foot_by" 1 ["many", "high", "rule"] [] sp_foot_by := ⟨_, _, [], ok_foot_by F_foot_by B , PySem.W.mg_of X G a_foot_by, k_foot_by, F_foot_by.binds (ps := ["many", "high", "rule"]) fun _ _ _ _ _ _ us hl => match us, hl with | [_, _, _], _ => rfl, .nil⟩
  have t_Columns_steps_from : Met l.prog w K mg base "steps_from" C_Columns 9 ["self", "node"] [] (sp_Columns_steps_from l.prog w K mg base C_Columns C_Part) := ⟨_, _, [], o_Columns.cl, ⟨a_Columns_steps_from, i_Columns_steps_from, k_Columns_steps_from⟩, ok_Columns_steps_from F_Columns_steps_from B c_foot_by c_cost_of c_plus o_Columns n_Columns, F_Columns_steps_from.binds (ps := ["self", "node"]) fun _ _ _ _ _ _ us hl => match us, hl with | [_, _], _ => rfl, .nil⟩
  have c_steps_known : Cal l.prog w K mg base "steps_known" 10 ["ways"] [] (sp_steps_known l.prog w K mg base C_Lines C_Part C_Columns) := ⟨_, _, [], ok_steps_known F_steps_known B t_Lines_first_node t_Columns_first_node t_Lines_is_end t_Columns_is_end t_Lines_steps_from t_Columns_steps_from, PySem.W.mg_of X G a_steps_known, k_steps_known, F_steps_known.binds (ps := ["ways"]) fun _ _ _ _ _ _ us hl => match us, hl with | [_], _ => rfl, .nil⟩
  have c_least_price : Cal l.prog w K mg base "least_price" 4 ["steps", "prices"] [] sp_least_price := ⟨_, _, [], ok_least_price F_least_price B c_plus c_is_below, PySem.W.mg_of X G a_least_price, k_least_price, F_least_price.binds (ps := ["steps", "prices"]) fun _ _ _ _ _ _ us hl => match us, hl with | [_, _], _ => rfl, .nil⟩
  have c_prices_known : Cal l.prog w K mg base "prices_known" 5 ["found"] [] sp_prices_known := ⟨_, _, [], ok_prices_known F_prices_known B c_least_price, PySem.W.mg_of X G a_prices_known, k_prices_known, F_prices_known.binds (ps := ["found"]) fun _ _ _ _ _ _ us hl => match us, hl with | [_], _ => rfl, .nil⟩
  have c_next_chosen : Cal l.prog w K mg base "next_chosen" 4 ["steps", "prices", "price"] [] sp_next_chosen := ⟨_, _, [], ok_next_chosen F_next_chosen B c_plus, PySem.W.mg_of X G a_next_chosen, k_next_chosen, F_next_chosen.binds (ps := ["steps", "prices", "price"]) fun _ _ _ _ _ _ us hl => match us, hl with | [_, _, _], _ => rfl, .nil⟩
  have c_way_of : Cal l.prog w K mg base "way_of" 11 ["ways"] [] (sp_way_of l.prog w K mg base C_Lines C_Part C_Columns) := ⟨_, _, [], ok_way_of F_way_of B c_steps_known c_prices_known c_next_chosen t_Lines_first_node t_Columns_first_node, PySem.W.mg_of X G a_way_of, k_way_of, F_way_of.binds (ps := ["ways"]) fun _ _ _ _ _ _ us hl => match us, hl with | [_], _ => rfl, .nil⟩
  have c_is_strip : Cal l.prog w K mg base "is_strip" 3 ["thing"] [] sp_is_strip := ⟨_, _, [], ok_is_strip F_is_strip B c_is_length c_is_small g_MOST_NOTES, PySem.W.mg_of X G a_is_strip, k_is_strip, F_is_strip.binds (ps := ["thing"]) fun _ _ _ _ _ _ us hl => match us, hl with | [_], _ => rfl, .nil⟩
  have c_look_at_strips : Cal l.prog w K mg base "look_at_strips" 4 ["at", "strips"] [] sp_look_at_strips := ⟨_, _, [], ok_look_at_strips F_look_at_strips B c_is_strip g_MOST_STRIPS, PySem.W.mg_of X G a_look_at_strips, k_look_at_strips, F_look_at_strips.binds (ps := ["at", "strips"]) fun _ _ _ _ _ _ us hl => match us, hl with | [_, _], _ => rfl, .nil⟩
  have c_look_at_frame : Cal l.prog w K mg base "look_at_frame" 3 ["at", "feather", "rooms", "rest", "rule"] [] (sp_look_at_frame C_Part) := ⟨_, _, [], ok_look_at_frame F_look_at_frame B c_is_length c_is_small o_Part n_Part g_MOST_COLUMNS g_Part, PySem.W.mg_of X G a_look_at_frame, k_look_at_frame, F_look_at_frame.binds (ps := ["at", "feather", "rooms", "rest", "rule"]) fun _ _ _ _ _ _ us hl => match us, hl with | [_, _, _, _, _], _ => rfl, .nil⟩
  have c_copied_strips : Cal l.prog w K mg base "copied_strips" 1 ["strips"] [] sp_copied_strips := ⟨_, _, [], ok_copied_strips F_copied_strips B , PySem.W.mg_of X G a_copied_strips, k_copied_strips, F_copied_strips.binds (ps := ["strips"]) fun _ _ _ _ _ _ us hl => match us, hl with | [_], _ => rfl, .nil⟩
  have ok_Columns___init___ := ok_Columns___init__ F_Columns___init__ B c_look_at_strips c_look_at_frame c_copied_strips o_Columns n_Columns o_Part n_Part
  have m_Columns_at5 : Mak l.prog w K mg base "Columns" C_Columns 5 ["self", "strips", "feather", "rooms", "rest", "rule", "fee"] [.non] (sp_Columns___init__ l.prog w K mg base C_Columns C_Part) := by
    obtain ⟨ds, hv, hb⟩ := F_Columns___init__.binds1 (ps := ["self", "strips", "feather", "rooms", "rest", "rule", "fee"]) 6 0 (by simp) rfl (fun T kV doc pm an cdv ct us its h1 h2 => match us, its, h1, h2 with | [_, _, _, _, _, _], [_], _, _ => ⟨_, rfl, rfl⟩)
    exact ⟨_, _, ds, ⟨mk_Columns, a_Columns___init__, i_Columns___init__, kc_Columns⟩, ok_Columns___init___, PySem.W.mg_of X G aC_Columns, hb, hv⟩
  have m_Columns : Mak l.prog w K mg base "Columns" C_Columns 5 ["self", "strips", "feather", "rooms", "rest", "rule", "fee"] [] (sp_Columns___init__ l.prog w K mg base C_Columns C_Part) := by
    obtain ⟨ds, hv, hb⟩ := F_Columns___init__.binds1 (ps := ["self", "strips", "feather", "rooms", "rest", "rule", "fee"]) 7 1 (by simp) rfl (fun T kV doc pm an cdv ct us its h1 h2 => match us, its, h1, h2 with | [_, _, _, _, _, _, _], [_], _, _ => ⟨_, rfl, rfl⟩)
    exact ⟨_, _, ds, ⟨mk_Columns, a_Columns___init__, i_Columns___init__, kc_Columns⟩, ok_Columns___init___, PySem.W.mg_of X G aC_Columns, hb, hv⟩
  have ok_set_columns_ := ok_set_columns F_set_columns B c_way_of m_Columns
  have c_set_columns_at5 : Cal l.prog w K mg base "set_columns" 12 ["strips", "feather", "rooms", "rest", "rule", "fee"] [.non] (sp_set_columns l.prog w K mg base C_Part) := by
    obtain ⟨ds, hv, hb⟩ := F_set_columns.binds1 (ps := ["strips", "feather", "rooms", "rest", "rule", "fee"]) 5 0 (by simp) rfl (fun T kV doc pm an cdv ct us its h1 h2 => match us, its, h1, h2 with | [_, _, _, _, _], [_], _, _ => ⟨_, rfl, rfl⟩)
    exact ⟨_, _, ds, ok_set_columns_, PySem.W.mg_of X G a_set_columns, k_set_columns, hb, hv⟩
  have c_set_columns : Cal l.prog w K mg base "set_columns" 12 ["strips", "feather", "rooms", "rest", "rule", "fee"] [] (sp_set_columns l.prog w K mg base C_Part) := by
    obtain ⟨ds, hv, hb⟩ := F_set_columns.binds1 (ps := ["strips", "feather", "rooms", "rest", "rule", "fee"]) 6 1 (by simp) rfl (fun T kV doc pm an cdv ct us its h1 h2 => match us, its, h1, h2 with | [_, _, _, _, _, _], [_], _, _ => ⟨_, rfl, rfl⟩)
    exact ⟨_, _, ds, ok_set_columns_, PySem.W.mg_of X G a_set_columns, k_set_columns, hb, hv⟩
  have c_look_widths : Cal l.prog w K mg base "look_widths" 3 ["widths", "place"] [] sp_look_widths := ⟨_, _, [], ok_look_widths F_look_widths B c_look_list c_is_small g_MOST_WORDS, PySem.W.mg_of X G a_look_widths, k_look_widths, F_look_widths.binds (ps := ["widths", "place"]) fun _ _ _ _ _ _ us hl => match us, hl with | [_, _], _ => rfl, .nil⟩
  have m_Lines : Mak l.prog w K mg base "Lines" C_Lines 4 ["self", "widths", "blank", "rooms", "rest"] [] (sp_Lines___init__ C_Lines C_Part) := ⟨_, _, [], ⟨mk_Lines, a_Lines___init__, i_Lines___init__, kc_Lines⟩, ok_Lines___init__ F_Lines___init__ B c_look_widths c_look_list c_is_length o_Lines n_Lines o_Part n_Part g_MOST_ROOMS g_Part, PySem.W.mg_of X G aC_Lines, F_Lines___init__.binds (ps := ["self", "widths", "blank", "rooms", "rest"]) fun _ _ _ _ _ _ us hl => match us, hl with | [_, _, _, _, _], _ => rfl, .nil⟩
  have c_set_lines : Cal l.prog w K mg base "set_lines" 12 ["widths", "blank", "rooms", "rest"] [] (sp_set_lines C_Part) := ⟨_, _, [], ok_set_lines F_set_lines B c_way_of m_Lines, PySem.W.mg_of X G a_set_lines, k_set_lines, F_set_lines.binds (ps := ["widths", "blank", "rooms", "rest"]) fun _ _ _ _ _ _ us hl => match us, hl with | [_, _, _, _], _ => rfl, .nil⟩
  have c__law_bag : Cal l.prog w K mg base "_law_bag" 1 ["_law_script"] [] (sp__law_bag K) := ⟨_, _, [], ok__law_bag F__law_bag B , PySem.W.mg_of X G a__law_bag, k__law_bag, F__law_bag.binds (ps := ["_law_script"]) fun _ _ _ _ _ _ us hl => match us, hl with | [_], _ => rfl, .nil⟩
  have c__law_take : Cal l.prog w K mg base "_law_take" 1 ["_law_bag_here", "_law_many"] [] sp__law_take := ⟨_, _, [], ok__law_take F__law_take B , PySem.W.mg_of X G a__law_take, k__law_take, F__law_take.binds (ps := ["_law_bag_here", "_law_many"]) fun _ _ _ _ _ _ us hl => match us, hl with | [_, _], _ => rfl, .nil⟩
  have c__law_length : Cal l.prog w K mg base "_law_length" 2 ["_law_bag_here", "_law_most"] [] sp__law_length := ⟨_, _, [], ok__law_length F__law_length B c__law_take, PySem.W.mg_of X G a__law_length, k__law_length, F__law_length.binds (ps := ["_law_bag_here", "_law_most"]) fun _ _ _ _ _ _ us hl => match us, hl with | [_, _], _ => rfl, .nil⟩
  have c__law_whole : Cal l.prog w K mg base "_law_whole" 1 ["_law_found"] [] sp__law_whole := ⟨_, _, [], ok__law_whole F__law_whole B , PySem.W.mg_of X G a__law_whole, k__law_whole, F__law_whole.binds (ps := ["_law_found"]) fun _ _ _ _ _ _ us hl => match us, hl with | [_], _ => rfl, .nil⟩
  have c__law_low : Cal l.prog w K mg base "_law_low" 1 ["_law_top", "_law_bottom"] [] sp__law_low := ⟨_, _, [], ok__law_low F__law_low B , PySem.W.mg_of X G a__law_low, k__law_low, F__law_low.binds (ps := ["_law_top", "_law_bottom"]) fun _ _ _ _ _ _ us hl => match us, hl with | [_, _], _ => rfl, .nil⟩
  have c__law_fraction : Cal l.prog w K mg base "_law_fraction" 2 ["_law_found"] [] sp__law_fraction := ⟨_, _, [], ok__law_fraction F__law_fraction B c__law_whole c__law_low, PySem.W.mg_of X G a__law_fraction, k__law_fraction, F__law_fraction.binds (ps := ["_law_found"]) fun _ _ _ _ _ _ us hl => match us, hl with | [_], _ => rfl, .nil⟩
  have c__law_weight : Cal l.prog w K mg base "_law_weight" 2 ["_law_bag_here"] [] sp__law_weight := ⟨_, _, [], ok__law_weight F__law_weight B c__law_take, PySem.W.mg_of X G a__law_weight, k__law_weight, F__law_weight.binds (ps := ["_law_bag_here"]) fun _ _ _ _ _ _ us hl => match us, hl with | [_], _ => rfl, .nil⟩
  have c__law_part : Cal l.prog w K mg base "_law_part" 3 ["_law_bag_here", "_law_unit_here"] [] sp__law_part := ⟨_, _, [], ok__law_part F__law_part B c__law_length c__law_take c__law_weight, PySem.W.mg_of X G a__law_part, k__law_part, F__law_part.binds (ps := ["_law_bag_here", "_law_unit_here"]) fun _ _ _ _ _ _ us hl => match us, hl with | [_, _], _ => rfl, .nil⟩
  have c__law_copied : Cal l.prog w K mg base "_law_copied" 1 ["_law_strips_here"] [] sp__law_copied := ⟨_, _, [], ok__law_copied F__law_copied B , PySem.W.mg_of X G a__law_copied, k__law_copied, F__law_copied.binds (ps := ["_law_strips_here"]) fun _ _ _ _ _ _ us hl => match us, hl with | [_], _ => rfl, .nil⟩
  have c__law_foot : Cal l.prog w K mg base "_law_foot" 1 ["_law_strips_here", "_law_rule"] [] sp__law_foot := ⟨_, _, [], ok__law_foot F__law_foot B , PySem.W.mg_of X G a__law_foot, k__law_foot, F__law_foot.binds (ps := ["_law_strips_here", "_law_rule"]) fun _ _ _ _ _ _ us hl => match us, hl with | [_, _], _ => rfl, .nil⟩
  have c__law_solid : Cal l.prog w K mg base "_law_solid" 2 ["_law_strips_here", "_law_rule"] [] sp__law_solid := ⟨_, _, [], ok__law_solid F__law_solid B c__law_foot, PySem.W.mg_of X G a__law_solid, k__law_solid, F__law_solid.binds (ps := ["_law_strips_here", "_law_rule"]) fun _ _ _ _ _ _ us hl => match us, hl with | [_, _], _ => rfl, .nil⟩
  have c__law_room : Cal l.prog w K mg base "_law_room" 3 ["_law_bag_here", "_law_strips_here", "_law_feather_here", "_law_rule", "_law_unit_here"] [] sp__law_room := ⟨_, _, [], ok__law_room F__law_room B c__law_take c__law_length c__law_solid, PySem.W.mg_of X G a__law_room, k__law_room, F__law_room.binds (ps := ["_law_bag_here", "_law_strips_here", "_law_feather_here", "_law_rule", "_law_unit_here"]) fun _ _ _ _ _ _ us hl => match us, hl with | [_, _, _, _, _], _ => rfl, .nil⟩
  have c__law_frame : Cal l.prog w K mg base "_law_frame" 4 ["_law_bag_here", "_law_strips_here", "_law_unit_here"] [] sp__law_frame := ⟨_, _, [], ok__law_frame F__law_frame B c__law_part c__law_length c__law_take c__law_room, PySem.W.mg_of X G a__law_frame, k__law_frame, F__law_frame.binds (ps := ["_law_bag_here", "_law_strips_here", "_law_unit_here"]) fun _ _ _ _ _ _ us hl => match us, hl with | [_, _, _], _ => rfl, .nil⟩
  have c__law_feather : Cal l.prog w K mg base "_law_feather" 5 ["_law_told"] [] (sp__law_feather C_Part) := ⟨_, _, [], ok__law_feather F__law_feather B m_Part, PySem.W.mg_of X G a__law_feather, k__law_feather, F__law_feather.binds (ps := ["_law_told"]) fun _ _ _ _ _ _ us hl => match us, hl with | [_], _ => rfl, .nil⟩
  have c__law_told_well : Cal l.prog w K mg base "_law_told_well" 3 ["_law_found", "_law_many"] [] sp__law_told_well := ⟨_, _, [], ok__law_told_well F__law_told_well B c__law_fraction c__law_whole, PySem.W.mg_of X G a__law_told_well, k__law_told_well, F__law_told_well.binds (ps := ["_law_found", "_law_many"]) fun _ _ _ _ _ _ us hl => match us, hl with | [_, _], _ => rfl, .nil⟩
  exact ok_law F_law B c__law_bag c__law_take c__law_length c__law_frame c__law_feather c_set_lines c_set_columns_at5 c__law_copied c__law_told_well c_set_columns m_Lines m_Columns_at5 t_Lines_steps_from t_Columns_steps_from t_Lines_is_end t_Columns_is_end t_Lines_first_node t_Columns_first_node o_Lines n_Lines o_Columns n_Columns rfl TB
theorem walk {l : PySem.W.OpenLaw} {q : Program} {loose : List Str} {XP : (Str → Option Value) → Heap → Prop} {YP : World → Heap → Prop} {d : DefRec} {K : Params → PySem.W.Frag} (hn : l.most = some 63) (hdf : d.params.defaults = []) (hq : ((recsOf q).find? (fun e => e.name == (Str.ofString "law"))).isSome = true)
    (hY : ∀ (w : World) (h : Heap), YP w h → (K w.params).In h)
    (F : ∀ (w : World) (mg : Str → Option Value) (fa : Addr) (h : Heap), (K w.params).In h → h.Ns mainGlobals mg → mg d.name = some (.ref fa) →
      ∃ (c P : Addr) (fd : FuncData), PySem.W.tabIn (K w.params) "law" = some (c, P) ∧ (K w.params).lookup P = none ∧ (∀ (s : Shared) (u : Value), BindsTo s fd ⟨[u], []⟩ [("_law_script", u)]) ∧ ∀ base : Heap, (K w.params).In base → base.Ns mainGlobals mg → LamX.TabB base mg c P → FnOk l.prog w (K w.params) mg base CX0 13 fa fd ["_law_script"] (sp_law (K w.params) P)) :
    PySem.W.WalkO q loose XP YP l.row.toRowW d [] (fun f vs => PySem.call f vs) :=
  walk_T (n := 63) (k := 13) (x := "_law_script") (CX := fun _ => CX0) hn (by decide) hdf ⟨rfl, by decide, by decide⟩ hY (fun w mg fa h KX G hm => by
    obtain ⟨c, P, fd, h1, h2, h3, h4⟩ := F w mg fa h KX G hm
    obtain ⟨d2, hd2⟩ := Option.isSome_iff_exists.mp hq
    refine ⟨fd, [(c, P)], sp_law (K w.params) P, fun p hp => ?_, h3, fun H a ns hl hb hT hS => ⟨a, ns, rfl, hS, hT (c, P) List.mem_cons_self, hl, hb, fun _ => rfl⟩, fun base a b t => h4 base a b (t (c, P) List.mem_cons_self)⟩
    rw [List.mem_singleton.mp hp]
    exact ⟨⟨"law", d2, hd2, h1⟩, h2⟩) fun _ _ _ _ _ z => z
end Fs
open PySem PySem.W PyProof.Rows
set_option maxRecDepth 100000 in
set_option maxHeartbeats 0 in
theorem PySem.Challenge.cw_fairsheet_k82_lines_are_columns_holds : PySem.Challenge.rw_fairsheet_k82_lines_are_columns.Holds := by
  w_on; o_law; k_head; (case hw => w_witness2)
  k_fill
  refine Fs.walk (l := PySem.Challenge.rw_fairsheet_k82_lines_are_columns) rfl rfl rfl (fun w h Y => by first | exact PySem.W.kIn_of Y | exact PySem.W.km_in_of Y) ?F
  case F =>
    intro w mg fa h KX G hmg
    refine' Fs.all_mk KX G hmg ?a_is_whole ?l_is_whole ?cc_is_whole ?k_is_whole ?a_is_length ?l_is_length ?cc_is_length ?k_is_length ?a_is_small ?l_is_small ?cc_is_small ?k_is_small ?a_is_weight ?l_is_weight ?cc_is_weight ?k_is_weight ?a_divisor ?l_divisor ?cc_divisor ?k_divisor ?a_fraction ?l_fraction ?cc_fraction ?k_fraction ?dt_fraction ?a_plus ?l_plus ?cc_plus ?k_plus ?a_minus ?l_minus ?cc_minus ?k_minus ?a_times ?l_times ?cc_times ?k_times ?a_is_below ?l_is_below ?cc_is_below ?k_is_below ?aC_Part ?pg_Part ?hd_Part ?po_Part ?sa_Part ?mk_Part ?kc_Part ?ha_Part ?hn_Part ?htk_Part ?hm_Part ?nf_Part_base ?nf_Part_least ?nf_Part_greatest ?nf_Part_grow ?nf_Part_shrink ?a_Part___init__ ?i_Part___init__ ?l_Part___init__ ?cc_Part___init__ ?k_Part___init__ ?dt_Part___init__ ?a_Part_strain_at ?i_Part_strain_at ?l_Part_strain_at ?cc_Part_strain_at ?k_Part_strain_at ?a_leanest ?l_leanest ?cc_leanest ?k_leanest ?a_fattest ?l_fattest ?cc_fattest ?k_fattest ?a_blank_size ?l_blank_size ?cc_blank_size ?k_blank_size ?a_shared_cost ?l_shared_cost ?cc_shared_cost ?k_shared_cost ?a_cost_of ?l_cost_of ?cc_cost_of ?k_cost_of ?a_look_list ?l_look_list ?cc_look_list ?k_look_list ?aC_Lines ?pg_Lines ?hd_Lines ?po_Lines ?sa_Lines ?mk_Lines ?kc_Lines ?ha_Lines ?hn_Lines ?htk_Lines ?hm_Lines ?nf_Lines_widths ?nf_Lines_blank ?nf_Lines_rooms ?nf_Lines_rest ?a_Lines_first_node ?i_Lines_first_node ?l_Lines_first_node ?cc_Lines_first_node ?k_Lines_first_node ?aC_Columns ?pg_Columns ?hd_Columns ?po_Columns ?sa_Columns ?mk_Columns ?kc_Columns ?ha_Columns ?hn_Columns ?htk_Columns ?hm_Columns ?nf_Columns_strips ?nf_Columns_feather ?nf_Columns_rooms ?nf_Columns_rest ?nf_Columns_rule ?nf_Columns_fee ?a_Columns_first_node ?i_Columns_first_node ?l_Columns_first_node ?cc_Columns_first_node ?k_Columns_first_node ?a_Lines_is_end ?i_Lines_is_end ?l_Lines_is_end ?cc_Lines_is_end ?k_Lines_is_end ?a_Columns_is_end ?i_Columns_is_end ?l_Columns_is_end ?cc_Columns_is_end ?k_Columns_is_end ?a_Lines_steps_from ?i_Lines_steps_from ?l_Lines_steps_from ?cc_Lines_steps_from ?k_Lines_steps_from ?a_foot_by ?l_foot_by ?cc_foot_by ?k_foot_by ?a_Columns_steps_from ?i_Columns_steps_from ?l_Columns_steps_from ?cc_Columns_steps_from ?k_Columns_steps_from ?a_steps_known ?l_steps_known ?cc_steps_known ?k_steps_known ?a_least_price ?l_least_price ?cc_least_price ?k_least_price ?a_prices_known ?l_prices_known ?cc_prices_known ?k_prices_known ?a_next_chosen ?l_next_chosen ?cc_next_chosen ?k_next_chosen ?a_way_of ?l_way_of ?cc_way_of ?k_way_of ?a_is_strip ?l_is_strip ?cc_is_strip ?k_is_strip ?a_look_at_strips ?l_look_at_strips ?cc_look_at_strips ?k_look_at_strips ?a_look_at_frame ?l_look_at_frame ?cc_look_at_frame ?k_look_at_frame ?a_copied_strips ?l_copied_strips ?cc_copied_strips ?k_copied_strips ?a_Columns___init__ ?i_Columns___init__ ?l_Columns___init__ ?cc_Columns___init__ ?k_Columns___init__ ?dt_Columns___init__ ?a_set_columns ?l_set_columns ?cc_set_columns ?k_set_columns ?dt_set_columns ?a_look_widths ?l_look_widths ?cc_look_widths ?k_look_widths ?a_Lines___init__ ?i_Lines___init__ ?l_Lines___init__ ?cc_Lines___init__ ?k_Lines___init__ ?a_set_lines ?l_set_lines ?cc_set_lines ?k_set_lines ?a__law_bag ?l__law_bag ?cc__law_bag ?k__law_bag ?a__law_take ?l__law_take ?cc__law_take ?k__law_take ?a__law_length ?l__law_length ?cc__law_length ?k__law_length ?a__law_whole ?l__law_whole ?cc__law_whole ?k__law_whole ?a__law_low ?l__law_low ?cc__law_low ?k__law_low ?a__law_fraction ?l__law_fraction ?cc__law_fraction ?k__law_fraction ?a__law_weight ?l__law_weight ?cc__law_weight ?k__law_weight ?a__law_part ?l__law_part ?cc__law_part ?k__law_part ?a__law_copied ?l__law_copied ?cc__law_copied ?k__law_copied ?a__law_foot ?l__law_foot ?cc__law_foot ?k__law_foot ?a__law_solid ?l__law_solid ?cc__law_solid ?k__law_solid ?a__law_room ?l__law_room ?cc__law_room ?k__law_room ?a__law_frame ?l__law_frame ?cc__law_frame ?k__law_frame ?a__law_feather ?l__law_feather ?cc__law_feather ?k__law_feather ?a__law_told_well ?l__law_told_well ?cc__law_told_well ?k__law_told_well ?a_law ?l_law ?cc_law ?k_law ?lc_law ?tv_law ?np_law ?aC_NoFraction ?ek_NoFraction ?eb_NoFraction ?et_NoFraction ?ic_NoFraction ?aC_Wrong ?ek_Wrong ?eb_Wrong ?et_Wrong ?ic_Wrong ?aC_FairError ?ek_FairError ?eb_FairError ?et_FairError ?ic_FairError ?bsp ?brd ?bat ?xL_Wrong ?xs_Wrong ?nb_Wrong ?a_Wrong___init__ ?t1_Wrong ?l_Wrong___init__ ?cc_Wrong___init__ ?k_Wrong___init__ ?eq_NoFraction ?z_len ?z_abs ?z_isinstance ?z_min ?z_max ?z_sum ?z_sorted ?z_range ?z_zip ?z_enumerate ?z_reversed ?z_int ?z_bool ?z_tuple ?z_list ?z_str ?z_dict ?z_ValueError ?z_set ?z_any ?z_all ?n_LENGTH ?n_SMALL ?n_WEIGHT ?n_ALONE ?n_MOST_STRIPS ?n_MOST_COLUMNS ?n_MOST_NOTES ?n_MOST_WORDS ?n_MOST_ROOMS
    (case a_is_whole => k_is)
    (case l_is_whole => k_is)
    (case cc_is_whole => k_is)
    (case k_is_whole => k_is)
    (case a_is_length => k_is)
    (case l_is_length => k_is)
    (case cc_is_length => k_is)
    (case k_is_length => k_is)
    (case a_is_small => k_is)
    (case l_is_small => k_is)
    (case cc_is_small => k_is)
    (case k_is_small => k_is)
    (case a_is_weight => k_is)
    (case l_is_weight => k_is)
    (case cc_is_weight => k_is)
    (case k_is_weight => k_is)
    (case a_divisor => k_is)
    (case l_divisor => k_is)
    (case cc_divisor => k_is)
    (case k_divisor => k_is)
    (case a_fraction => k_is)
    (case l_fraction => k_is)
    (case cc_fraction => k_is)
    (case k_fraction => k_is)
    (case dt_fraction => k_is)
    (case a_plus => k_is)
    (case l_plus => k_is)
    (case cc_plus => k_is)
    (case k_plus => k_is)
    (case a_minus => k_is)
    (case l_minus => k_is)
    (case cc_minus => k_is)
    (case k_minus => k_is)
    (case a_times => k_is)
    (case l_times => k_is)
    (case cc_times => k_is)
    (case k_times => k_is)
    (case a_is_below => k_is)
    (case l_is_below => k_is)
    (case cc_is_below => k_is)
    (case k_is_below => k_is)
    (case aC_Part => k_is)
    (case pg_Part => k_is)
    (case hd_Part => k_is)
    (case po_Part => k_is)
    (case sa_Part => k_is)
    (case mk_Part => k_is)
    (case kc_Part => k_is)
    (case ha_Part => k_is)
    (case hn_Part => k_is)
    (case htk_Part => k_is)
    (case hm_Part => k_is)
    (case nf_Part_base => k_is)
    (case nf_Part_least => k_is)
    (case nf_Part_greatest => k_is)
    (case nf_Part_grow => k_is)
    (case nf_Part_shrink => k_is)
    (case a_Part___init__ => k_is)
    (case i_Part___init__ => k_is)
    (case l_Part___init__ => k_is)
    (case cc_Part___init__ => k_is)
    (case k_Part___init__ => k_is)
    (case dt_Part___init__ => k_is)
    (case a_Part_strain_at => k_is)
    (case i_Part_strain_at => k_is)
    (case l_Part_strain_at => k_is)
    (case cc_Part_strain_at => k_is)
    (case k_Part_strain_at => k_is)
    (case a_leanest => k_is)
    (case l_leanest => k_is)
    (case cc_leanest => k_is)
    (case k_leanest => k_is)
    (case a_fattest => k_is)
    (case l_fattest => k_is)
    (case cc_fattest => k_is)
    (case k_fattest => k_is)
    (case a_blank_size => k_is)
    (case l_blank_size => k_is)
    (case cc_blank_size => k_is)
    (case k_blank_size => k_is)
    (case a_shared_cost => k_is)
    (case l_shared_cost => k_is)
    (case cc_shared_cost => k_is)
    (case k_shared_cost => k_is)
    (case a_cost_of => k_is)
    (case l_cost_of => k_is)
    (case cc_cost_of => k_is)
    (case k_cost_of => k_is)
    (case a_look_list => k_is)
    (case l_look_list => k_is)
    (case cc_look_list => k_is)
    (case k_look_list => k_is)
    (case aC_Lines => k_is)
    (case pg_Lines => k_is)
    (case hd_Lines => k_is)
    (case po_Lines => k_is)
    (case sa_Lines => k_is)
    (case mk_Lines => k_is)
    (case kc_Lines => k_is)
    (case ha_Lines => k_is)
    (case hn_Lines => k_is)
    (case htk_Lines => k_is)
    (case hm_Lines => k_is)
    (case nf_Lines_widths => k_is)
    (case nf_Lines_blank => k_is)
    (case nf_Lines_rooms => k_is)
    (case nf_Lines_rest => k_is)
    (case a_Lines_first_node => k_is)
    (case i_Lines_first_node => k_is)
    (case l_Lines_first_node => k_is)
    (case cc_Lines_first_node => k_is)
    (case k_Lines_first_node => k_is)
    (case aC_Columns => k_is)
    (case pg_Columns => k_is)
    (case hd_Columns => k_is)
    (case po_Columns => k_is)
    (case sa_Columns => k_is)
    (case mk_Columns => k_is)
    (case kc_Columns => k_is)
    (case ha_Columns => k_is)
    (case hn_Columns => k_is)
    (case htk_Columns => k_is)
    (case hm_Columns => k_is)
    (case nf_Columns_strips => k_is)
    (case nf_Columns_feather => k_is)
    (case nf_Columns_rooms => k_is)
    (case nf_Columns_rest => k_is)
    (case nf_Columns_rule => k_is)
    (case nf_Columns_fee => k_is)
    (case a_Columns_first_node => k_is)
    (case i_Columns_first_node => k_is)
    (case l_Columns_first_node => k_is)
    (case cc_Columns_first_node => k_is)
    (case k_Columns_first_node => k_is)
    (case a_Lines_is_end => k_is)
    (case i_Lines_is_end => k_is)
    (case l_Lines_is_end => k_is)
    (case cc_Lines_is_end => k_is)
    (case k_Lines_is_end => k_is)
    (case a_Columns_is_end => k_is)
    (case i_Columns_is_end => k_is)
    (case l_Columns_is_end => k_is)
    (case cc_Columns_is_end => k_is)
    (case k_Columns_is_end => k_is)
    (case a_Lines_steps_from => k_is)
    (case i_Lines_steps_from => k_is)
    (case l_Lines_steps_from => k_is)
    (case cc_Lines_steps_from => k_is)
    (case k_Lines_steps_from => k_is)
    (case a_foot_by => k_is)
    (case l_foot_by => k_is)
    (case cc_foot_by => k_is)
    (case k_foot_by => k_is)
    (case a_Columns_steps_from => k_is)
    (case i_Columns_steps_from => k_is)
    (case l_Columns_steps_from => k_is)
    (case cc_Columns_steps_from => k_is)
    (case k_Columns_steps_from => k_is)
    (case a_steps_known => k_is)
    (case l_steps_known => k_is)
    (case cc_steps_known => k_is)
    (case k_steps_known => k_is)
    (case a_least_price => k_is)
    (case l_least_price => k_is)
    (case cc_least_price => k_is)
    (case k_least_price => k_is)
    (case a_prices_known => k_is)
    (case l_prices_known => k_is)
    (case cc_prices_known => k_is)
    (case k_prices_known => k_is)
    (case a_next_chosen => k_is)
    (case l_next_chosen => k_is)
    (case cc_next_chosen => k_is)
    (case k_next_chosen => k_is)
    (case a_way_of => k_is)
    (case l_way_of => k_is)
    (case cc_way_of => k_is)
    (case k_way_of => k_is)
    (case a_is_strip => k_is)
    (case l_is_strip => k_is)
    (case cc_is_strip => k_is)
    (case k_is_strip => k_is)
    (case a_look_at_strips => k_is)
    (case l_look_at_strips => k_is)
    (case cc_look_at_strips => k_is)
    (case k_look_at_strips => k_is)
    (case a_look_at_frame => k_is)
    (case l_look_at_frame => k_is)
    (case cc_look_at_frame => k_is)
    (case k_look_at_frame => k_is)
    (case a_copied_strips => k_is)
    (case l_copied_strips => k_is)
    (case cc_copied_strips => k_is)
    (case k_copied_strips => k_is)
    (case a_Columns___init__ => k_is)
    (case i_Columns___init__ => k_is)
    (case l_Columns___init__ => k_is)
    (case cc_Columns___init__ => k_is)
    (case k_Columns___init__ => k_is)
    (case dt_Columns___init__ => k_is)
    (case a_set_columns => k_is)
    (case l_set_columns => k_is)
    (case cc_set_columns => k_is)
    (case k_set_columns => k_is)
    (case dt_set_columns => k_is)
    (case a_look_widths => k_is)
    (case l_look_widths => k_is)
    (case cc_look_widths => k_is)
    (case k_look_widths => k_is)
    (case a_Lines___init__ => k_is)
    (case i_Lines___init__ => k_is)
    (case l_Lines___init__ => k_is)
    (case cc_Lines___init__ => k_is)
    (case k_Lines___init__ => k_is)
    (case a_set_lines => k_is)
    (case l_set_lines => k_is)
    (case cc_set_lines => k_is)
    (case k_set_lines => k_is)
    (case a__law_bag => k_is)
    (case l__law_bag => k_is)
    (case cc__law_bag => k_is)
    (case k__law_bag => k_is)
    (case a__law_take => k_is)
    (case l__law_take => k_is)
    (case cc__law_take => k_is)
    (case k__law_take => k_is)
    (case a__law_length => k_is)
    (case l__law_length => k_is)
    (case cc__law_length => k_is)
    (case k__law_length => k_is)
    (case a__law_whole => k_is)
    (case l__law_whole => k_is)
    (case cc__law_whole => k_is)
    (case k__law_whole => k_is)
    (case a__law_low => k_is)
    (case l__law_low => k_is)
    (case cc__law_low => k_is)
    (case k__law_low => k_is)
    (case a__law_fraction => k_is)
    (case l__law_fraction => k_is)
    (case cc__law_fraction => k_is)
    (case k__law_fraction => k_is)
    (case a__law_weight => k_is)
    (case l__law_weight => k_is)
    (case cc__law_weight => k_is)
    (case k__law_weight => k_is)
    (case a__law_part => k_is)
    (case l__law_part => k_is)
    (case cc__law_part => k_is)
    (case k__law_part => k_is)
    (case a__law_copied => k_is)
    (case l__law_copied => k_is)
    (case cc__law_copied => k_is)
    (case k__law_copied => k_is)
    (case a__law_foot => k_is)
    (case l__law_foot => k_is)
    (case cc__law_foot => k_is)
    (case k__law_foot => k_is)
    (case a__law_solid => k_is)
    (case l__law_solid => k_is)
    (case cc__law_solid => k_is)
    (case k__law_solid => k_is)
    (case a__law_room => k_is)
    (case l__law_room => k_is)
    (case cc__law_room => k_is)
    (case k__law_room => k_is)
    (case a__law_frame => k_is)
    (case l__law_frame => k_is)
    (case cc__law_frame => k_is)
    (case k__law_frame => k_is)
    (case a__law_feather => k_is)
    (case l__law_feather => k_is)
    (case cc__law_feather => k_is)
    (case k__law_feather => k_is)
    (case a__law_told_well => k_is)
    (case l__law_told_well => k_is)
    (case cc__law_told_well => k_is)
    (case k__law_told_well => k_is)
    (case a_law => k_is)
    (case l_law => k_is)
    (case cc_law => k_is)
    (case k_law => k_is)
    (case lc_law => k_is)
    (case tv_law => rfl)
    (case np_law => kernel_rfl)
    (case aC_NoFraction => k_is)
    (case ek_NoFraction => k_is)
    (case eb_NoFraction => k_is)
    (case et_NoFraction => k_is)
    (case ic_NoFraction => k_is)
    (case aC_Wrong => k_is)
    (case ek_Wrong => k_is)
    (case eb_Wrong => k_is)
    (case et_Wrong => k_is)
    (case ic_Wrong => k_is)
    (case aC_FairError => k_is)
    (case ek_FairError => k_is)
    (case eb_FairError => k_is)
    (case et_FairError => k_is)
    (case ic_FairError => k_is)
    (case bsp => k_is)
    (case brd => k_is)
    (case bat => k_is)
    (case xL_Wrong => k_is)
    (case xs_Wrong => k_is)
    (case nb_Wrong => k_is)
    (case a_Wrong___init__ => k_is)
    (case t1_Wrong => k_is)
    (case l_Wrong___init__ => k_is)
    (case cc_Wrong___init__ => k_is)
    (case k_Wrong___init__ => k_is)
    (case eq_NoFraction => k_exc)
    (case z_len => k_is)
    (case z_abs => k_is)
    (case z_isinstance => k_is)
    (case z_min => k_is)
    (case z_max => k_is)
    (case z_sum => k_is)
    (case z_sorted => k_is)
    (case z_range => k_is)
    (case z_zip => k_is)
    (case z_enumerate => k_is)
    (case z_reversed => k_is)
    (case z_int => k_is)
    (case z_bool => k_is)
    (case z_tuple => k_is)
    (case z_list => k_is)
    (case z_str => k_is)
    (case z_dict => k_is)
    (case z_ValueError => k_is)
    (case z_set => k_is)
    (case z_any => k_is)
    (case z_all => k_is)
    (case n_LENGTH => k_is)
    (case n_SMALL => k_is)
    (case n_WEIGHT => k_is)
    (case n_ALONE => k_is)
    (case n_MOST_STRIPS => k_is)
    (case n_MOST_COLUMNS => k_is)
    (case n_MOST_NOTES => k_is)
    (case n_MOST_WORDS => k_is)
    (case n_MOST_ROOMS => k_is)
