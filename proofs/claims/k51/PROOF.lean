import PyProof.Rows.All
import Wide.All
import OpenK.AllK
import Wide.FinOn
import HandS.ForMost
import HandS.Wide
import HandS.Walk
import HandS.IsInst
import HandS.Flow
import HandS.Style
import HandS.Zip
import HandS.EndBits
import HandS.Defaults
import HandS.More
import HandS.MakeKwOnly
import HandS.MakeKw
import HandS.Text
import PyProof.StrOps2
import HandS.Nested
import HandS.EndTab
import HandS.SortInts
import HandS.Exc
import HandS.ExcOwn
import HandS.WordsExc
import HandS.ExcIs
import HandS.ExcInit
import KE.KExcIs
import HandS.DictComp
import KE.KDictCopyH
import HandS.SortKw
import HandS.SortRule
import HandS.Conv
import HandS.ExcValue
import KE.KDictSum
import HandS.TupLen
import HandS.Deep
import PyProof.DictMoreH
import HandS.TupAny
import HandS.TryOnly
import PySem.Challenge.RW_fairsheet_k51_heights_kept
set_option Elab.async false
set_option linter.all false
set_option maxRecDepth 100000
set_option maxHeartbeats 20000000
set_option exponentiation.threshold 20000
namespace Fs
open PySem PySem.Spec PyProof.Rows L2

/-! ### data and what denotes it -/
inductive D where
  | non | bl (b : Bool) | int (i : Int) | str (x : Str) | ref (a : Addr) | ty (n : String)
  | tup (ds : List D) | lst (ds : List D) | obj (C : Addr) (fs : List (Str × D)) | dict | fact (φ : V → Hp → Prop)

mutual
inductive Is (I : Hp) : V → D → Prop
  | non : Is I .non .non
  | bl (b : Bool) : Is I (.bl b) (.bl b)
  | int (i : Int) : Is I (.int i) (.int i)
  | str (x : Str) : Is I (.str x) (.str x)
  | ref (a : Addr) : Is I (.ref a) (.ref a)
  | ty (n : String) : Is I (.ty n) (.ty n)
  | tup {p : Addr} {vs : List V} {ds : List D} : I p = some (.tup vs) → IsA I vs ds → Is I (.ref p) (.tup ds)
  | lst {p : Addr} {vs : List V} {ds : List D} : I p = some (.lst vs) → IsA I vs ds → Is I (.ref p) (.lst ds)
  | obj {p C dx : Addr} {fs : List (Str × V)} {ds : List (Str × D)} : I p = some (.ins C dx fs) → IsF I fs ds → Is I (.ref p) (.obj C ds)
  | dct {p : Addr} {kvs : List (Key × V)} : I p = some (.dK kvs) → Is I (.ref p) .dict
  | fact {v : V} {φ : V → Hp → Prop} {J : Hp} : Same J I → φ v J → Is I v (.fact φ)
inductive IsA (I : Hp) : List V → List D → Prop
  | nil : IsA I [] []
  | cons {v : V} {d : D} {vs : List V} {ds : List D} : Is I v d → IsA I vs ds → IsA I (v :: vs) (d :: ds)
inductive IsF (I : Hp) : List (Str × V) → List (Str × D) → Prop
  | nil : IsF I [] []
  | cons {f : Str} {v : V} {d : D} {vs : List (Str × V)} {ds : List (Str × D)} : Is I v d → IsF I vs ds → IsF I ((f, v) :: vs) ((f, d) :: ds)
end
mutual
theorem Is.mono {I J : Hp} (s : Same I J) : ∀ {v : V} {d : D}, Is I v d → Is J v d
  | _, _, .non => .non
  | _, _, .bl b => .bl b
  | _, _, .int i => .int i
  | _, _, .str x => .str x
  | _, _, .ref a => .ref a
  | _, _, .ty n => .ty n
  | _, _, .tup h a => .tup (s _ _ h) (IsA.mono s a)
  | _, _, .lst h a => .lst (s _ _ h) (IsA.mono s a)
  | _, _, .obj h a => .obj (s _ _ h) (IsF.mono s a)
  | _, _, .dct h => .dct (s _ _ h)
  | _, _, .fact h q => .fact (h.trans s) q
theorem IsA.mono {I J : Hp} (s : Same I J) : ∀ {vs : List V} {ds : List D}, IsA I vs ds → IsA J vs ds
  | _, _, .nil => .nil
  | _, _, .cons h a => .cons (Is.mono s h) (IsA.mono s a)
theorem IsF.mono {I J : Hp} (s : Same I J) : ∀ {vs : List (Str × V)} {ds : List (Str × D)}, IsF I vs ds → IsF J vs ds
  | _, _, .nil => .nil
  | _, _, .cons h a => .cons (Is.mono s h) (IsF.mono s a)
end
section
variable {I J : Hp} {v : V} {vs : List V} {ds es : List D} {d : D}
theorem Is.int_eq {n : Int} (h : Is I v (.int n)) : v = .int n := by cases h; rfl
theorem Is.bl_eq {n : Bool} (h : Is I v (.bl n)) : v = .bl n := by cases h; rfl
theorem Is.str_eq {n : Str} (h : Is I v (.str n)) : v = .str n := by cases h; rfl
theorem Is.non_eq (h : Is I v .non) : v = .non := by cases h; rfl
theorem Is.ref_eq {a : Addr} (h : Is I v (.ref a)) : v = .ref a := by cases h; rfl
theorem Is.tup_ex (h : Is I v (.tup ds)) : ∃ p vs, v = .ref p ∧ I p = some (.tup vs) ∧ IsA I vs ds := by
  cases h with | tup h a => exact ⟨_, _, rfl, h, a⟩
theorem Is.lst_ex (h : Is I v (.lst ds)) : ∃ p vs, v = .ref p ∧ I p = some (.lst vs) ∧ IsA I vs ds := by
  cases h with | lst h a => exact ⟨_, _, rfl, h, a⟩
theorem Is.obj_ex {C : Addr} {fs : List (Str × D)} (h : Is I v (.obj C fs)) : ∃ p dx vs, v = .ref p ∧ I p = some (.ins C dx vs) ∧ IsF I vs fs := by
  cases h with | obj h a => exact ⟨_, _, _, rfl, h, a⟩
theorem IsA.length : ∀ {vs : List V} {ds : List D}, IsA I vs ds → vs.length = ds.length
  | _, _, .nil => rfl
  | _, _, .cons _ a => by rw [List.length_cons, List.length_cons, a.length]
theorem IsA.get : ∀ {vs : List V} {ds : List D} {i : Nat} {d : D}, IsA I vs ds → ds[i]? = some d → ∃ v, vs[i]? = some v ∧ Is I v d
  | _, _, _, _, .nil, h => by simp at h
  | _, _, 0, _, .cons h _, e => by simp at e; subst e; exact ⟨_, rfl, h⟩
  | _, _, i + 1, d, .cons _ a, e => by
    obtain ⟨v, h1, h2⟩ := IsA.get (i := i) (d := d) a (by simpa using e)
    exact ⟨v, by simpa using h1, h2⟩
theorem IsA.of : ∀ {vs : List V} {ds : List D} {i : Nat} {v : V}, IsA I vs ds → vs[i]? = some v → ∃ d, ds[i]? = some d ∧ Is I v d
  | _, _, _, _, .nil, h => by simp at h
  | _, _, 0, _, .cons h _, e => by simp at e; subst e; exact ⟨_, rfl, h⟩
  | _, _, i + 1, d, .cons _ a, e => by
    obtain ⟨v, h1, h2⟩ := IsA.of (i := i) a (by simpa using e)
    exact ⟨v, by simpa using h1, h2⟩
theorem IsA.app : ∀ {vs us : List V} {ds es : List D}, IsA I vs ds → IsA I us es → IsA I (vs ++ us) (ds ++ es)
  | _, _, _, _, .nil, b => b
  | _, _, _, _, .cons h a, b => .cons h (IsA.app a b)
theorem IsA.one (h : Is I v d) : IsA I [v] [d] := .cons h .nil
theorem IsA.rev : ∀ {vs : List V} {ds : List D}, IsA I vs ds → IsA I vs.reverse ds.reverse
  | _, _, .nil => .nil
  | _, _, .cons h a => by rw [List.reverse_cons, List.reverse_cons]; exact (IsA.rev a).app (.one h)
theorem IsA.take : ∀ {vs : List V} {ds : List D} (n : Nat), IsA I vs ds → IsA I (vs.take n) (ds.take n)
  | _, _, 0, _ => .nil
  | _, _, _ + 1, .nil => .nil
  | _, _, n + 1, .cons h a => .cons h (IsA.take n a)
theorem IsA.drop : ∀ {vs : List V} {ds : List D} (n : Nat), IsA I vs ds → IsA I (vs.drop n) (ds.drop n)
  | _, _, 0, a => a
  | _, _, _ + 1, .nil => .nil
  | _, _, n + 1, .cons h a => IsA.drop n a
theorem IsA.ints : ∀ (ns : List Int), IsA I (ns.map V.int) (ns.map D.int)
  | [] => .nil
  | n :: r => .cons (.int n) (IsA.ints r)
theorem IsA.ints_eq : ∀ {vs : List V} {ns : List Int}, IsA I vs (ns.map D.int) → vs = ns.map V.int
  | _, [], h => by cases h; rfl
  | _, n :: r, h => by
    cases h with
    | cons h a => rw [h.int_eq, IsA.ints_eq a]; rfl
theorem IsF.get : ∀ {fs : List (Str × V)} {ds : List (Str × D)} {f : Str} {d : D}, IsF I fs ds → ds.lookup f = some d → ∃ v, fs.lookup f = some v ∧ Is I v d
  | _, _, _, _, .nil, e => by simp at e
  | _, _, f, d, .cons (f := g) h a, e => by
    rw [List.lookup_cons] at e
    cases hc : f == g with
    | true => rw [hc] at e; simp at e; subst e; exact ⟨_, by rw [List.lookup_cons, hc], h⟩
    | false =>
      rw [hc] at e
      obtain ⟨v, h1, h2⟩ := IsF.get a e
      exact ⟨v, by rw [List.lookup_cons, hc]; exact h1, h2⟩
theorem IsF.no : ∀ {fs : List (Str × V)} {ds : List (Str × D)} {f : Str}, IsF I fs ds → ds.lookup f = none → fs.lookup f = none
  | _, _, _, .nil, _ => rfl
  | _, _, f, .cons (f := g) h a, e => by
    rw [List.lookup_cons] at e ⊢
    cases hc : f == g with
    | true => rw [hc] at e; cases e
    | false => rw [hc] at e; exact IsF.no a e
end

/-! ### the heap: what stays (I), what may be changed (M) -/
structure W (I H : Hp) (M : List (Addr × HO)) : Prop where
  imm : Same I H
  mu : ∀ p ∈ M, H p.1 = some p.2 ∧ I p.1 = none
  nd : (M.map (·.1)).Nodup
section
variable {I H : Hp} {M M1 M2 : List (Addr × HO)} {p : Addr} {o o' : HO} {m : Addr × HO}
theorem same_new (h : H p = none) : Same H (upd H p o) := fun b x e => by
  rw [upd_ne (ne_of_none e h)]
  exact e
theorem W.fresh (w : W I H M) (h : H p = none) : I p = none := w.imm.free h
theorem W.notin (w : W I H M) (h : H p = none) : p ∉ M.map (·.1) := fun q => by
  obtain ⟨x, hx, e⟩ := List.mem_map.mp q
  have := (w.mu x hx).1
  rw [e, h] at this
  cases this
/-- a new thing that stays -/
theorem W.newI (w : W I H M) (h : H p = none) : W (upd I p o) (upd H p o) M where
  imm := fun b x e => by
    by_cases hb : b = p
    · subst hb; rw [upd_same] at e ⊢; exact e
    · rw [upd_ne hb] at e ⊢; exact w.imm b x e
  mu := fun x hx => by
    have q : x.1 ≠ p := fun e => w.notin h (e ▸ List.mem_map_of_mem hx)
    rw [upd_ne q, upd_ne q]
    exact w.mu x hx
  nd := w.nd
theorem W.same (w : W I H M) (h : H p = none) : Same I (upd I p o) := same_new (w.fresh h)
/-- a new thing that may be changed -/
theorem W.newM (w : W I H M) (h : H p = none) : W I (upd H p o) ((p, o) :: M) where
  imm := fun b x e => by
    rw [upd_ne (ne_of_none e (w.fresh h))]
    exact w.imm b x e
  mu := fun x hx => by
    rcases List.mem_cons.mp hx with e | hx
    · subst e; exact ⟨upd_same, w.fresh h⟩
    · have q : x.1 ≠ p := fun e => w.notin h (e ▸ List.mem_map_of_mem hx)
      rw [upd_ne q]
      exact w.mu x hx
  nd := List.nodup_cons.mpr ⟨w.notin h, w.nd⟩
theorem W.newM2 (w : W I H (m :: M)) (h : H p = none) : W I (upd H p o) (m :: (p, o) :: M) := by
  have q := w.newM (o := o) h
  refine ⟨q.imm, fun x hx => q.mu x ?_, ?_⟩
  · rcases List.mem_cons.mp hx with e | hx
    · exact List.mem_cons.mpr (.inr (List.mem_cons.mpr (.inl e)))
    · rcases List.mem_cons.mp hx with e | hx
      · exact List.mem_cons.mpr (.inl e)
      · exact List.mem_cons.mpr (.inr (List.mem_cons.mpr (.inr hx)))
  · have n := q.nd
    simp only [List.map_cons, List.nodup_cons, List.mem_cons, not_or] at n ⊢
    exact ⟨⟨fun e => n.1.1 e.symm, n.2.1⟩, n.1.2, n.2.2⟩
/-- a change -/
theorem W.put (w : W I H (M1 ++ (p, o) :: M2)) : W I (upd H p o') (M1 ++ (p, o') :: M2) := by
  have n := w.nd
  simp only [List.map_append, List.map_cons] at n
  have hp := w.mu (p, o) (List.mem_append_right _ List.mem_cons_self)
  refine ⟨fun b x e => ?_, fun x hx => ?_, by simpa only [List.map_append, List.map_cons] using n⟩
  · rw [upd_ne (ne_of_none e hp.2)]
    exact w.imm b x e
  · have n2 := List.nodup_append.mp n
    have n3 := List.nodup_cons.mp n2.2.1
    rcases List.mem_append.mp hx with h | h
    · have q : x.1 ≠ p := n2.2.2 _ (List.mem_map_of_mem h) _ List.mem_cons_self
      rw [upd_ne q]
      exact w.mu x (List.mem_append_left _ h)
    · rcases List.mem_cons.mp h with e | h
      · subst e; exact ⟨upd_same, hp.2⟩
      · have q : x.1 ≠ p := fun e => n3.1 (e ▸ List.mem_map_of_mem h)
        rw [upd_ne q]
        exact w.mu x (List.mem_append_right _ (List.mem_cons_of_mem _ h))
theorem W.put0 (w : W I H ((p, o) :: M2)) : W I (upd H p o') ((p, o') :: M2) := W.put (M1 := []) w
theorem W.put1 {m0 : Addr × HO} (w : W I H (m0 :: (p, o) :: M2)) : W I (upd H p o') (m0 :: (p, o') :: M2) := W.put (M1 := [m0]) w
theorem W.put2 {m0 m1 : Addr × HO} (w : W I H (m0 :: m1 :: (p, o) :: M2)) : W I (upd H p o') (m0 :: m1 :: (p, o') :: M2) := W.put (M1 := [m0, m1]) w
/-- what may be changed stays from now on -/
theorem W.frz (w : W I H (M1 ++ (p, o) :: M2)) : W (upd I p o) H (M1 ++ M2) := by
  have n := w.nd
  simp only [List.map_append, List.map_cons] at n
  have hp := w.mu (p, o) (List.mem_append_right _ List.mem_cons_self)
  have n2 := List.nodup_append.mp n
  have n3 := List.nodup_cons.mp n2.2.1
  refine ⟨fun b x e => ?_, fun x hx => ?_, ?_⟩
  · by_cases hb : b = p
    · subst hb; rw [upd_same] at e; cases e; exact hp.1
    · rw [upd_ne hb] at e; exact w.imm b x e
  · have q : x.1 ≠ p := by
      rcases List.mem_append.mp hx with h | h
      · exact n2.2.2 _ (List.mem_map_of_mem h) _ List.mem_cons_self
      · exact fun e => n3.1 (e ▸ List.mem_map_of_mem h)
    rw [upd_ne q]
    refine w.mu x ?_
    rcases List.mem_append.mp hx with h | h
    · exact List.mem_append_left _ h
    · exact List.mem_append_right _ (List.mem_cons_of_mem _ h)
  · rw [List.map_append]
    exact n.sublist (List.Sublist.append_left (List.sublist_cons_self _ _) _)
theorem W.frzS (w : W I H (M1 ++ (p, o) :: M2)) : Same I (upd I p o) := same_new (w.mu (p, o) (List.mem_append_right _ List.mem_cons_self)).2
theorem W.at (w : W I H (M1 ++ (p, o) :: M2)) : H p = some o := (w.mu (p, o) (List.mem_append_right _ List.mem_cons_self)).1
theorem W.at0 (w : W I H ((p, o) :: M2)) : H p = some o := W.at (M1 := []) w
theorem W.at1 {m0 : Addr × HO} (w : W I H (m0 :: (p, o) :: M2)) : H p = some o := W.at (M1 := [m0]) w
theorem W.at2 {m0 m1 : Addr × HO} (w : W I H (m0 :: m1 :: (p, o) :: M2)) : H p = some o := W.at (M1 := [m0, m1]) w
/-- the heap has more -/
theorem W.more {H' : Hp} (w : W I H M) (s : Same H H') : W I H' M := ⟨w.imm.trans s, fun x hx => ⟨s _ _ (w.mu x hx).1, (w.mu x hx).2⟩, w.nd⟩
end
end Fs

namespace Fs
open PySem PySem.Spec PyProof.Rows L2

/-! ### rules for several kinds at once -/
section
variable {X : Cx}
theorem opOr {f : Value → Value → Sem Value} {r r' : R2} (a : OpR X f r) (b : OpR X f r') : OpR X f (fun x y H Q => r x y H Q ∨ r' x y H Q) := by
  intro pins s σ H x y v u Q I rx ry h
  rcases h with h | h
  · exact a pins s σ H x y v u Q I rx ry h
  · exact b pins s σ H x y v u Q I rx ry h
theorem callOr {f : Value} {r r' : List V → Hp → VK → Prop} (a : CallR X f r) (b : CallR X f r') : CallR X f (fun xs H Q => r xs H Q ∨ r' xs H Q) := by
  intro pins s σ H xs us Q I rx h
  rcases h with h | h
  · exact a pins s σ H xs us Q I rx h
  · exact b pins s σ H xs us Q I rx h
theorem piOr {tg iter : Expr} {w w' : TI} (a : PI X tg iter w) (b : PI X tg iter w') : PI X tg iter (fun σ H R => w σ H R ∨ w' σ H R) := by
  refine ⟨fun pins s σ H R I h => ?_⟩
  rcases h with h | h
  · exact a.run pins s σ H R I h
  · exact b.run pins s σ H R I h
def rAddS : R2 := fun x y H Q => ∃ i j, x = .str i ∧ y = .str j ∧ i.length + j.length ≤ sizeLine ∧ Q (.str (i ++ j)) H
def rAddU (K : PySem.W.Frag) : R2 := fun x y H Q => rI0 (fun i j => .int (i + j)) x y H Q ∨ (rAddS x y H Q ∨ (rCat x y H Q ∨ rCatT K x y H Q))
theorem uo_add : OpR X (binaryOp .Add) (rAddU X.K) := opOr op_add (opOr op_add_str (opOr op_cat op_catT))
def rMulU : R2 := fun x y H Q => rI CMulW (fun i j => .int (i * j)) x y H Q ∨ rRep x y H Q
theorem uo_mul : OpR X (binaryOp .Mult) rMulU := opOr op_mulW op_rep
def rEqU (K : PySem.W.Frag) : R2 := fun x y H Q => rEq x y H Q ∨ rEqD K x y H Q
def rNeU (K : PySem.W.Frag) : R2 := fun x y H Q => rNe x y H Q ∨ rNeD K x y H Q
theorem uo_eq (hu : X.A.units + 64 < cLine) : OpR X (compareOp .Eq) (rEqU X.K) := opOr op_eq (op_eqD hu)
theorem uo_ne (hu : X.A.units + 64 < cLine) : OpR X (compareOp .NotEq) (rNeU X.K) := opOr op_ne (op_neD hu)
def rLenQ (K : PySem.W.Frag) : List V → Hp → VK → Prop := fun xs H Q => ∃ p ys, xs = [.ref p] ∧ (SqL K H p ys ∨ SqT K H p ys) ∧ Q (.int ys.length) H
def rLenStr : List V → Hp → VK → Prop := fun xs H Q => ∃ z, xs = [.str z] ∧ z.length ≤ sizeLine ∧ Q (.int z.length) H
def rLenU (K : PySem.W.Frag) : List V → Hp → VK → Prop := fun xs H Q => rLenQ K xs H Q ∨ rLenStr xs H Q
theorem uc_len : CallR X (.builtin "len") (rLenU X.K) := callOr call_len_seq call_len_str
def rAbs : List V → Hp → VK → Prop := fun xs H Q => ∃ i, xs = [.int i] ∧ Q (.int (if i < 0 then -i else i)) H
theorem uc_abs : CallR X (.builtin "abs") rAbs := call_abs
def rIsiU (K : PySem.W.Frag) : List V → Hp → VK → Prop := fun xs H Q => rIsi K xs H Q ∨ rIsiT K xs H Q
theorem uc_isi : CallR X (.builtin "isinstance") (rIsiU X.K) := callOr call_isi call_isiT
def rInt1 : List V → Hp → VK → Prop := fun xs H Q => (∃ i, xs = [.int i] ∧ Q (.int i) H) ∨ ∃ k, xs = [.bl k] ∧ Q (.int (if k then 1 else 0)) H
theorem uc_int : CallR X (.type "int") rInt1 := call_int1
def rMin2 : List V → Hp → VK → Prop := fun xs H Q => ∃ i j, xs = [.int i, .int j] ∧ Q (.int (if j < i then j else i)) H
def rMax2 : List V → Hp → VK → Prop := fun xs H Q => ∃ i j, xs = [.int i, .int j] ∧ Q (.int (if j > i then j else i)) H
def rMinU (K : PySem.W.Frag) : List V → Hp → VK → Prop := fun xs H Q => rMin2 xs H Q ∨ rMin K xs H Q
def rMaxU (K : PySem.W.Frag) : List V → Hp → VK → Prop := fun xs H Q => rMax2 xs H Q ∨ rMax K xs H Q
theorem uc_min (hc : X.calm = true) : CallR X (.builtin "min") (rMinU X.K) := callOr (call_min2 hc) (cr_min hc)
theorem uc_max (hc : X.calm = true) : CallR X (.builtin "max") (rMaxU X.K) := callOr (call_max2 hc) (cr_max hc)
def rListOf (K : PySem.W.Frag) : List V → Hp → VK → Prop := fun xs H Q => ∃ p ys, xs = [.ref p] ∧ (SqL K H p ys ∨ SqT K H p ys) ∧ ∀ l, H l = none → Q (.ref l) (upd H l (.lst ys))
theorem uc_list : CallR X (.type "list") (rListOf X.K) := call_list_of
def iSeqU (K : PySem.W.Frag) (tl : TE) : TI := fun σ H R => iList K tl σ H R ∨ iTup K tl σ H R
theorem pi_seq {tg l : Expr} {tl : TE} (h : PE X l tl) : PI X tg l (iSeqU X.K tl) := piOr (pi_list h) (pi_tup h)
end

/-! ### a def that may be called -/
structure Cal (P : Program) (w : World) (K : PySem.W.Frag) (mg : Str → Option Value) (base : Heap) (x : Str) (k : Nat) (ps : List Str) (dvs : List V) (sp : Sp) : Prop where
  ex : ∃ (f : Addr) (fd : FuncData) (ds : List Value), FnOk P w K mg base CX0 k f fd ps sp ∧ mg x = some (.ref f) ∧ PySem.W.keepIn K (.ref f) = true ∧ Binds K fd ps ds ∧ Vals dvs ds
section
variable {X : Cx} {x : Str} {p pos : Pos} {e : Expr} {es : List Expr} {t : TA} {k : Nat} {ps : List Str} {dvs : List V} {sp : Sp}
theorem pe_cal (c : Cal X.prog X.w X.K X.mg X.base x k ps dvs sp) (hr : Room k X.A) (hg : Gl X x) (ha : PA X (e :: es) t) (hdb : (x == ("__debug__" : Str)) = false := by decide)
    (he : starEach (e :: es) X.env = (false, eval e X.env) :: starEach es X.env := by rfl) (hpl : (backTo pos (starEach es X.env)).any (·.1) = false := by rfl) : PE X (.Call (.Name x p) (e :: es) [] pos) (tCall sp dvs E0 t) := by
  obtain ⟨f, fd, ds, F, hm, hk, hb, hd⟩ := c.ex
  exact pe_call F hr hg hm hk hb hd pass0 ha hdb he hpl
theorem pe_cal0 (c : Cal X.prog X.w X.K X.mg X.base x k ps dvs sp) (hr : Room k X.A) (hg : Gl X x) (hdb : (x == ("__debug__" : Str)) = false := by decide) : PE X (.Call (.Name x p) [] [] pos) (tCall sp dvs E0 tNil) := by
  obtain ⟨f, fd, ds, F, hm, hk, hb, hd⟩ := c.ex
  exact pe_call0 F hr hg hm hk hb hd pass0 hdb
end

/-! ### steps of a reading -/
section
variable {K : PySem.W.Frag} {σ σ' : L2.St} {I H : Hp} {M M1 M2 : List (Addr × HO)} {Q : VK} {R : Bool → Hp → Prop} {RA : List V → Hp → Prop} {G : Ends} {ta tb tc te : TE} {t u : TS} {c c' : TT} {tA tr : TA} {g : TG} {r r' : R2} {i : Nat} {v x y : V} {xs vs : List V} {d : D} {ds es : List D}
-- statements
theorem s_seq (h : t { G with nx := u G } σ H) : tSeq t u G σ H := h
theorem s_next (h : G.nx σ H) : tNext G σ H := h
theorem s_brk (h : G.bk σ H) : tBreak G σ H := h
theorem s_cnt (h : G.ct σ H) : tCont G σ H := h
theorem s_ifS (h : c σ H fun b H1 => if b = true then t G σ H1 else u G σ H1) : tIfS c t u G σ H := h
theorem s_asg (h : te σ H fun x H1 => g x σ H1 G.nx) : tAsg te g G σ H := h
theorem s_ret (h : te σ H G.rt) : tRet te G σ H := h
theorem s_retN (h : G.rt .non H) : tRetN G σ H := h
theorem s_drop (h : te σ H fun _ H1 => G.nx σ H1) : tDrop te G σ H := h
theorem s_par {i j : Nat} (h : tA σ H fun vs H1 => ∃ v w, vs = [v, w] ∧ G.nx ((σ.set i (some v)).set j (some w)) H1) : tPar i j tA G σ H := h
theorem s_par2 {P : V → V → Prop} (h : P x y) : ∃ v w, [x, y] = [v, w] ∧ P v w := ⟨x, y, rfl, h⟩
theorem s_gname {T : L2.St → Hp → Prop} (h : T (σ.set i (some v)) H) : gName i v σ H T := h
/-- a mid-word: the ways of a statement meet -/
theorem s_mid (Mid : L2.St → Hp → Prop) (k : ∀ σ H, Mid σ H → u G σ H) (h : ∀ N : L2.St → Hp → Prop, (∀ σ' H', Mid σ' H' → N σ' H') → t { G with nx := N } σ H) : tSeq t u G σ H := h _ k
/-- .. (elder form) -/
theorem s_cut (Mid : L2.St → Hp → Prop) (h : t { G with nx := Mid } σ H) (k : ∀ σ H, Mid σ H → u G σ H) (mono : ∀ {G' : Ends}, True := by trivial) (hm : (∀ σ H, Mid σ H → u G σ H) → t { G with nx := Mid } σ H → t { G with nx := u G } σ H) : tSeq t u G σ H := hm k h
-- expressions
theorem s_var (h : σ[i]? = some (some v)) (q : Q v H) : tVar i σ H Q := ⟨v, h, q⟩
theorem s_c (q : Q v H) : tC v σ H Q := q
theorem s_op (h : ta σ H fun x H1 => tb σ H1 fun y H2 => r x y H2 Q) : tOp r ta tb σ H Q := h
theorem s_un {r : V → Hp → VK → Prop} (h : ta σ H fun x H1 => r x H1 Q) : tUn r ta σ H Q := h
theorem s_test (h : ta σ H fun x H' => ∃ k, x = .bl k ∧ R k H') : tTest ta σ H R := h
theorem s_B (h : ta σ H fun x H' => ∃ k, x = .bl k ∧ R k H') : tB ta σ H R := h
theorem s_k {b : Bool} {P : Bool → Prop} (h : P b) : ∃ k, V.bl b = .bl k ∧ P k := ⟨b, rfl, h⟩
theorem s_and (h : c σ H fun b H1 => if b = true then c' σ H1 R else R false H1) : tAnd c c' σ H R := h
theorem s_or (h : c σ H fun b H1 => if b = true then R true H1 else c' σ H1 R) : tOr c c' σ H R := h
theorem s_not (h : c σ H fun b H1 => R (!b) H1) : tNot c σ H R := h
theorem s_andV (h : ta σ H fun x H1 => ∃ c, x = .bl c ∧ if c = true then tb σ H1 Q else Q (.bl false) H1) : tAndV ta tb σ H Q := h
theorem s_orV (h : ta σ H fun x H1 => ∃ c, x = .bl c ∧ if c = true then Q (.bl true) H1 else tb σ H1 Q) : tOrV ta tb σ H Q := h
theorem s_notV (h : ta σ H fun x H1 => ∃ c, x = .bl c ∧ Q (.bl (!c)) H1) : tNotV ta σ H Q := h
theorem s_if (h : c σ H fun b H1 => if b = true then ta σ H1 Q else tb σ H1 Q) : tIf c ta tb σ H Q := h
theorem s_isN (h : ta σ H fun x H1 => Q (.bl (decide (x = .non))) H1) : tIsN ta σ H Q := h
theorem s_notN (h : ta σ H fun x H1 => Q (.bl (!decide (x = .non))) H1) : tNotN ta σ H Q := h
theorem s_chain (h : ta σ H fun x H1 => tb σ H1 fun y H2 => r x y H2 fun z H3 => ∃ k, z = .bl k ∧ if k = true then tc σ H3 fun w H4 => r' y w H4 Q else Q (.bl false) H3) : tChain r r' ta tb tc σ H Q := by
  unfold tChain
  exact h
theorem s_nil (h : RA [] H) : tNil σ H RA := h
theorem s_cons (h : ta σ H fun x H1 => tr σ H1 fun xs H2 => RA (x :: xs) H2) : tCons ta tr σ H RA := h
theorem s_call {sp : Sp} {dvs : List V} {E : XK} (h : tA σ H fun vs H1 => sp (vs ++ dvs) H1 Q E) : tCall sp dvs E tA σ H Q := h
theorem s_cb {r : List V → Hp → VK → Prop} (h : tA σ H fun vs H1 => r vs H1 Q) : tCB r tA σ H Q := h
-- ifs
theorem s_ite {b : Bool} {A B : Prop} (h1 : b = true → A) (h2 : b = false → B) : if b = true then A else B := by
  cases b with
  | true => exact iteT (h1 rfl)
  | false => exact iteF (h2 rfl)
theorem s_iteN {b : Bool} {A B : Prop} (h : if b = true then B else A) : if (!b) = true then A else B := by
  cases b with
  | true => exact iteF (by simpa using h)
  | false => exact iteT (by simpa using h)
theorem s_iteD {p : Prop} [Decidable p] {A B : Prop} (h1 : p → A) (h2 : ¬ p → B) : if decide p = true then A else B := s_ite (fun h => h1 (of_decide_eq_true h)) fun h => h2 (of_decide_eq_false h)
theorem s_iteDp {p : Prop} [Decidable p] {A B : Prop} (hp : p) (h1 : A) : if decide p = true then A else B := s_iteD (fun _ => h1) fun q => absurd hp q
theorem s_iteDn {p : Prop} [Decidable p] {A B : Prop} (hp : ¬ p) (h1 : B) : if decide p = true then A else B := s_iteD (fun q => absurd q hp) fun _ => h1
theorem s_iteI {i j : Int} {A B : Prop} (h1 : i = j → A) (h2 : i ≠ j → B) : if decide (V.int i = V.int j) = true then A else B := s_iteD (fun h => h1 (V.int.inj h)) fun h => h2 fun e => h (congrArg V.int e)
theorem s_iteIp {i j : Int} {A B : Prop} (hp : i = j) (h1 : A) : if decide (V.int i = V.int j) = true then A else B := s_iteI (fun _ => h1) fun q => absurd hp q
theorem s_iteIn {i j : Int} {A B : Prop} (hp : i ≠ j) (h1 : B) : if decide (V.int i = V.int j) = true then A else B := s_iteI (fun q => absurd q hp) fun _ => h1
-- ints
theorem s_I0 {f : Int → Int → V} {i j : Int} (q : Q (f i j) H) : rI0 f (.int i) (.int j) H Q := ⟨i, j, rfl, rfl, q⟩
theorem s_I {C : Int → Int → Prop} {f : Int → Int → V} {i j : Int} (hc : C i j) (q : Q (f i j) H) : rI C f (.int i) (.int j) H Q := ⟨i, j, rfl, rfl, hc, q⟩
theorem s_U {f : Int → V} {i : Int} (q : Q (f i) H) : rU f (.int i) H Q := ⟨i, rfl, q⟩
theorem s_add {i j : Int} (q : Q (.int (i + j)) H) : rAddU K (.int i) (.int j) H Q := .inl ⟨i, j, rfl, rfl, q⟩
theorem s_addS {i j : Str} (h : i.length + j.length ≤ sizeLine) (q : Q (.str (i ++ j)) H) : rAddU K (.str i) (.str j) H Q := .inr (.inl ⟨i, j, rfl, rfl, h, q⟩)
theorem s_mul {i j : Int} (hc : CMulW i j) (q : Q (.int (i * j)) H) : rMulU (.int i) (.int j) H Q := .inl ⟨i, j, rfl, rfl, hc, q⟩
theorem s_eq (h : scal x y = true) (q : Q (.bl (decide (x = y))) H) : rEqU K x y H Q := .inl ⟨h, q⟩
theorem s_ne (h : scal x y = true) (q : Q (.bl (!decide (x = y))) H) : rNeU K x y H Q := .inl ⟨h, q⟩
theorem s_abs {i : Int} (q : Q (.int (if i < 0 then -i else i)) H) : rAbs [.int i] H Q := ⟨i, rfl, q⟩
theorem s_intB {b : Bool} (q : Q (.int (if b then 1 else 0)) H) : rInt1 [.bl b] H Q := .inr ⟨b, rfl, q⟩
theorem s_intI {i : Int} (q : Q (.int i) H) : rInt1 [.int i] H Q := .inl ⟨i, rfl, q⟩
theorem s_min2 {i j : Int} (q : Q (.int (if j < i then j else i)) H) : rMinU K [.int i, .int j] H Q := .inl ⟨i, j, rfl, q⟩
theorem s_max2 {i j : Int} (q : Q (.int (if j > i then j else i)) H) : rMaxU K [.int i, .int j] H Q := .inl ⟨i, j, rfl, q⟩
-- reading what stays
theorem atI_isa {i : Int} (a : IsA I vs ds) (h : atI ds i = some d) : ∃ v, atI vs i = some v ∧ Is I v d := by
  unfold atI at h ⊢
  rw [a.length]
  cases e : ixN ds.length i with
  | none => rw [e] at h; cases h
  | some j => rw [e] at h; exact a.get h
theorem s_ixT {i : Int} (w : W I H M) (h : Is I v (.tup ds)) (hd : atI ds i = some d) (q : ∀ u, Is I u d → Q u H) : rIx K v (.int i) H Q := by
  obtain ⟨p, vs, rfl, hp, a⟩ := h.tup_ex
  obtain ⟨u, e, hu⟩ := atI_isa a hd
  exact .inr (.inl ⟨p, vs, i, u, rfl, rfl, .inl (.inl (w.imm _ _ hp)), e, q u hu⟩)
theorem s_ixL {i : Int} (w : W I H M) (h : Is I v (.lst ds)) (hd : atI ds i = some d) (q : ∀ u, Is I u d → Q u H) : rIx K v (.int i) H Q := by
  obtain ⟨p, vs, rfl, hp, a⟩ := h.lst_ex
  obtain ⟨u, e, hu⟩ := atI_isa a hd
  exact .inl ⟨p, vs, i, u, rfl, rfl, .inl (.inl (w.imm _ _ hp)), e, q u hu⟩
/-- .. of a list that may be changed -/
theorem s_ixM {p : Addr} {i : Int} (h : H p = some (.lst vs)) (hd : atI vs i = some v) (q : Q v H) : rIx K (.ref p) (.int i) H Q := .inl ⟨p, vs, i, v, rfl, rfl, .inl (.inl h), hd, q⟩
theorem s_lenL (w : W I H M) (h : Is I v (.lst ds)) (q : Q (.int ds.length) H) : rLenU K [v] H Q := by
  obtain ⟨p, vs, rfl, hp, a⟩ := h.lst_ex
  exact .inl ⟨p, vs, rfl, .inl (.inl (.inl (w.imm _ _ hp))), by rw [a.length]; exact q⟩
theorem s_lenT (w : W I H M) (h : Is I v (.tup ds)) (q : Q (.int ds.length) H) : rLenU K [v] H Q := by
  obtain ⟨p, vs, rfl, hp, a⟩ := h.tup_ex
  exact .inl ⟨p, vs, rfl, .inr (.inl (.inl (w.imm _ _ hp))), by rw [a.length]; exact q⟩
theorem s_lenM {p : Addr} (h : H p = some (.lst vs)) (q : Q (.int vs.length) H) : rLenU K [.ref p] H Q := .inl ⟨p, vs, rfl, .inl (.inl (.inl h)), q⟩
-- new things
def NewT (Q : VK) (xs : List V) (H : Hp) : Prop := xs.length ≤ sizeLine ∧ ∀ p, H p = none → Q (.ref p) (upd H p (.tup xs))
def NewL (Q : VK) (xs : List V) (H : Hp) : Prop := xs.length ≤ sizeLine ∧ ∀ p, H p = none → Q (.ref p) (upd H p (.lst xs))
theorem s_tup (h : tA σ H fun xs H1 => NewT Q xs H1) : tTup tA σ H Q := h
theorem s_lst (h : tA σ H fun xs H1 => NewL Q xs H1) : tLst tA σ H Q := h
theorem s_newT (w : W I H M) (a : IsA I xs ds) (hz : xs.length ≤ 1000) (q : ∀ p J H', Same I J → I p = none → W J H' M → Is J (.ref p) (.tup ds) → Q (.ref p) H') : NewT Q xs H :=
  ⟨Nat.le_trans hz (by decide), fun p hp => q p _ _ (w.same hp) (w.fresh hp) (w.newI hp) (.tup upd_same (a.mono (w.same hp)))⟩
theorem s_newL (w : W I H M) (a : IsA I xs ds) (hz : xs.length ≤ 1000) (q : ∀ p J H', Same I J → I p = none → W J H' M → Is J (.ref p) (.lst ds) → Q (.ref p) H') : NewL Q xs H :=
  ⟨Nat.le_trans hz (by decide), fun p hp => q p _ _ (w.same hp) (w.fresh hp) (w.newI hp) (.lst upd_same (a.mono (w.same hp)))⟩
theorem s_newM (w : W I H M) (hz : xs.length ≤ 1000) (q : ∀ p H', W I H' ((p, .lst xs) :: M) → Q (.ref p) H') : NewL Q xs H :=
  ⟨Nat.le_trans hz (by decide), fun p hp => q p _ (w.newM hp)⟩
/-- .. behind the head (the bag) -/
theorem s_newM2 {m : Addr × HO} (w : W I H (m :: M)) (hz : xs.length ≤ 1000) (q : ∀ p H', W I H' (m :: (p, .lst xs) :: M) → Q (.ref p) H') : NewL Q xs H :=
  ⟨Nat.le_trans hz (by decide), fun p hp => q p _ (w.newM2 hp)⟩
-- unpacking
theorem s_gtup {n : Nat} {gs : TGs} {T : L2.St → Hp → Prop} (w : W I H M) (h : Is I v (.tup ds)) (hn : ds.length = n) (q : ∀ xs, IsA I xs ds → gs xs σ H T) : gTup K n gs v σ H T := by
  obtain ⟨p, vs, rfl, hp, a⟩ := h.tup_ex
  exact ⟨p, vs, rfl, .inl (.inl (w.imm _ _ hp)), by rw [a.length]; exact hn, q vs a⟩
theorem s_gtup2 {gs : TGs} {T : L2.St → Hp → Prop} {d0 d1 : D} (w : W I H M) (h : Is I v (.tup [d0, d1])) (q : ∀ x y, Is I x d0 → Is I y d1 → gs [x, y] σ H T) : gTup K 2 gs v σ H T :=
  s_gtup w h rfl fun _ a => by
    cases a with | cons h0 a =>
    cases a with | cons h1 a =>
    cases a
    exact q _ _ h0 h1
theorem s_gtup3 {gs : TGs} {T : L2.St → Hp → Prop} {d0 d1 d2 : D} (w : W I H M) (h : Is I v (.tup [d0, d1, d2])) (q : ∀ x y z, Is I x d0 → Is I y d1 → Is I z d2 → gs [x, y, z] σ H T) : gTup K 3 gs v σ H T :=
  s_gtup w h rfl fun _ a => by
    cases a with | cons h0 a =>
    cases a with | cons h1 a =>
    cases a with | cons h2 a =>
    cases a
    exact q _ _ _ h0 h1 h2
theorem s_gtup4 {gs : TGs} {T : L2.St → Hp → Prop} {d0 d1 d2 d3 : D} (w : W I H M) (h : Is I v (.tup [d0, d1, d2, d3])) (q : ∀ x y z u, Is I x d0 → Is I y d1 → Is I z d2 → Is I u d3 → gs [x, y, z, u] σ H T) : gTup K 4 gs v σ H T :=
  s_gtup w h rfl fun _ a => by
    cases a with | cons h0 a =>
    cases a with | cons h1 a =>
    cases a with | cons h2 a =>
    cases a with | cons h3 a =>
    cases a
    exact q _ _ _ _ h0 h1 h2 h3
theorem s_gtup5 {gs : TGs} {T : L2.St → Hp → Prop} {d0 d1 d2 d3 d4 : D} (w : W I H M) (h : Is I v (.tup [d0, d1, d2, d3, d4])) (q : ∀ x y z u t, Is I x d0 → Is I y d1 → Is I z d2 → Is I u d3 → Is I t d4 → gs [x, y, z, u, t] σ H T) : gTup K 5 gs v σ H T :=
  s_gtup w h rfl fun _ a => by
    cases a with | cons h0 a =>
    cases a with | cons h1 a =>
    cases a with | cons h2 a =>
    cases a with | cons h3 a =>
    cases a with | cons h4 a =>
    cases a
    exact q _ _ _ _ _ h0 h1 h2 h3 h4
theorem s_gnil {T : L2.St → Hp → Prop} (q : T σ H) : gNil [] σ H T := ⟨rfl, q⟩
theorem s_gcons {gs : TGs} {T : L2.St → Hp → Prop} (h : g x σ H fun σ' H' => gs xs σ' H' T) : gCons g gs (x :: xs) σ H T := ⟨x, xs, rfl, h⟩
-- fields
theorem s_fld {f : Str} (h : ta σ H fun x H1 => ∃ a C dx fs v, x = .ref a ∧ H1 a = some (.ins C dx fs) ∧ Cls K C ∧ NoAttr K C f ∧ fs.lookup f = some v ∧ Q v H1) : tFld K ta f σ H Q := h
theorem s_fldAt {C : Addr} {f : Str} {fs : List (Str × D)} (w : W I H M) (h : Is I v (.obj C fs)) (hc : Cls K C) (hn : NoAttr K C f) (hd : fs.lookup f = some d) (q : ∀ u, Is I u d → Q u H) :
    ∃ a C dx fs u, v = .ref a ∧ H a = some (.ins C dx fs) ∧ Cls K C ∧ NoAttr K C f ∧ fs.lookup f = some u ∧ Q u H := by
  obtain ⟨p, dx, vs, rfl, hp, a⟩ := h.obj_ex
  obtain ⟨u, e, hu⟩ := a.get hd
  exact ⟨p, C, dx, vs, u, rfl, w.imm _ _ hp, hc, hn, e, q u hu⟩
-- isinstance
def D.tn : D → Option String
  | .non => some "NoneType" | .bl _ => some "bool" | .int _ => some "int" | .str _ => some "str" | .tup _ => some "tuple" | .lst _ => some "list" | .dict => some "dict" | _ => none
theorem Is.tyx {a : String} (w : W I H M) (h : Is I v d) (e : d.tn = some a) : TyX K H v (.type a) := by
  cases h with
  | non => cases e; exact .base .non
  | bl b => cases e; exact .base (.bl b)
  | int n => cases e; exact .base (.int n)
  | str n => cases e; exact .base (.str n)
  | tup hp _ => cases e; exact .base (.tup (w.imm _ _ hp))
  | lst hp _ => cases e; exact .base (.lst (w.imm _ _ hp))
  | ref a => cases e
  | ty n => cases e
  | obj _ _ => cases e
  | dct hp => cases e; exact .base (.dK (w.imm _ _ hp))
  | fact _ _ => cases e
theorem s_isi {a b : String} {k : Bool} (w : W I H M) (h : Is I v d) (e : d.tn = some a) (hb : kitB a b = some k) (q : Q (.bl k) H) : rIsiU K [v, .ty b] H Q :=
  .inl ⟨v, .ty b, .type a, .type b, k, rfl, .ty b, h.tyx w e, kit_ty hb, q⟩
theorem kit_ii : kitB "int" "int" = some true := by decide +kernel
theorem kit_ib : kitB "int" "bool" = some false := by decide +kernel
theorem kit_bi : kitB "bool" "int" = some true := by decide +kernel
theorem kit_bb : kitB "bool" "bool" = some true := by decide +kernel
theorem kit_tt : kitB "tuple" "tuple" = some true := by decide +kernel
theorem kit_ll : kitB "list" "list" = some true := by decide +kernel
end
end Fs

namespace Fs
open PySem PySem.Spec PyProof.Rows L2

/-! ### the built-ins' names -/
structure Bn (mg : Str → Option Value) : Prop where
  len_ : mg "len" = none
  abs_ : mg "abs" = none
  isinstance_ : mg "isinstance" = none
  min_ : mg "min" = none
  max_ : mg "max" = none
  sum_ : mg "sum" = none
  sorted_ : mg "sorted" = none
  range_ : mg "range" = none
  zip_ : mg "zip" = none
  enumerate_ : mg "enumerate" = none
  reversed_ : mg "reversed" = none
  int_ : mg "int" = none
  bool_ : mg "bool" = none
  tuple_ : mg "tuple" = none
  list_ : mg "list" = none
  str_ : mg "str" = none
  dict_ : mg "dict" = none
  ValueError_ : mg "ValueError" = none
  set_ : mg "set" = none
  any_ : mg "any" = none
  all_ : mg "all" = none
  ord_ : mg "ord" = none
section
variable {X : Cx} {pos : Pos}
theorem pe_globI {x : Str} {n : Int} (hg : Gl X x) (hm : ∃ t, X.mg x = some (.int n t)) (hd : (x == ("__debug__" : Str)) = false := by decide) : PE X (.Name x pos) (tC (.int n)) := by
  obtain ⟨t, e⟩ := hm
  exact pe_glob hg e ⟨t, rfl⟩ hd
theorem get_list : PGet X (rIxL X.K) := by
  intro pins s σ H x y v u Q I rx ry h
  obtain ⟨p, xs, i, z, rfl, rfl, hq, he, q⟩ := h
  cases rx
  obtain ⟨t, rfl⟩ := ry
  obtain ⟨its, r, pl, hz⟩ := I.list hq
  obtain ⟨j, h1, h2, h3, h4, h5⟩ := atI_get he
  obtain ⟨w, ew, rw'⟩ := r.get h2
  have hl := r.length
  have hn := line63
  have fin : EP X pins σ Q w s := ⟨z, H, I, rw', q⟩
  by_cases h0 : 0 ≤ i
  · have hj : i.toNat = j := by
      rw [seqIndex_of h0 h5] at h1
      exact Option.some.inj h1
    exact wpAny_getItem_list pl.isList h0 (by omega) (by rw [hj]; simpa using ew) fin
  · have hj : (i + (its.toArray.size : Int)).toNat = j := by
      rw [seqIndex_neg (by omega) h4] at h1
      rw [List.size_toArray, ← hl]
      exact Option.some.inj h1
    exact wpAny_getItem_list_neg pl.isList (by omega) (by rw [List.size_toArray] <;> omega) (by omega) (by rw [hj]; simpa using ew) fin
theorem ps_augL {o i e : Expr} {to ti te : TE} {tpos : Pos} (ho : PE X o to) (hi : PE X i ti) (he : PE X e te)
    (ha : ∀ ov iv new, augStore i ov iv new = (do holding [new, ov, iv] (setItem ov iv new); release [new, ov, iv] []; pure .next) := by intros; rfl) : PS X (.AugAssign (.Subscript o i tpos) .Add e pos) (tAugS to ti te (rIxL X.K) (ipI fun i j => i + j) rSetL) :=
  ps_augS ho hi get_list he ip_add set_list ha
end

/-! ### loops -/
section
variable {K : PySem.W.Frag} {σ : L2.St} {I H : Hp} {M : List (Addr × HO)} {G : Ends} {c : TT} {tb : TS} {g : TG}
theorem s_while (Pv : L2.St → Hp → Prop) (μ : L2.St → Nat) (h0 : Pv σ H)
    (hs : ∀ σ H, Pv σ H → c σ H fun b H1 => if b = true then ∃ N : L2.St → Hp → Prop, (∀ σ' H', N σ' H' → ∃ m', m' < μ σ ∧ m' = μ σ' ∧ Pv σ' H') ∧ tb { G with nx := N, ct := N, bk := G.nx } σ H1 else G.nx σ H1) : tWhile c tb G σ H := by
  refine ⟨fun m σ H => m = μ σ ∧ Pv σ H, ⟨_, rfl, h0⟩, ?_⟩
  rintro m σ H ⟨rfl, p⟩
  exact hs σ H p
theorem s_wN {Pv : L2.St → Hp → Prop} {μ : L2.St → Nat} {m : Nat} {σ1 : L2.St} (h : tb { G with nx := fun σ' H' => Pv σ' H' ∧ μ σ' < m, ct := fun σ' H' => Pv σ' H' ∧ μ σ' < m, bk := G.nx } σ1 H) :
    ∃ N : L2.St → Hp → Prop, (∀ σ' H', N σ' H' → ∃ m', m' < m ∧ m' = μ σ' ∧ Pv σ' H') ∧ tb { G with nx := N, ct := N, bk := G.nx } σ1 H :=
  ⟨_, fun _ _ h => ⟨_, h.2, rfl, h.1⟩, h⟩
theorem s_for {wi : TI} (h : wi σ H fun J H1 => ∃ W : Nat → Nat → L2.St → Hp → Prop, (∃ m, W 0 m σ H1) ∧ ∀ i m σ H, W i m σ H →
  (J.stop i H ∧ G.nx σ H) ∨ (J.go i H ∧ ∃ N : L2.St → Hp → Prop, (∀ σ' H', N σ' H' → ∃ m', m' < m ∧ W (i + 1) m' σ' H') ∧ ∀ x H', J.yld i H x H' → g x σ H' fun σ2 H2 => tb { G with nx := N, ct := N, bk := G.nx } σ2 H2)) : tFor wi g tb G σ H := h
theorem s_rng1 {ta : TA} {R : It → Hp → Prop} (h : ta σ H fun vs H1 => ∃ j : Int, vs = [.int j] ∧ -(2 ^ 62) ≤ j ∧ j < 2 ^ 62 ∧ R (Itr 0 j.toNat) H1) : iRng1 ta σ H R := h
theorem s_rng1' {P : Int → Prop} {j : Int} (h1 : -(2 ^ 62) ≤ j) (h2 : j < 2 ^ 62) (h : P j) : ∃ i : Int, [V.int j] = [.int i] ∧ -(2 ^ 62) ≤ i ∧ i < 2 ^ 62 ∧ P i := ⟨j, rfl, h1, h2, h⟩
theorem s_iL {tl : TE} {R : It → Hp → Prop} (h : tl σ H fun x H1 => ∃ a, x = .ref a ∧ (∃ xs, SqL K H1 a xs) ∧ R (Itl K a) H1) : iList K tl σ H R := h
theorem s_iT {tl : TE} {R : It → Hp → Prop} (h : tl σ H fun x H1 => ∃ a, x = .ref a ∧ (∃ xs, SqT K H1 a xs) ∧ R (Itt K a) H1) : iTup K tl σ H R := h
/-- a for over a list that stays: the word Pv over the turn, the slots, the heap; it says W of an extension of I -/
theorem s_forL {ds : List D} {v : V} (w : W I H M) (h : Is I v (.lst ds)) (Pv : Nat → L2.St → Hp → Prop) (h0 : Pv 0 σ H) (hI : ∀ i σ H, Pv i σ H → Same I H)
    (hs : ∀ i d x σ H, ds[i]? = some d → Is I x d → Pv i σ H → g x σ H fun σ2 H2 => tb { G with nx := Pv (i + 1), ct := Pv (i + 1), bk := G.nx } σ2 H2) (hd : ∀ σ H, Pv ds.length σ H → G.nx σ H) :
    ∃ a, v = .ref a ∧ (∃ xs, SqL K H a xs) ∧ ∃ W : Nat → Nat → L2.St → Hp → Prop, (∃ m, W 0 m σ H) ∧ ∀ i m σ H, W i m σ H →
      ((Itl K a).stop i H ∧ G.nx σ H) ∨ ((Itl K a).go i H ∧ ∃ N : L2.St → Hp → Prop, (∀ σ' H', N σ' H' → ∃ m', m' < m ∧ W (i + 1) m' σ' H') ∧ ∀ x H', (Itl K a).yld i H x H' → g x σ H' fun σ2 H2 => tb { G with nx := N, ct := N, bk := G.nx } σ2 H2) := by
  obtain ⟨p, vs, rfl, hp, a⟩ := h.lst_ex
  refine ⟨p, rfl, ⟨vs, .inl (.inl (w.imm _ _ hp))⟩, ?_⟩
  refine for_it (walk_list (K := K) (xs := vs)) Pv h0 (fun i σ H _ q => .inl (.inl (hI i σ H q _ _ hp))) (fun i x σ H H' hi q y => ?_) (fun σ H q => hd σ H (by rw [← a.length]; exact q))
  obtain ⟨rfl, e⟩ := y
  obtain ⟨d, e1, e2⟩ := a.of e
  exact hs i d x σ _ e1 e2 q
theorem s_forT {ds : List D} {v : V} (w : W I H M) (h : Is I v (.tup ds)) (Pv : Nat → L2.St → Hp → Prop) (h0 : Pv 0 σ H) (hI : ∀ i σ H, Pv i σ H → Same I H)
    (hs : ∀ i d x σ H, ds[i]? = some d → Is I x d → Pv i σ H → g x σ H fun σ2 H2 => tb { G with nx := Pv (i + 1), ct := Pv (i + 1), bk := G.nx } σ2 H2) (hd : ∀ σ H, Pv ds.length σ H → G.nx σ H) :
    ∃ a, v = .ref a ∧ (∃ xs, SqT K H a xs) ∧ ∃ W : Nat → Nat → L2.St → Hp → Prop, (∃ m, W 0 m σ H) ∧ ∀ i m σ H, W i m σ H →
      ((Itt K a).stop i H ∧ G.nx σ H) ∨ ((Itt K a).go i H ∧ ∃ N : L2.St → Hp → Prop, (∀ σ' H', N σ' H' → ∃ m', m' < m ∧ W (i + 1) m' σ' H') ∧ ∀ x H', (Itt K a).yld i H x H' → g x σ H' fun σ2 H2 => tb { G with nx := N, ct := N, bk := G.nx } σ2 H2) := by
  obtain ⟨p, vs, rfl, hp, a⟩ := h.tup_ex
  refine ⟨p, rfl, ⟨vs, .inl (.inl (w.imm _ _ hp))⟩, ?_⟩
  refine for_it (walk_tup (K := K) (xs := vs)) Pv h0 (fun i σ H _ q => .inl (.inl (hI i σ H q _ _ hp))) (fun i x σ H H' hi q y => ?_) (fun σ H q => hd σ H (by rw [← a.length]; exact q))
  obtain ⟨rfl, e⟩ := y
  obtain ⟨d, e1, e2⟩ := a.of e
  exact hs i d x σ _ e1 e2 q
theorem s_forR {lo : Int} {n : Nat} (Pv : Nat → L2.St → Hp → Prop) (h0 : Pv 0 σ H)
    (hs : ∀ i σ H, i < n → Pv i σ H → g (.int (lo + i)) σ H fun σ2 H2 => tb { G with nx := Pv (i + 1), ct := Pv (i + 1), bk := G.nx } σ2 H2) (hd : ∀ σ H, Pv n σ H → G.nx σ H) :
    ∃ W : Nat → Nat → L2.St → Hp → Prop, (∃ m, W 0 m σ H) ∧ ∀ i m σ H, W i m σ H →
      ((Itr lo n).stop i H ∧ G.nx σ H) ∨ ((Itr lo n).go i H ∧ ∃ N : L2.St → Hp → Prop, (∀ σ' H', N σ' H' → ∃ m', m' < m ∧ W (i + 1) m' σ' H') ∧ ∀ x H', (Itr lo n).yld i H x H' → g x σ H' fun σ2 H2 => tb { G with nx := N, ct := N, bk := G.nx } σ2 H2) := for_range Pv h0 hs hd
end

/-! ### changing a list -/
section
variable {K : PySem.W.Frag} {σ : L2.St} {I H : Hp} {M : List (Addr × HO)} {Q : VK} {x v : V} {xs vs : List V} {p : Addr} {ta te ti : TE} {tA : TA}
theorem s_bm {T : String} {r : V → List V → Hp → VK → Prop} (h : ta σ H fun x H1 => tyV K T x H1 ∧ tA σ H1 fun xs H2 => r x xs H2 Q) : tBM K T r ta tA σ H Q := h
theorem s_bm0 {T : String} {r : V → List V → Hp → VK → Prop} (h : ta σ H fun x H1 => tyV K T x H1 ∧ r x [] H1 Q) : tBM0 K T r ta σ H Q := h
theorem s_tyL {A : Prop} (h : H p = some (.lst xs)) (a : A) : tyV K "list" (.ref p) H ∧ A := ⟨.inl ⟨rfl, _, .inl (.inl h)⟩, a⟩
theorem s_app (h : H p = some (.lst xs)) (hz : xs.length ≤ 100000) (q : Q .non (upd H p (.lst (xs ++ [x])))) : rAppend (.ref p) [x] H Q := ⟨p, xs, x, rfl, rfl, h, Nat.lt_of_le_of_lt hz (by decide), q⟩
theorem s_clear (h : H p = some (.lst xs)) (q : Q .non (upd H p (.lst []))) : rClear (.ref p) [] H Q := ⟨p, xs, rfl, rfl, h, q⟩
theorem s_gsub {T : L2.St → Hp → Prop} {t : TSet} (h : ta σ H fun o H1 => ti σ H1 fun i H2 => t o i v H2 fun H3 => T σ H3) : gSub ta ti t v σ H T := h
theorem s_setL {T : Hp → Prop} {k : Int} {j : Nat} (h : H p = some (.lst xs)) (hj : ixN xs.length k = some j) (q : T (upd H p (.lst (xs.set j v)))) : rSetL (.ref p) (.int k) v H T := ⟨p, xs, k, j, rfl, rfl, h, hj, q⟩
theorem s_augS {G : Ends} {tget : V → V → Hp → VK → Prop} {tip : TIp} {tset : TSet} (h : ta σ H fun o H1 => ti σ H1 fun i H2 => tget o i H2 fun x H3 => te σ H3 fun y H4 => tip x y H4 fun z H5 => tset o i z H5 fun H6 => G.nx σ H6) : tAugS ta ti te tget tip tset G σ H := h
theorem s_ixLM {k : Int} (h : H p = some (.lst xs)) (hd : atI xs k = some v) (q : Q v H) : rIxL K (.ref p) (.int k) H Q := ⟨p, xs, k, v, rfl, rfl, .inl (.inl h), hd, q⟩
theorem s_ipI {f : Int → Int → Int} {i j : Int} (q : Q (.int (f i j)) H) : ipI f (.int i) (.int j) H Q := ⟨i, j, rfl, rfl, q⟩
def RevQ (K : PySem.W.Frag) (Q : VK) (v : V) (H : Hp) : Prop := ∃ a xs, v = .ref a ∧ SqL K H a xs ∧ ∀ p, H p = none → Q (.ref p) (upd H p (.lst xs.reverse))
theorem s_rev (h : te σ H fun x H1 => RevQ K Q x H1) : tRevL K te σ H Q := h
theorem s_rev' {ds : List D} (w : W I H M) (h : Is I v (.lst ds)) (q : ∀ p J H', Same I J → I p = none → W J H' M → Is J (.ref p) (.lst ds.reverse) → Q (.ref p) H') : RevQ K Q v H := by
  obtain ⟨p, vs, rfl, hp, a⟩ := h.lst_ex
  exact ⟨p, vs, rfl, .inl (.inl (w.imm _ _ hp)), fun l hl => q l _ _ (w.same hl) (w.fresh hl) (w.newI hl) (.lst upd_same (a.rev.mono (w.same hl)))⟩
end

section
variable {K : PySem.W.Frag} {σ : L2.St} {I H : Hp} {M : List (Addr × HO)} {Q : VK} {x v : V} {xs vs : List V} {p : Addr} {ta te ti : TE} {tA : TA} {m0 m1 : Addr × HO} {d0 d1 : D} {ds : List D}
theorem s_setW0 {T : Hp → Prop} {k : Int} {j : Nat} (w : W I H ((p, .lst xs) :: M)) (hj : ixN xs.length k = some j) (q : ∀ H', W I H' ((p, .lst (xs.set j v)) :: M) → T H') : rSetL (.ref p) (.int k) v H T := s_setL w.at0 hj (q _ w.put0)
theorem s_setW1 {T : Hp → Prop} {k : Int} {j : Nat} (w : W I H (m0 :: (p, .lst xs) :: M)) (hj : ixN xs.length k = some j) (q : ∀ H', W I H' (m0 :: (p, .lst (xs.set j v)) :: M) → T H') : rSetL (.ref p) (.int k) v H T := s_setL w.at1 hj (q _ w.put1)
theorem s_appW0 (w : W I H ((p, .lst xs) :: M)) (hz : xs.length ≤ 100000) (q : ∀ H', W I H' ((p, .lst (xs ++ [x])) :: M) → Q .non H') : rAppend (.ref p) [x] H Q := s_app w.at0 hz (q _ w.put0)
theorem s_appW1 (w : W I H (m0 :: (p, .lst xs) :: M)) (hz : xs.length ≤ 100000) (q : ∀ H', W I H' (m0 :: (p, .lst (xs ++ [x])) :: M) → Q .non H') : rAppend (.ref p) [x] H Q := s_app w.at1 hz (q _ w.put1)
theorem s_appW2 (w : W I H (m0 :: m1 :: (p, .lst xs) :: M)) (hz : xs.length ≤ 100000) (q : ∀ H', W I H' (m0 :: m1 :: (p, .lst (xs ++ [x])) :: M) → Q .non H') : rAppend (.ref p) [x] H Q := s_app w.at2 hz (q _ w.put2)
theorem W.frz0 {o : HO} (w : W I H ((p, o) :: M)) : W (upd I p o) H M := W.frz (M1 := []) w
theorem W.frz1 {o : HO} (w : W I H (m0 :: (p, o) :: M)) : W (upd I p o) H (m0 :: M) := W.frz (M1 := [m0]) w
theorem W.frz2 {o : HO} (w : W I H (m0 :: m1 :: (p, o) :: M)) : W (upd I p o) H (m0 :: m1 :: M) := W.frz (M1 := [m0, m1]) w
theorem W.frzS0 {o : HO} (w : W I H ((p, o) :: M)) : Same I (upd I p o) := W.frzS (M1 := []) w
theorem W.frzS1 {o : HO} (w : W I H (m0 :: (p, o) :: M)) : Same I (upd I p o) := W.frzS (M1 := [m0]) w
theorem W.frzS2 {o : HO} (w : W I H (m0 :: m1 :: (p, o) :: M)) : Same I (upd I p o) := W.frzS (M1 := [m0, m1]) w
/-- a list that grew stays from now on -/
theorem W.done0 (w : W I H ((p, .lst vs) :: M)) (a : IsA I vs ds) : ∃ J, Same I J ∧ W J H M ∧ Is J (.ref p) (.lst ds) := ⟨_, w.frzS0, w.frz0, .lst upd_same (a.mono w.frzS0)⟩
theorem W.done1 (w : W I H (m0 :: (p, .lst vs) :: M)) (a : IsA I vs ds) : ∃ J, Same I J ∧ W J H (m0 :: M) ∧ Is J (.ref p) (.lst ds) := ⟨_, w.frzS1, w.frz1, .lst upd_same (a.mono w.frzS1)⟩
theorem W.done2 (w : W I H (m0 :: m1 :: (p, .lst vs) :: M)) (a : IsA I vs ds) : ∃ J, Same I J ∧ W J H (m0 :: m1 :: M) ∧ Is J (.ref p) (.lst ds) := ⟨_, w.frzS2, w.frz2, .lst upd_same (a.mono w.frzS2)⟩
-- an item by an open place
theorem at_nat {α : Type} {l : List α} {i : Int} (h0 : 0 ≤ i) (h1 : i < l.length) : ∃ d, d ∈ l ∧ atI l i = some d := by
  have h2 : i.toNat < l.length := by omega
  have e : (i.toNat : Int) = i := by omega
  refine ⟨l[i.toNat], List.getElem_mem h2, ?_⟩
  have q := atI_nat (List.getElem?_eq_getElem h2)
  rw [e] at q
  exact q
theorem at_ints {ns : List Int} {z : Int} (h0 : 0 ≤ z) (h1 : z < ns.length) : ∃ n, n ∈ ns ∧ atI (ns.map D.int) z = some (.int n) := by
  obtain ⟨d, hd, e⟩ := at_nat (l := ns.map D.int) h0 (by simpa using h1)
  obtain ⟨n, hn, rfl⟩ := List.mem_map.mp hd
  exact ⟨n, hn, e⟩
theorem s_ixAny {i : Int} (w : W I H M) (h : Is I v (.lst ds)) (h0 : 0 ≤ i) (h1 : i < ds.length) (q : ∀ d u, d ∈ ds → Is I u d → Q u H) : rIx K v (.int i) H Q := by
  obtain ⟨d, hd, e⟩ := at_nat h0 h1
  exact s_ixL w h e fun u hu => q d u hd hu
theorem s_ixB {b : Bool} {m n : Int} (w : W I H M) (h : Is I v (.lst [.int m, .int n])) (q : ∀ k, k = m ∨ k = n → Q (.int k) H) : rIx K v (.int (if b then 1 else 0)) H Q := by
  cases b with
  | true => exact s_ixL w h (d := .int n) rfl fun u hu => by rw [hu.int_eq]; exact q n (.inr rfl)
  | false => exact s_ixL w h (d := .int m) rfl fun u hu => by rw [hu.int_eq]; exact q m (.inl rfl)
-- slices
theorem s_sl {r : V → Option Int → Option Int → Hp → VK → Prop} {tl th : TO} (h : te σ H fun x H1 => tl σ H1 fun lo H2 => th σ H2 fun hi H3 => r x lo hi H3 Q) : tSl r te tl th σ H Q := h
theorem s_noP {R : Option Int → Hp → Prop} (h : R none H) : tNoPart σ H R := h
theorem s_part {R : Option Int → Hp → Prop} (h : te σ H fun x H1 => ∃ i, x = .int i ∧ R (some i) H1) : tPart te σ H R := h
theorem s_part' {P : Int → Prop} {i : Int} (h : P i) : ∃ j, V.int i = .int j ∧ P j := ⟨i, rfl, h⟩
theorem s_slK {a : Addr} {lo hi : Option Int} (h : SqL K H a xs) (q : ∀ p, H p = none → Q (.ref p) (upd H p (.lst (cutV xs lo hi)))) : rSlL K (.ref a) lo hi H Q := ⟨a, xs, rfl, h, q⟩
-- comprehensions
theorem s_lc0 {wi : TI} {g : TG} {tt : TT} {xs : List Nat} (h : wi σ H fun J H1 => ∀ D, H1 D = none → ∃ W : Nat → Nat → Hp → Prop, (∃ m, W 0 m (upd H1 D (.lst []))) ∧ ∀ i m H, W i m H →
  (J.stop i H ∧ Q (.ref D) H) ∨ (J.go i H ∧ ∃ Nx : Hp → Prop, (∀ H', Nx H' → ∃ m', m' < m ∧ W (i + 1) m' H') ∧ ∀ x H', J.yld i H x H' → g x (wipe σ xs) H' fun σ2 H2 => wipe σ2 xs = wipe σ xs ∧ tt σ2 H2 fun b H3 =>
    if b = true then te σ2 H3 fun y H4 => ∃ acc, H4 D = some (.lst acc) ∧ acc.length < sizeLine ∧ Nx (upd H4 D (.lst (acc ++ [y]))) else Nx H3)) : tLc wi g tt te xs σ H Q := h
theorem s_yes {R : Bool → Hp → Prop} (h : R true H) : tYes σ H R := h
theorem s_iL' {R : Addr → Prop} (w : W I H M) (h : Is I v (.lst ds)) (q : ∀ a vs, v = .ref a → I a = some (.lst vs) → IsA I vs ds → R a) : ∃ a, v = .ref a ∧ (∃ xs, SqL K H a xs) ∧ R a := by
  obtain ⟨p, vs, rfl, hp, a⟩ := h.lst_ex
  exact ⟨p, rfl, ⟨vs, .inl (.inl (w.imm _ _ hp))⟩, q p vs rfl hp a⟩
end
/-- a written power -/
theorem op_powC {X : Cx} (n : Int) : OpR X (binaryOp .Pow) (rI (fun i j => CPow i j ∧ i ^ j.toNat = n) fun _ _ => .int n) := by
  intro pins s σ H x y v u Q I rx ry h
  obtain ⟨i, j, rfl, rfl, ⟨hc, e⟩, q⟩ := h
  exact op_pow pins s σ H _ _ v u Q I rx ry ⟨i, j, rfl, rfl, hc, by show Q (V.int (i ^ j.toNat)) H; rw [e]; exact q⟩
theorem cut63 (ns : List Int) (lo hi : Option Int) : ∃ ms : List Int, cutV (ns.map V.int) lo hi = ms.map V.int := by
  unfold cutV
  refine ⟨(ns.drop (HT.sIx (ns.map V.int).length 0 lo)).take (HT.sIx (ns.map V.int).length (ns.map V.int).length hi - HT.sIx (ns.map V.int).length 0 lo), ?_⟩
  rw [List.map_take, List.map_drop]

/-! ### sizes of numbers -/
def Bd (k : Nat) (x : Int) : Prop := x.natAbs < 2 ^ k
theorem Bd.mono {j k : Nat} {x : Int} (h : Bd j x) (hk : j ≤ k) : Bd k x := Nat.lt_of_lt_of_le h (Nat.pow_le_pow_right (by decide) hk)
theorem Bd.mul {j k : Nat} {x y : Int} (hx : Bd j x) (hy : Bd k y) : Bd (j + k) (x * y) := wide_lt hx hy
theorem Bd.neg {k : Nat} {x : Int} (h : Bd k x) : Bd k (-x) := by unfold Bd at *; rw [Int.natAbs_neg]; exact h
theorem Bd.add {k : Nat} {x y : Int} (hx : Bd k x) (hy : Bd k y) : Bd (k + 1) (x + y) := by
  unfold Bd at *
  have : (2 : Nat) ^ (k + 1) = 2 ^ k + 2 ^ k := by rw [Nat.pow_succ]; omega
  omega
theorem Bd.sub {k : Nat} {x y : Int} (hx : Bd k x) (hy : Bd k y) : Bd (k + 1) (x - y) := by
  unfold Bd at *
  have : (2 : Nat) ^ (k + 1) = 2 ^ k + 2 ^ k := by rw [Nat.pow_succ]; omega
  omega
theorem Bd.le {k : Nat} {x y : Int} (h : Bd k y) (hx : x.natAbs ≤ y.natAbs) : Bd k x := Nat.lt_of_le_of_lt hx h
theorem Bd.of {k : Nat} {x : Int} (n : Nat) (h : x.natAbs ≤ n) (hn : n < 2 ^ k := by decide) : Bd k x := Nat.lt_of_le_of_lt h hn
theorem Bd.cm {j k : Nat} {x y : Int} (hx : Bd j x) (hy : Bd k y) (h : j + k ≤ 900000 := by omega) : CMulW x y :=
  wide_mul (hx.mono (Nat.le_succ j)) (hy.mono (Nat.le_succ k)) (Nat.succ_pos _) (Nat.succ_pos _) (by omega)
theorem Bd.cd {k : Nat} {x y : Int} (hy : Bd k y) (h0 : 0 < y) (h : k ≤ 8000 := by omega) : CDivW x y := wide_div h0 (hy.mono (Nat.le_succ k)) (Nat.succ_pos _) (by omega)
theorem cm64 {i j : Int} (h1 : -18446744073709551616 ≤ i) (h2 : i ≤ 18446744073709551616) (h3 : -18446744073709551616 ≤ j) (h4 : j ≤ 18446744073709551616) : CMulW i j :=
  Bd.cm (j := 65) (k := 65) (Bd.of 18446744073709551616 (by omega)) (Bd.of 18446744073709551616 (by omega))
theorem cd64 {i j : Int} (h1 : 0 < j) (h2 : j ≤ 18446744073709551616) : CDivW i j := Bd.cd (k := 65) (Bd.of 18446744073709551616 (by omega)) h1

theorem W.zero {H : Hp} : W (fun _ => none) H [] := ⟨fun _ _ h => (nomatch h), fun _ h => (nomatch h), List.nodup_nil⟩
/-! ### fractions as data -/
abbrev fr (a b : Int) : D := .tup [.int a, .int b]

/-! ### the bag of draws: c is where its cells stand -/
structure BagAt (o : HO) (c : Addr) (x y z : Int) : Prop where
  ob : o = .lst [.int x, .int y, .int z, .ref c]
  x0 : 0 ≤ x
  y0 : 0 ≤ y
  y1 : y < 2147483647
  z0 : 0 ≤ z
def Bag (I : Hp) (c : Addr) (o : HO) : Prop := (∃ ns : List Int, I c = some (.lst (ns.map V.int)) ∧ ∀ n ∈ ns, 0 ≤ n) ∧ ∃ x y z, BagAt o c x y z
theorem Bag.mono {I J : Hp} {c : Addr} {o : HO} (s : Same I J) (h : Bag I c o) : Bag J c o := by
  obtain ⟨⟨ns, h1, h2⟩, h3⟩ := h
  exact ⟨⟨ns, s _ _ h1, h2⟩, h3⟩
end Fs

namespace Fs
open PySem PySem.Spec PyProof.Rows L2

/-! ### what stayed may be changed from now on -/
def del (I : Hp) (p : Addr) : Hp := fun a => if a = p then none else I a
theorem del_ne {I : Hp} {p a : Addr} (h : a ≠ p) : del I p a = I a := if_neg h
theorem del_same {I : Hp} {p : Addr} : del I p p = none := if_pos rfl
theorem same_del {J I : Hp} {p : Addr} (s : Same J I) (h : J p = none) : Same J (del I p) := fun b o e => by
  rw [del_ne (ne_of_none e h)]
  exact s b o e
section
variable {I J H : Hp} {M : List (Addr × HO)} {p : Addr} {o : HO} {m : Addr × HO}
theorem W.unf (w : W I H M) (h : I p = some o) : W (del I p) H ((p, o) :: M) where
  imm := fun b x e => by
    by_cases hb : b = p
    · subst hb; rw [del_same] at e; cases e
    · rw [del_ne hb] at e; exact w.imm b x e
  mu := fun x hx => by
    rcases List.mem_cons.mp hx with e | hx
    · subst e; exact ⟨w.imm _ _ h, del_same⟩
    · have q := w.mu x hx
      refine ⟨q.1, ?_⟩
      by_cases hb : x.1 = p
      · rw [hb]; exact del_same
      · rw [del_ne hb]; exact q.2
  nd := List.nodup_cons.mpr (And.intro (fun q => (by
    obtain ⟨x, hx, e⟩ := List.mem_map.mp q
    have := (w.mu x hx).2
    rw [e, h] at this
    cases this)) w.nd)
theorem W.swap {m0 m1 : Addr × HO} (w : W I H (m0 :: m1 :: M)) : W I H (m1 :: m0 :: M) := by
  refine ⟨w.imm, fun x hx => w.mu x ?_, ?_⟩
  · rcases List.mem_cons.mp hx with e | hx
    · exact List.mem_cons.mpr (.inr (List.mem_cons.mpr (.inl e)))
    · rcases List.mem_cons.mp hx with e | hx
      · exact List.mem_cons.mpr (.inl e)
      · exact List.mem_cons.mpr (.inr (List.mem_cons.mpr (.inr hx)))
  · have n := w.nd
    simp only [List.map_cons, List.nodup_cons, List.mem_cons, not_or] at n ⊢
    exact ⟨⟨fun e => n.1.1 e.symm, n.2.1⟩, n.1.2, n.2.2⟩
/-- behind the head -/
theorem W.unf1 (w : W I H (m :: M)) (h : I p = some o) : W (del I p) H (m :: (p, o) :: M) := (w.unf h).swap
theorem W.less (w : W I H (m :: M)) : W I H M := ⟨w.imm, fun x hx => w.mu x (List.mem_cons_of_mem _ hx), (List.nodup_cons.mp w.nd).2⟩
/-- fewer facts -/
theorem W.sub (w : W I H M) (s : Same J I) : W J H M := ⟨s.trans w.imm, fun x hx => ⟨(w.mu x hx).1, s.free (w.mu x hx).2⟩, w.nd⟩
theorem Bag.at {c : Addr} (h : Bag I c o) (hp : I p = none) : c ≠ p := by
  obtain ⟨⟨ns, h1, _⟩, _⟩ := h
  exact ne_of_none h1 hp
theorem Bag.del {c : Addr} (h : Bag I c o) (hp : c ≠ p) : Bag (del I p) c o := by
  obtain ⟨⟨ns, h1, h2⟩, h3⟩ := h
  exact ⟨⟨ns, by rw [del_ne hp]; exact h1, h2⟩, h3⟩
end

/-! ### == of data without truths -/
mutual
def D.pd : D → PyData
  | .non => .none
  | .bl b => .bool b
  | .int i => .int i
  | .str x => .str x
  | .ref _ => .none
  | .ty _ => .none
  | .tup ds => .tuple (D.pds ds)
  | .lst ds => .list (D.pds ds)
  | .obj _ _ => .none
  | .dict => .none
  | .fact _ => .none
def D.pds : List D → List PyData
  | [] => []
  | d :: ds => D.pd d :: D.pds ds
end
/-- data of at most this depth, no truths in it -/
inductive NB : Nat → D → Prop
  | non {k : Nat} : NB k .non
  | int {k : Nat} (i : Int) : NB k (.int i)
  | str {k : Nat} {x : Str} (h : PyData.strOk x = true) : NB k (.str x)
  | tup {k : Nat} {ds : List D} (h : ∀ d ∈ ds, NB k d) : NB (k + 1) (.tup ds)
  | lst {k : Nat} {ds : List D} (h : ∀ d ∈ ds, NB k d) : NB (k + 1) (.lst ds)
theorem NB.mono {j : Nat} {d : D} (h : NB j d) : ∀ {k : Nat}, j ≤ k → NB k d := by
  induction h with
  | non => intro k _; exact .non
  | int i => intro k _; exact .int i
  | str h => intro k _; exact .str h
  | @tup j ds h ih =>
    intro k e
    cases k with
    | zero => omega
    | succ k => exact .tup fun d hd => ih d hd (by omega)
  | @lst j ds h ih =>
    intro k e
    cases k with
    | zero => omega
    | succ k => exact .lst fun d hd => ih d hd (by omega)
theorem pds_can : ∀ {ds : List D} {k : Nat}, (∀ d ∈ ds, (D.pd d).canLay0 = true ∧ (D.pd d).depth ≤ k) → PyData.canLayAll0 (D.pds ds) = true ∧ PyData.depthAll (D.pds ds) ≤ k
  | [], _, _ => ⟨by simp [D.pds, PyData.canLayAll0], by simp [D.pds, PyData.depthAll]⟩
  | d :: ds, k, h => by
    obtain ⟨h1, h2⟩ := h d List.mem_cons_self
    obtain ⟨h3, h4⟩ := pds_can (ds := ds) (k := k) fun e he => h e (List.mem_cons_of_mem _ he)
    exact ⟨by simp [D.pds, PyData.canLayAll0, h1, h3], by simp only [D.pds, PyData.depthAll]; omega⟩
theorem NB.can {k : Nat} {d : D} (h : NB k d) : (D.pd d).canLay0 = true ∧ (D.pd d).depth ≤ k := by
  induction h with
  | non => exact ⟨by simp [D.pd, PyData.canLay0], by simp [D.pd, PyData.depth]⟩
  | int i => exact ⟨by simp [D.pd, PyData.canLay0], by simp [D.pd, PyData.depth]⟩
  | str h => exact ⟨by simp [D.pd, PyData.canLay0, h], by simp [D.pd, PyData.depth]⟩
  | tup h ih =>
    obtain ⟨h1, h2⟩ := pds_can ih
    exact ⟨by simp [D.pd, PyData.canLay0, h1], by simp only [D.pd, PyData.depth]; omega⟩
  | lst h ih =>
    obtain ⟨h1, h2⟩ := pds_can ih
    exact ⟨by simp [D.pd, PyData.canLay0, h1], by simp only [D.pd, PyData.depth]; omega⟩
theorem NB.shaped {k : Nat} {d : D} (h : NB k d) (hk : k ≤ 64) : SeqAt.shaped (D.pd d) = true := by
  obtain ⟨h1, h2⟩ := h.can
  unfold SeqAt.shaped
  rw [h1, decide_eq_true (by omega)]
  rfl
theorem pds_eqv : ∀ {ds es : List D} {P : D → Prop}, (∀ d ∈ ds, ∀ e, P e → (PyData.eqv d.pd e.pd = true ↔ d = e)) → (∀ e ∈ es, P e) → (PyData.eqvAll (D.pds ds) (D.pds es) = true ↔ ds = es)
  | [], [], _, _, _ => by simp [D.pds, PyData.eqvAll]
  | [], e :: es, _, _, _ => by simp [D.pds, PyData.eqvAll]
  | d :: ds, [], _, _, _ => by simp [D.pds, PyData.eqvAll]
  | d :: ds, e :: es, P, h, g => by
    have h1 := h d List.mem_cons_self e (g e List.mem_cons_self)
    have h2 := pds_eqv (ds := ds) (es := es) (P := P) (fun x hx => h x (List.mem_cons_of_mem _ hx)) fun x hx => g x (List.mem_cons_of_mem _ hx)
    simp only [D.pds, PyData.eqvAll, Bool.and_eq_true, h1, h2, List.cons.injEq]
theorem NB.eqv {k : Nat} {d : D} (h : NB k d) : ∀ {j : Nat} {e : D}, NB j e → (PyData.eqv d.pd e.pd = true ↔ d = e) := by
  induction h with
  | non => intro j e g; cases g <;> simp [D.pd, PyData.eqv]
  | int i => intro j e g; cases g <;> simp [D.pd, PyData.eqv]
  | str h => intro j e g; cases g <;> simp [D.pd, PyData.eqv]
  | @tup k ds h ih =>
    intro j e g
    cases g with
    | non => simp [D.pd, PyData.eqv]
    | int i => simp [D.pd, PyData.eqv]
    | str h => simp [D.pd, PyData.eqv]
    | @tup j es g =>
      simp only [D.pd, PyData.eqv, D.tup.injEq]
      exact pds_eqv (P := fun e => ∃ j, NB j e) (fun d hd e he => by obtain ⟨j, he⟩ := he; exact ih d hd he) fun e he => ⟨_, g e he⟩
    | lst g => simp [D.pd, PyData.eqv]
  | @lst k ds h ih =>
    intro j e g
    cases g with
    | non => simp [D.pd, PyData.eqv]
    | int i => simp [D.pd, PyData.eqv]
    | str h => simp [D.pd, PyData.eqv]
    | @lst j es g =>
      simp only [D.pd, PyData.eqv, D.lst.injEq]
      exact pds_eqv (P := fun e => ∃ j, NB j e) (fun d hd e he => by obtain ⟨j, he⟩ := he; exact ih d hd he) fun e he => ⟨_, g e he⟩
    | tup g => simp [D.pd, PyData.eqv]
section
variable {K : PySem.W.Frag} {I H : Hp} {M : List (Addr × HO)} {Q : VK} {x y v : V} {d e : D} {ds es : List D} {j k : Nat}
theorem isA_dp (f : ∀ d ∈ ds, ∀ v, Is I v d → Dp K H v d.pd) : ∀ {vs : List V}, IsA I vs ds → DpAll K H vs (D.pds ds) := by
  induction ds with
  | nil => intro vs a; cases a; exact .nil
  | cons d ds ih =>
    intro vs a
    cases a with
    | cons h a => exact .cons (f d List.mem_cons_self _ h) (ih (fun e he => f e (List.mem_cons_of_mem _ he)) a)
theorem NB.dp (w : W I H M) (n : NB k d) : ∀ {v : V}, Is I v d → Dp K H v d.pd := by
  induction n with
  | non => intro v h; cases h; exact .non
  | int i => intro v h; cases h; exact .int i
  | str s => intro v h; cases h; exact .str _
  | tup n ih =>
    intro v h
    cases h with
    | tup hp a => exact .tup (.inl (.inl (w.imm _ _ hp))) (isA_dp (fun d hd v hv => ih d hd hv) a)
  | lst n ih =>
    intro v h
    cases h with
    | lst hp a => exact .lst (.inl (.inl (w.imm _ _ hp))) (isA_dp (fun d hd v hv => ih d hd hv) a)
theorem s_eqD {b : Bool} (w : W I H M) (hx : Is I x d) (hy : Is I y e) (n : NB k d) (m : NB j e) (hk : k ≤ 64) (hj : j ≤ 64) (hb : b = true ↔ d = e) (q : Q (.bl b) H) : rEqU K x y H Q :=
  .inr ⟨d.pd, e.pd, n.dp w hx, m.dp w hy, n.shaped hk, m.shaped hj, by
    have h1 := n.eqv m
    have h2 : PyData.eqv d.pd e.pd = b := by rw [Bool.eq_iff_iff, h1, hb]
    rw [h2]; exact q⟩
theorem s_neD {b : Bool} (w : W I H M) (hx : Is I x d) (hy : Is I y e) (n : NB k d) (m : NB j e) (hk : k ≤ 64) (hj : j ≤ 64) (hb : b = true ↔ d = e) (q : Q (.bl (!b)) H) : rNeU K x y H Q :=
  .inr ⟨d.pd, e.pd, n.dp w hx, m.dp w hy, n.shaped hk, m.shaped hj, by
    have h1 := n.eqv m
    have h2 : PyData.eqv d.pd e.pd = b := by rw [Bool.eq_iff_iff, h1, hb]
    rw [h2]; exact q⟩
theorem s_eqT (w : W I H M) (hx : Is I x d) (hy : Is I y d) (n : NB 60 d) (q : Q (.bl true) H) : rEqU K x y H Q := s_eqD w hx hy n n (by decide) (by decide) (b := true) (by simp) q
theorem s_neT (w : W I H M) (hx : Is I x d) (hy : Is I y d) (n : NB 60 d) (q : Q (.bl false) H) : rNeU K x y H Q := s_neD w hx hy n n (by decide) (by decide) (b := true) (by simp) q
theorem NB.fr {a b : Int} {k : Nat} : NB (k + 1) (fr a b) := .tup fun d hd => by
  rcases List.mem_cons.mp hd with rfl | hd
  · exact .int a
  · rw [List.mem_singleton.mp hd]; exact .int b
/-- lists -/
theorem s_catI (w : W I H M) (hx : Is I x (.lst ds)) (hy : Is I y (.lst es)) (hz : ds.length + es.length ≤ 100000) (q : ∀ p J H', Same I J → I p = none → W J H' M → Is J (.ref p) (.lst (ds ++ es)) → Q (.ref p) H') : rAddU K x y H Q := by
  obtain ⟨p1, vs, rfl, h1, a1⟩ := hx.lst_ex
  obtain ⟨p2, us, rfl, h2, a2⟩ := hy.lst_ex
  exact .inr (.inr (.inl ⟨p1, p2, vs, us, rfl, rfl, w.imm _ _ h1, w.imm _ _ h2, by rw [a1.length, a2.length]; exact Nat.le_trans hz (by decide), fun p hp => q p _ _ (w.same hp) (w.fresh hp) (w.newI hp) (.lst upd_same ((a1.app a2).mono (w.same hp)))⟩))
theorem s_listI (w : W I H M) (hx : Is I x (.lst ds)) (q : ∀ p J H', Same I J → I p = none → W J H' M → Is J (.ref p) (.lst ds) → Q (.ref p) H') : rListOf K [x] H Q := by
  obtain ⟨p1, vs, rfl, h1, a1⟩ := hx.lst_ex
  exact ⟨p1, vs, rfl, .inl (.inl (.inl (w.imm _ _ h1))), fun p hp => q p _ _ (w.same hp) (w.fresh hp) (w.newI hp) (.lst upd_same (a1.mono (w.same hp)))⟩
theorem s_listT (w : W I H M) (hx : Is I x (.tup ds)) (q : ∀ p J H', Same I J → I p = none → W J H' M → Is J (.ref p) (.lst ds) → Q (.ref p) H') : rListOf K [x] H Q := by
  obtain ⟨p1, vs, rfl, h1, a1⟩ := hx.tup_ex
  exact ⟨p1, vs, rfl, .inr (.inl (.inl (w.imm _ _ h1))), fun p hp => q p _ _ (w.same hp) (w.fresh hp) (w.newI hp) (.lst upd_same (a1.mono (w.same hp)))⟩
def cutD (ds : List D) (lo hi : Option Int) : List D := (ds.drop (HT.sIx ds.length 0 lo)).take (HT.sIx ds.length ds.length hi - HT.sIx ds.length 0 lo)
theorem IsA.cut {vs : List V} (a : IsA I vs ds) (lo hi : Option Int) : IsA I (cutV vs lo hi) (cutD ds lo hi) := by
  unfold cutV cutD
  rw [a.length]
  exact (a.drop _).take _
theorem s_slI {lo hi : Option Int} (w : W I H M) (hx : Is I x (.lst ds)) (q : ∀ p J H', Same I J → I p = none → W J H' M → Is J (.ref p) (.lst (cutD ds lo hi)) → Q (.ref p) H') : rSlL K x lo hi H Q := by
  obtain ⟨p1, vs, rfl, h1, a1⟩ := hx.lst_ex
  exact ⟨p1, vs, rfl, .inl (.inl (w.imm _ _ h1)), fun p hp => q p _ _ (w.same hp) (w.fresh hp) (w.newI hp) (.lst upd_same ((a1.cut lo hi).mono (w.same hp)))⟩
end

/-! ### defs with defaults -/
section
variable {P : Program} {w : World} {K : PySem.W.Frag} {mg : Str → Option Value} {base : Heap}
theorem _root_.L2.FunD.ok0 {x qual : Str} {st : Stmt} {dvs : List V} {f : Addr} {fd : FuncData} {N ps : List Str} {k : Nat} {sp : Sp} (F : FunD K x qual (defArgs st) (defBody st) (defScope st) dvs [] f fd) (S : FnScope N ps (defScope st)) (len : ∀ vs H Q E, sp vs H Q E → vs.length = ps.length)
    (hbody : ∀ (cdv : Value) (A : Around) (outer : List Env) (s : Shared) (H : Hp) (vs : List V) (Q : VK) (E : XK), Room k (A.deeper (envOfC qual (defScope st) s.heap.objs.size f cdv)) → sp vs H Q E →
      ∃ t, PSs (cxOf CX0 P w K mg base N qual (defScope st) f cdv A outer s H E).nox (defBody st) t ∧ t { nx := fun _ H' => Q .non H', rt := Q } (start N vs) H) : FnOk P w K mg base CX0 (k + 1) f fd ps sp :=
  F.ok S len fun cdv A outer s H vs Q E hr h => let ⟨t, a, b⟩ := hbody cdv A outer s H vs Q E hr h; ⟨t, a.nox, b⟩
/-- what the top has left of such a def -/
theorem funD_mk {x qual : Str} {st : Stmt} {f T : Addr} {oc to_ : Value} {od an td : Option Addr} {osl tsl : Array (Option Value)} {kV doc pm cdv ct : Value} {its : List Value} {n : Nat} {dvs : List V} (l : K.lookup f = some ⟨oc, od, .func (PySem.W.fnOf x qual (defArgs st) (defBody st) (defScope st) (.ref T) kV doc pm an cdv ct), osl⟩)
    (c : PySem.W.codeIn K cdv qual = true) (k : PySem.W.keepIn K (.ref f) = true) (lT : K.lookup T = some ⟨to_, td, .seq its.toArray n, tsl⟩) (hv : Vals dvs its) (hd : dvs ≠ []) :
    FunD K x qual (defArgs st) (defBody st) (defScope st) dvs [] f (PySem.W.fnOf x qual (defArgs st) (defBody st) (defScope st) (.ref T) kV doc pm an cdv ct) :=
  ⟨⟨oc, od, .ref T, kV, doc, pm, an, cdv, ct, osl, rfl, l, c, .inr ⟨hd, T, _, its, n, rfl, lT, rfl, hv⟩, .inl rfl⟩, k⟩
end
end Fs

namespace Fs
open PySem PySem.Spec PyProof.Rows L2
/-! ### fractions are rational numbers -/
abbrev frq (q : Rat) : D := fr q.num q.den
/-- its numbers have at most so many bits -/
structure Sz (k : Nat) (q : Rat) : Prop where
  n : Bd k q.num
  d : Bd k (q.den : Int)
theorem Sz.mono {j k : Nat} {q : Rat} (h : Sz j q) (hk : j ≤ k) : Sz k q := ⟨h.n.mono hk, h.d.mono hk⟩
theorem den_pos' (q : Rat) : (0 : Int) < (q.den : Int) := by have := q.den_pos; omega
theorem gcd_q (q : Rat) : Int.gcd q.num q.den = 1 := q.reduced
theorem gcd_pos' {t b : Int} (h : b ≠ 0) : (0 : Int) < (Int.gcd t b : Int) := by
  have : 0 < Int.gcd t b := Int.gcd_pos_of_ne_zero_right _ h
  omega
theorem gcd_abs (t b : Int) : Int.gcd (if t < 0 then -t else t) (if b < 0 then -b else b) = Int.gcd t b := by
  split <;> split <;> simp [Int.gcd_neg, Int.neg_gcd]
theorem gcd_le_right' {t b : Int} (h : b ≠ 0) : (Int.gcd t b : Int).natAbs ≤ b.natAbs := by
  have := Nat.le_of_dvd (by omega) (Nat.gcd_dvd_right t.natAbs b.natAbs)
  show Int.gcd t b ≤ _
  exact this
theorem low_num {t b : Int} (h : b ≠ 0) : (if b < 0 then -t else t) / (Int.gcd t b : Int) = (Rat.divInt t b).num := by
  rw [Rat.num_divInt, Int.gcd_comm b t]
  by_cases hb : b < 0
  · rw [if_pos hb, Int.sign_eq_neg_one_of_neg hb]
    congr 1
    omega
  · rw [if_neg hb, Int.sign_eq_one_of_pos (by omega)]
    congr 1
    omega
theorem low_den {t b : Int} (h : b ≠ 0) : (if b < 0 then -b else b) / (Int.gcd t b : Int) = ((Rat.divInt t b).den : Int) := by
  rw [Rat.den_divInt, if_neg h, Int.gcd_comm b t, Int.natCast_ediv]
  congr 1
  split <;> omega
theorem div_abs_le {a g : Int} (hg : 0 < g) (hd : g ∣ a) : (a / g).natAbs ≤ a.natAbs := by
  obtain ⟨c, rfl⟩ := hd
  rw [Int.mul_ediv_cancel_left _ (by omega), Int.natAbs_mul]
  exact Nat.le_mul_of_pos_left _ (by omega)
theorem num_le {t b : Int} (h : b ≠ 0) : (Rat.divInt t b).num.natAbs ≤ t.natAbs := by
  rw [← low_num h]
  have hd : (Int.gcd t b : Int) ∣ (if b < 0 then -t else t) := by
    split
    · exact Int.dvd_neg.mpr (Int.gcd_dvd_left _ _)
    · exact Int.gcd_dvd_left _ _
  have := div_abs_le (gcd_pos' (t := t) h) hd
  split at this <;> split <;> omega
theorem den_le {t b : Int} (h : b ≠ 0) : ((Rat.divInt t b).den : Int).natAbs ≤ b.natAbs := by
  rw [← low_den h]
  have hd : (Int.gcd t b : Int) ∣ (if b < 0 then -b else b) := by
    split
    · exact Int.dvd_neg.mpr (Int.gcd_dvd_right _ _)
    · exact Int.gcd_dvd_right _ _
  have := div_abs_le (gcd_pos' (t := t) h) hd
  split at this <;> split <;> omega
theorem Sz.divInt {j k : Nat} {t b : Int} (h : b ≠ 0) (ht : Bd j t) (hb : Bd k b) (m : Nat) (hj : j ≤ m := by omega) (hk : k ≤ m := by omega) : Sz m (Rat.divInt t b) := ⟨(ht.le (num_le h)).mono hj, (hb.le (den_le h)).mono hk⟩
theorem den_ne (q : Rat) : (q.den : Int) ≠ 0 := by have := q.den_pos; omega
theorem add_dv (p q : Rat) : Rat.divInt (p.num * q.den + q.num * p.den) (p.den * q.den) = p + q := by
  have h := Rat.divInt_add_divInt p.num q.num (den_ne p) (den_ne q)
  rw [Rat.num_divInt_den, Rat.num_divInt_den] at h
  exact h.symm
theorem sub_dv (p q : Rat) : Rat.divInt (p.num * q.den - q.num * p.den) (p.den * q.den) = p - q := by
  have h := Rat.divInt_sub_divInt p.num q.num (den_ne p) (den_ne q)
  rw [Rat.num_divInt_den, Rat.num_divInt_den] at h
  exact h.symm
theorem mul_dv (p q : Rat) : Rat.divInt (p.num * q.num) (p.den * q.den) = p * q := by
  have h := Rat.divInt_mul_divInt p.num q.num (d₁ := p.den) (d₂ := q.den)
  rw [Rat.num_divInt_den, Rat.num_divInt_den] at h
  exact h.symm
theorem div_dv (p q : Rat) : Rat.divInt (p.num * q.den) (p.den * q.num) = p / q := by
  have h := Rat.divInt_mul_divInt p.num q.den (d₁ := p.den) (d₂ := q.num)
  rw [Rat.num_divInt_den, ← Rat.inv_divInt q.num q.den, Rat.num_divInt_den] at h
  rw [Rat.div_def]
  exact h.symm
theorem den_mul_ne (p q : Rat) : (p.den * q.den : Int) ≠ 0 := Int.mul_ne_zero (den_ne p) (den_ne q)
theorem Sz.add {j k : Nat} {p q : Rat} (hp : Sz j p) (hq : Sz k q) : Sz (j + k + 1) (p + q) := by
  rw [← add_dv]
  exact Sz.divInt (den_mul_ne p q) (Bd.add (hp.n.mul hq.d) ((hq.n.mul hp.d).mono (by omega))) (hp.d.mul hq.d) _
theorem Sz.sub {j k : Nat} {p q : Rat} (hp : Sz j p) (hq : Sz k q) : Sz (j + k + 1) (p - q) := by
  rw [← sub_dv]
  exact Sz.divInt (den_mul_ne p q) (Bd.sub (hp.n.mul hq.d) ((hq.n.mul hp.d).mono (by omega))) (hp.d.mul hq.d) _
theorem Sz.mul {j k : Nat} {p q : Rat} (hp : Sz j p) (hq : Sz k q) : Sz (j + k) (p * q) := by
  rw [← mul_dv]
  exact Sz.divInt (den_mul_ne p q) (hp.n.mul hq.n) (hp.d.mul hq.d) _
theorem Sz.div {j k : Nat} {p q : Rat} (hp : Sz j p) (hq : Sz k q) (h0 : q ≠ 0) : Sz (j + k) (p / q) := by
  rw [← div_dv]
  exact Sz.divInt (Int.mul_ne_zero (den_ne p) (fun h => h0 (Rat.num_eq_zero.mp h))) (hp.n.mul hq.d) (hp.d.mul hq.n) _
theorem Sz.neg {k : Nat} {q : Rat} (h : Sz k q) : Sz k (-q) := ⟨by rw [Rat.neg_num]; exact h.n.neg, by rw [Rat.neg_den]; exact h.d⟩
theorem Sz.int {k : Nat} {n : Int} (h : Bd k n) (hk : 0 < k := by decide) : Sz k (n : Rat) := ⟨h, Bd.of 1 (by rw [Rat.den_intCast]; decide) (by
  have : 2 ^ 1 ≤ 2 ^ k := Nat.pow_le_pow_right (by decide) hk
  omega)⟩
theorem frq_int (n : Int) : frq (n : Rat) = fr n 1 := rfl
theorem frq_zero : frq 0 = fr 0 1 := rfl
theorem frq_inj {p q : Rat} (h : frq p = frq q) : p = q := by
  injection h with h
  injection h with h1 h
  injection h with h2 _
  injection h1 with h1
  injection h2 with h2
  exact Rat.ext h1 (by omega)
theorem frq_of {a b : Int} (hb : 0 < b) (g : Int.gcd a b = 1) : fr a b = frq (Rat.divInt a b) := by
  have h1 := low_num (t := a) (b := b) (by omega)
  have h2 := low_den (t := a) (b := b) (by omega)
  rw [if_neg (by omega), g] at h1 h2
  simp only [Int.natCast_one, Int.ediv_one] at h1 h2
  rw [frq, ← h1, ← h2]
theorem gcd_step {a b : Int} (ha : 0 ≤ a) (hb : 0 ≤ b) : Int.gcd b (a % b) = Int.gcd a b := by
  obtain ⟨m, rfl⟩ := Int.eq_ofNat_of_zero_le ha
  obtain ⟨n, rfl⟩ := Int.eq_ofNat_of_zero_le hb
  show Nat.gcd n (m % n) = Nat.gcd m n
  rw [Nat.gcd_comm n, ← Nat.gcd_rec, Nat.gcd_comm]
theorem gcd_end {a : Int} (ha : 0 ≤ a) : (Int.gcd a 0 : Int) = a := by
  rw [Int.gcd_zero_right]
  omega
end Fs

namespace Fs
open PySem PySem.Spec PyProof.Rows L2
/-! ### the rules with the written part as a letter (for a comprehension's block) -/
section
variable {X : Cx} {K : PySem.W.Frag}
theorem k_add (h : X.K = K) : OpR X (binaryOp .Add) (rAddU K) := h ▸ uo_add
theorem k_eq (h : X.K = K) (hu : X.A.units + 64 < cLine) : OpR X (compareOp .Eq) (rEqU K) := h ▸ uo_eq hu
theorem k_ne (h : X.K = K) (hu : X.A.units + 64 < cLine) : OpR X (compareOp .NotEq) (rNeU K) := h ▸ uo_ne hu
theorem k_ix (h : X.K = K) : IxR X (rIx K) := h ▸ ix_seq
theorem k_len (h : X.K = K) : CallR X (.builtin "len") (rLenU K) := h ▸ uc_len
theorem k_isi (h : X.K = K) : CallR X (.builtin "isinstance") (rIsiU K) := h ▸ uc_isi
theorem k_min (h : X.K = K) (hc : X.calm = true) : CallR X (.builtin "min") (rMinU K) := h ▸ uc_min hc
theorem k_max (h : X.K = K) (hc : X.calm = true) : CallR X (.builtin "max") (rMaxU K) := h ▸ uc_max hc
theorem k_sum (h : X.K = K) (hc : X.calm = true) : CallR X (.builtin "sum") (rSum K) := h ▸ cr_sum hc
theorem k_list (h : X.K = K) : CallR X (.type "list") (rListOf K) := h ▸ uc_list
theorem k_sl (h : X.K = K) : SlR X (rSlL K) := h ▸ sl_list
theorem kpi_list {tg l : Expr} {tl : TE} (h : X.K = K) (e : PE X l tl) : PI X tg l (iList K tl) := h ▸ pi_list e
theorem kpi_tup {tg l : Expr} {tl : TE} (h : X.K = K) (e : PE X l tl) : PI X tg l (iTup K tl) := h ▸ pi_tup e
theorem kpe_fld {e : Expr} {ta : TE} {f : Str} {pos : Pos} (h : X.K = K) (he : PE X e ta) (hb : attributeBase e f X.env (eval e X.env) = eval e X.env) : PE X (.Attribute e f pos) (tFld K ta f) := h ▸ pe_fld he hb
theorem kpg_tup {es : List Expr} {k : Nat} {t : TGs} {n : Nat} {pos : Pos} (h : X.K = K) (hc : X.calm = true) (hg : PGs X es t)
    (hn : (assignEach es X.env).length = n := by rfl) (hst : (assignEach es X.env).findIdx? (·.1) = none := by rfl) : PG X (.Tuple es k pos) (gTup K n t) := h ▸ pg_tup hc hg hn hst
end
/-! ### comprehensions -/
/-- what stands behind a comprehension's source -/
def LcGo (J : It) (g : TG) (tt : TT) (te : TE) (xs : List Nat) (σ : L2.St) (Q : VK) (H1 : Hp) : Prop := ∀ D, H1 D = none → ∃ W : Nat → Nat → Hp → Prop, (∃ m, W 0 m (upd H1 D (.lst []))) ∧ ∀ i m H, W i m H →
  (J.stop i H ∧ Q (.ref D) H) ∨ (J.go i H ∧ ∃ Nx : Hp → Prop, (∀ H', Nx H' → ∃ m', m' < m ∧ W (i + 1) m' H') ∧ ∀ x H', J.yld i H x H' → g x (wipe σ xs) H' fun σ2 H2 => wipe σ2 xs = wipe σ xs ∧ tt σ2 H2 fun b H3 =>
    if b = true then te σ2 H3 fun y H4 => ∃ acc, H4 D = some (.lst acc) ∧ acc.length < sizeLine ∧ Nx (upd H4 D (.lst (acc ++ [y]))) else Nx H3)
section
variable {K : PySem.W.Frag} {σ : L2.St} {I H : Hp} {M : List (Addr × HO)} {Q : VK} {x v : V} {b c : Addr} {o : HO} {te : TE} {wi : TI} {g : TG} {tt : TT} {xs : List Nat} {ds : List D} {k : Nat}
theorem s_lcc (h : wi σ H fun J H1 => LcGo J g tt te xs σ Q H1) : tLc wi g tt te xs σ H Q := h
theorem s_lcRng {n : Int} {lo : Int} (h1 : -(2 ^ 62) ≤ n) (h2 : n < 2 ^ 62) (h : LcGo (Itr 0 n.toNat) g tt te xs σ Q H) : ∃ j : Int, [V.int n] = [.int j] ∧ -(2 ^ 62) ≤ j ∧ j < 2 ^ 62 ∧ LcGo (Itr 0 j.toNat) g tt te xs σ Q H := ⟨n, rfl, h1, h2, h⟩
/-- turns that draw nothing, one name as target, no test; what the i-th turn gives is told by f -/
theorem lc_pure {J : It} {n : Nat} {Gd : Hp → Prop} {Y : Nat → Hp → V → Hp → Prop} (wk : Walk J n Gd Y) (w : W I H M) (hG : ∀ H', Same I H' → Gd H') (f : Nat → D) (hn : n ≤ 100000)
    (hw : ∀ v, wipe ((wipe σ xs).set k (some v)) xs = wipe σ xs)
    (step : ∀ i v D acc J' H0 H' C, i < n → Same I J' → W J' H0 ((D, .lst acc) :: M) → Y i H0 v H' → (∀ y J'' H4, Same J' J'' → W J'' H4 ((D, .lst acc) :: M) → Is J'' y (f i) → C y H4) → te ((wipe σ xs).set k (some v)) H' C)
    (q : ∀ p J' H', Same I J' → I p = none → W J' H' M → Is J' (.ref p) (.lst ((List.range n).map f)) → Q (.ref p) H') : LcGo J (gName k) tYes te xs σ Q H := by
  intro D nD
  have w1 := w.newM (o := .lst []) nD
  refine lc_it wk (fun i H' => ∃ acc J', Same I J' ∧ W J' H' ((D, .lst acc) :: M) ∧ IsA J' acc ((List.range i).map f) ∧ acc.length = i) ⟨[], I, Same.refl _, w1, .nil, rfl⟩ (fun i H' _ ⟨acc, J', s, w', _⟩ => hG H' (s.trans w'.imm)) ?_ ?_
  · rintro i v H0 H' hi ⟨acc, J', s, w', a, hl⟩ hy
    refine ⟨hw v, ?_⟩
    refine s_yes (iteT (step i v D acc J' H0 H' _ hi s w' hy fun y J'' H4 s2 w2 h2 => ?_))
    refine ⟨acc, w2.at0, by rw [hl]; exact Nat.lt_of_lt_of_le hi (Nat.le_trans hn (by decide)), acc ++ [y], J'', s.trans s2, w2.put0, ?_, by rw [List.length_append, hl]; rfl⟩
    rw [List.range_succ, List.map_append]
    exact (a.mono s2).app (.one h2)
  · rintro H' ⟨acc, J', s, w', a, hl⟩
    obtain ⟨J2, s2, w2, h2⟩ := w'.done0 a
    refine q D J2 H' (s.trans s2) (w.fresh nD) w2 h2
/-- turns that draw -/
theorem lc_bag {J : It} {n : Nat} {Gd : Hp → Prop} {Y : Nat → Hp → V → Hp → Prop} (wk : Walk J n Gd Y) (w : W I H ((b, o) :: M)) (hb : Bag I c o) (hG : ∀ H', Same I H' → Gd H') (P : Nat → D → Prop) (hn : n ≤ 100000)
    (hw : ∀ v, wipe ((wipe σ xs).set k (some v)) xs = wipe σ xs)
    (step : ∀ i v D acc o' J' H0 H' C, i < n → Same I J' → Bag J' c o' → W J' H0 ((b, o') :: (D, .lst acc) :: M) → Y i H0 v H' →
      (∀ y d o'' J'' H4, Same J' J'' → Bag J'' c o'' → W J'' H4 ((b, o'') :: (D, .lst acc) :: M) → Is J'' y d → P i d → C y H4) → te ((wipe σ xs).set k (some v)) H' C)
    (q : ∀ p ds o' J' H', Same I J' → I p = none → Bag J' c o' → W J' H' ((b, o') :: M) → Is J' (.ref p) (.lst ds) → ds.length = n → (∀ i d, ds[i]? = some d → P i d) → Q (.ref p) H') : LcGo J (gName k) tYes te xs σ Q H := by
  intro D nD
  have w1 := w.newM2 (o := .lst []) nD
  refine lc_it wk (fun i H' => ∃ acc J' o' ds, Same I J' ∧ Bag J' c o' ∧ W J' H' ((b, o') :: (D, .lst acc) :: M) ∧ IsA J' acc ds ∧ acc.length = i ∧ ds.length = i ∧ ∀ j d, ds[j]? = some d → P j d) ⟨[], I, o, [], Same.refl _, hb, w1, .nil, rfl, rfl, fun j d h => by simp at h⟩ (fun i H' _ ⟨acc, J', o', ds, s, _, w', _⟩ => hG H' (s.trans w'.imm)) ?_ ?_
  · rintro i v H0 H' hi ⟨acc, J', o', ds, s, hb', w', a, hl, hl2, hp⟩ hy
    refine ⟨hw v, ?_⟩
    refine s_yes (iteT (step i v D acc o' J' H0 H' _ hi s hb' w' hy fun y d o'' J'' H4 s2 hb2 w2 h2 hd => ?_))
    refine ⟨acc, w2.at1, by rw [hl]; exact Nat.lt_of_lt_of_le hi (Nat.le_trans hn (by decide)), acc ++ [y], J'', o'', ds ++ [d], s.trans s2, hb2, w2.put1, (a.mono s2).app (.one h2), by rw [List.length_append, hl]; rfl, by rw [List.length_append, hl2]; rfl, fun j e h => ?_⟩
    by_cases hj : j < ds.length
    · rw [List.getElem?_append_left hj] at h
      exact hp j e h
    · rw [List.getElem?_append_right (by omega)] at h
      have h3 : j - ds.length = 0 := by
        cases hz : j - ds.length with
        | zero => rfl
        | succ m => rw [hz] at h; simp at h
      rw [h3] at h
      simp at h
      subst h
      have : j = i := by omega
      rw [this]
      exact hd
  · rintro H' ⟨acc, J', o', ds, s, hb', w', a, hl, hl2, hp⟩
    obtain ⟨J2, s2, w2, h2⟩ := w'.done1 a
    exact q D ds o' J2 H' (s.trans s2) (w.fresh nD) (hb'.mono s2) w2 h2 hl2 hp
theorem s_iLc {J : Addr → Prop} (w : W I H M) (h : Is I v (.lst ds)) (q : ∀ a vs, v = .ref a → I a = some (.lst vs) → IsA I vs ds → J a) : ∃ a, v = .ref a ∧ (∃ xs, SqL K H a xs) ∧ J a := s_iL' w h q
end

/-! ### sums of fractions -/
def rs (qs : List Rat) : Rat := qs.foldl (· + ·) 0
theorem rs_nil : rs [] = 0 := rfl
theorem rs_snoc (qs : List Rat) (q : Rat) : rs (qs ++ [q]) = rs qs + q := by simp [rs, List.foldl_append]
theorem rs_take {qs : List Rat} {i : Nat} {q : Rat} (h : qs[i]? = some q) : rs (qs.take (i + 1)) = rs (qs.take i) + q := by
  rw [List.take_add_one, h, ← rs_snoc]
  rfl
theorem rs_from (ys : List Rat) : ∀ a : Rat, ys.foldl (· + ·) a = a + rs ys := by
  induction ys with
  | nil => intro a; simp [rs, Rat.add_zero]
  | cons y ys ih =>
    intro a
    show ys.foldl (· + ·) (a + y) = a + (ys.foldl (· + ·) (0 + y))
    rw [ih, ih, Rat.zero_add, Rat.add_assoc]
theorem rs_cons (y : Rat) (ys : List Rat) : rs (y :: ys) = y + rs ys := by
  show ys.foldl (· + ·) (0 + y) = _
  rw [rs_from, Rat.zero_add]
theorem rs_app (xs ys : List Rat) : rs (xs ++ ys) = rs xs + rs ys := by
  unfold rs
  rw [List.foldl_append, rs_from]
  rfl
/-- top and bottom by themselves -/
structure Sz2 (j k : Nat) (q : Rat) : Prop where
  n : Bd j q.num
  d : Bd k (q.den : Int)
theorem Sz2.mono {i j k l : Nat} {q : Rat} (h : Sz2 i k q) (hj : i ≤ j) (hk : k ≤ l) : Sz2 j l q := ⟨h.n.mono hj, h.d.mono hk⟩
theorem Sz2.sz {j k m : Nat} {q : Rat} (h : Sz2 j k q) (hj : j ≤ m) (hk : k ≤ m) : Sz m q := ⟨h.n.mono hj, h.d.mono hk⟩
theorem Sz.sz2 {k : Nat} {q : Rat} (h : Sz k q) : Sz2 k k q := ⟨h.n, h.d⟩
theorem Sz2.add {j k l m : Nat} {p q : Rat} (hp : Sz2 j k p) (hq : Sz2 l m q) (n : Nat) (h1 : j + m + 1 ≤ n) (h2 : l + k + 1 ≤ n) : Sz2 n (k + m) (p + q) := by
  rw [← add_dv]
  have b1 : Bd (n - 1) (p.num * q.den) := (hp.n.mul hq.d).mono (by omega)
  have b2 : Bd (n - 1) (q.num * p.den) := (hq.n.mul hp.d).mono (by omega)
  have b3 := (Bd.add b1 b2).mono (show n - 1 + 1 ≤ n by omega)
  exact ⟨b3.le (num_le (den_mul_ne p q)), (hp.d.mul hq.d).le (den_le (den_mul_ne p q))⟩
theorem Sz2.rs {j k : Nat} {qs : List Rat} (h : ∀ q ∈ qs, Sz2 j k q) : ∀ i, i ≤ qs.length → Sz2 (j + (k + 1) * i + 1) (k * i + 1) (rs (qs.take i))
  | 0, _ => ⟨Bd.of 0 (by simp [rs_nil]) (Nat.pow_pos (by decide)), Bd.of 1 (by simp [rs_nil]) (by
      have : 2 ^ 1 ≤ 2 ^ (k * 0 + 1) := Nat.pow_le_pow_right (by decide) (by omega)
      omega)⟩
  | i + 1, hi => by
    have hi' : i < qs.length := hi
    have e : qs[i]? = some qs[i] := List.getElem?_eq_getElem hi'
    rw [rs_take e]
    have ih := Sz2.rs h i (by omega)
    have hq := h _ (List.getElem_mem hi')
    have e1 : (k + 1) * (i + 1) = (k + 1) * i + k + 1 := by rw [Nat.mul_add]; omega
    have e2 : k * (i + 1) = k * i + k := by rw [Nat.mul_add]; omega
    have e3 : k * i ≤ (k + 1) * i := Nat.mul_le_mul_right _ (by omega)
    exact (ih.add hq (j + (k + 1) * (i + 1) + 1) (by omega) (by omega)).mono (Nat.le_refl _) (by omega)
theorem frqs_of {S : Rat → Prop} : ∀ {ds : List D}, (∀ (i : Nat) d, ds[i]? = some d → ∃ q, d = frq q ∧ S q) → ∃ qs : List Rat, ds = qs.map frq ∧ ∀ q ∈ qs, S q
  | [], _ => ⟨[], rfl, fun _ h => nomatch h⟩
  | d :: ds, h => by
    obtain ⟨q, rfl, hq⟩ := h 0 _ rfl
    obtain ⟨qs, rfl, hs⟩ := frqs_of (S := S) (ds := ds) fun i e he => h (i + 1) e (by simpa using he)
    exact ⟨q :: qs, rfl, fun r hr => by
      rcases List.mem_cons.mp hr with rfl | hr
      · exact hq
      · exact hs r hr⟩
theorem atI0 {α : Type} {l : List α} {i : Nat} {x : α} (h : l[i]? = some x) : atI l (0 + (i : Int)) = some x := by
  rw [Int.zero_add]
  exact atI_nat h
theorem NB.list {α : Type} {f : α → D} {k : Nat} {l : List α} (h : ∀ x ∈ l, NB k (f x)) : NB (k + 1) (.lst (l.map f)) := .lst fun d hd => by
  obtain ⟨x, hx, rfl⟩ := List.mem_map.mp hd
  exact h x hx
theorem NB.frqs {qs : List Rat} {k : Nat} : NB (k + 2) (.lst (qs.map frq)) := NB.list fun _ _ => NB.fr
theorem NB.ints {ns : List Int} {k : Nat} : NB (k + 1) (.lst (ns.map D.int)) := NB.list fun n _ => .int n
theorem s_listC {K : PySem.W.Frag} {I H : Hp} {M : List (Addr × HO)} {Q : VK} {x : V} {ds : List D} (w : W I H M) (hx : Is I x (.lst ds)) (q : ∀ p vs J H', Same I J → I p = none → W J H' M → J p = some (.lst vs) → IsA I vs ds → Q (.ref p) H') : rListOf K [x] H Q := by
  obtain ⟨p1, vs, rfl, h1, a1⟩ := hx.lst_ex
  exact ⟨p1, vs, rfl, .inl (.inl (.inl (w.imm _ _ h1))), fun p hp => q p vs _ _ (w.same hp) (w.fresh hp) (w.newI hp) upd_same a1⟩
/-- for x, y in zip(xs, ys), two lists of one length that stay -/
def ZipQ (K : PySem.W.Frag) (x y : V) (H : Hp) (R : It → Hp → Prop) : Prop := ∃ a b xs ys, [x, y] = [.ref a, .ref b] ∧ SqL K H a xs ∧ SqL K H b ys ∧ R (Itz K a b) H
theorem s_zip {K : PySem.W.Frag} {σ : L2.St} {H : Hp} {ta : TA} {R : It → Hp → Prop} (h : ta σ H fun vs H1 => ∃ a b xs ys, vs = [.ref a, .ref b] ∧ SqL K H1 a xs ∧ SqL K H1 b ys ∧ R (Itz K a b) H1) : iZip K ta σ H R := h
theorem s_zipL {K : PySem.W.Frag} {σ : L2.St} {I H : Hp} {M : List (Addr × HO)} {x y : V} {ds es : List D} {g : TG} {tb : TS} {G : Ends} (w : W I H M) (hx : Is I x (.lst ds)) (hy : Is I y (.lst es)) (hl : ds.length = es.length) (Pv : Nat → L2.St → Hp → Prop) (h0 : Pv 0 σ H) (hI : ∀ i σ H, Pv i σ H → Same I H)
    (hs : ∀ i d e x y T σ H H', ds[i]? = some d → es[i]? = some e → Is I x d → Is I y e → Pv i σ H → H T = none → H' = upd H T (.tup [x, y]) → g (.ref T) σ H' fun σ2 H2 => tb { G with nx := Pv (i + 1), ct := Pv (i + 1), bk := G.nx } σ2 H2) (hd : ∀ σ H, Pv ds.length σ H → G.nx σ H) :
    ∃ a b xs ys, [x, y] = [V.ref a, .ref b] ∧ SqL K H a xs ∧ SqL K H b ys ∧ ∃ W : Nat → Nat → L2.St → Hp → Prop, (∃ m, W 0 m σ H) ∧ ∀ i m σ H, W i m σ H →
      ((Itz K a b).stop i H ∧ G.nx σ H) ∨ ((Itz K a b).go i H ∧ ∃ N : L2.St → Hp → Prop, (∀ σ' H', N σ' H' → ∃ m', m' < m ∧ W (i + 1) m' σ' H') ∧ ∀ x H', (Itz K a b).yld i H x H' → g x σ H' fun σ2 H2 => tb { G with nx := N, ct := N, bk := G.nx } σ2 H2) := by
  obtain ⟨p1, vs, rfl, h1, a1⟩ := hx.lst_ex
  obtain ⟨p2, us, rfl, h2, a2⟩ := hy.lst_ex
  refine ⟨p1, p2, vs, us, rfl, .inl (.inl (w.imm _ _ h1)), .inl (.inl (w.imm _ _ h2)), ?_⟩
  refine RZ.for_zipL (K := K) (xs := vs) (ys := us) (by rw [a1.length, a2.length, hl]) Pv h0 (fun i σ H q => ⟨.inl (.inl (hI i σ H q _ _ h1)), .inl (.inl (hI i σ H q _ _ h2))⟩) (fun i x y T σ H e1 e2 q nT => ?_) (fun σ H q => hd σ H (by rw [← a1.length]; exact q))
  obtain ⟨d, f1, g1⟩ := a1.of e1
  obtain ⟨e, f2, g2⟩ := a2.of e2
  exact hs i d e x y T σ H _ f1 f2 g1 g2 q nT rfl
theorem s_aug {σ : L2.St} {H : Hp} {G : Ends} {i : Nat} {te : TE} {ti : TIp} {x : V} (h : σ[i]? = some (some x)) (q : te σ H fun y H1 => ti x y H1 fun z H2 => G.nx (σ.set i (some z)) H2) : tAug i te ti G σ H := ⟨x, h, q⟩
/-- a list is taken away: fractions stay -/
theorem Is.delF {I : Hp} {v : V} {a b : Int} {p : Addr} {vs : List V} (h : Is I v (fr a b)) (hp : I p = some (.lst vs)) : Is (del I p) v (fr a b) := by
  obtain ⟨t, us, rfl, ht, au⟩ := h.tup_ex
  have ne : t ≠ p := fun e => by rw [e, hp] at ht; cases ht
  refine .tup (by rw [del_ne ne]; exact ht) ?_
  cases au with | cons h1 au =>
  cases au with | cons h2 au =>
  cases au
  cases h1
  cases h2
  exact .cons (.int _) (.cons (.int _) .nil)
theorem IsA.delF {I : Hp} {p : Addr} {us : List V} (hp : I p = some (.lst us)) : ∀ {qs : List Rat} {vs : List V}, IsA I vs (qs.map frq) → IsA (del I p) vs (qs.map frq)
  | [], _, h => by cases h; exact .nil
  | q :: qs, _, h => by
    cases h with
    | cons h a => exact .cons (h.delF hp) (IsA.delF hp a)
theorem Is.delL {I : Hp} {p l : Addr} {us : List V} {qs : List Rat} (h : Is I (.ref l) (.lst (qs.map frq))) (hp : I p = some (.lst us)) (ne : l ≠ p) : Is (del I p) (.ref l) (.lst (qs.map frq)) := by
  cases h with
  | lst h a => exact .lst (by rw [del_ne ne]; exact h) (a.delF hp)
def rIns : V → List V → Hp → VK → Prop := fun x vs H Q => ∃ (l : Addr) (xs : List V) (i : Int) (y : V), x = .ref l ∧ vs = [.int i, y] ∧ H l = some (.lst xs) ∧ xs.length < sizeLine ∧ 0 ≤ i ∧ i < 2 ^ 63 ∧ Q .non (upd H l (.lst (xs.take i.toNat ++ [y] ++ xs.drop i.toNat)))
theorem mt_ins {X : Cx} : MtR X "list.insert" rIns := mt_insert
theorem s_insW1 {I H : Hp} {M : List (Addr × HO)} {m0 : Addr × HO} {p : Addr} {xs : List V} {i : Int} {y : V} {Q : VK} (w : W I H (m0 :: (p, .lst xs) :: M)) (hz : xs.length ≤ 100000) (h0 : 0 ≤ i) (h1 : i < 1000000) (q : ∀ H', W I H' (m0 :: (p, .lst (xs.take i.toNat ++ [y] ++ xs.drop i.toNat)) :: M) → Q .non H') : rIns (.ref p) [.int i, y] H Q :=
  ⟨p, xs, i, y, rfl, rfl, w.at1, Nat.lt_of_le_of_lt hz (by decide), h0, by omega, q _ w.put1⟩
theorem s_popW1 {I H : Hp} {M : List (Addr × HO)} {m0 : Addr × HO} {p : Addr} {xs : List V} {y : V} {Q : VK} (w : W I H (m0 :: (p, .lst xs) :: M)) (hy : xs[xs.length - 1]? = some y) (q : ∀ H', W I H' (m0 :: (p, .lst xs.dropLast) :: M) → Q y H') : rPop (.ref p) [] H Q :=
  ⟨p, xs, y, rfl, rfl, w.at1, hy, q _ w.put1⟩
/-! ### a displayed dict of one pair -/
def DispQ (Q : VK) (p : Addr) (x y : V) (H2 : Hp) : Prop := H2 p = some (.dK []) ∧ ∃ kvs : List (Key × V), [(x, y)] = kvs.map (fun kv => (kV kv.1, kv.2)) ∧ kvs.length ≤ 15 ∧ Q (.ref p) (upd H2 p (.dK (mergeK [] kvs)))
section
variable {σ : L2.St} {I H : Hp} {M : List (Addr × HO)} {Q : VK} {tk tv : TE} {p : Addr} {y : V}
theorem s_disp1 (w : W I H M) (q : ∀ p H', I p = none → W I H' ((p, .dK []) :: M) → tk σ H' fun x H1 => tv σ H1 fun y H2 => DispQ Q p x y H2) : tDisp [(tk, tv)] σ H Q := fun p hp => q p _ (w.fresh hp) (w.newM hp)
theorem s_dispI {n : Int} (w : W I H ((p, .dK []) :: M)) (q : ∀ J H', Same I J → W J H' M → Is J (.ref p) .dict → Q (.ref p) H') : DispQ Q p (.int n) y H :=
  have w2 := w.put0 (o' := .dK (mergeK [] [(Sum.inl n, y)]))
  ⟨w.at0, [(Sum.inl n, y)], rfl, by simp, q _ _ w2.frzS0 w2.frz0 (.dct upd_same)⟩
theorem s_dispS {n : Str} (w : W I H ((p, .dK []) :: M)) (q : ∀ J H', Same I J → W J H' M → Is J (.ref p) .dict → Q (.ref p) H') : DispQ Q p (.str n) y H :=
  have w2 := w.put0 (o' := .dK (mergeK [] [(Sum.inr n, y)]))
  ⟨w.at0, [(Sum.inr n, y)], rfl, by simp, q _ _ w2.frzS0 w2.frz0 (.dct upd_same)⟩
end
def D.whole : D → Bool
  | .int _ => true
  | _ => false
/-- its kind is known to isinstance -/
def Ty (d : D) : Prop := ∃ a, d.tn = some a
end Fs

namespace Fs
open PySem PySem.Spec PyProof.Rows L2
/-! ### own classes -/
/-- what is asked of a class of the text -/
structure OwnC (K : PySem.W.Frag) (C : Addr) : Prop where
  cl : Cls K C
  ha : PySem.W.findIn K (.ref C) "__class__" = some (some (.builtin "object.__class__"))
  hn : PySem.W.specialIn K (.builtin "object.__class__") "__get__" = some (some (.builtin "getset_descriptor.__get__"))
  htk : PySem.W.takesIn K (.builtin "object.__class__") = some true
  hm : PySem.W.mroIn K C (.type "object") = some true
/-- a class that may be made, by its __init__ -/
structure Mak (P : Program) (w : World) (K : PySem.W.Frag) (mg : Str → Option Value) (base : Heap) (x : Str) (C : Addr) (k : Nat) (ps : List Str) (dvs : List V) (sp : Sp) : Prop where
  ex : ∃ (f : Addr) (fd : FuncData) (ds : List Value), Mk K C f ∧ FnOk P w K mg base CX0 k f fd ps sp ∧ mg x = some (.ref C) ∧ Binds K fd ps ds ∧ Vals dvs ds
/-- a method -/
structure Met (P : Program) (w : World) (K : PySem.W.Frag) (mg : Str → Option Value) (base : Heap) (m : Str) (C : Addr) (k : Nat) (ps : List Str) (dvs : List V) (sp : Sp) : Prop where
  ex : ∃ (f : Addr) (fd : FuncData) (ds : List Value), Cls K C ∧ Meth K C m f ∧ FnOk P w K mg base CX0 k f fd ps sp ∧ Binds K fd ps ds ∧ Vals dvs ds
section
variable {X : Cx} {x m : Str} {C : Addr} {p pos apos : Pos} {e o : Expr} {es : List Expr} {ta : TE} {t : TA} {k : Nat} {ps : List Str} {dvs : List V} {sp : Sp}
theorem pe_mk (c : Mak X.prog X.w X.K X.mg X.base x C k ps dvs sp) (hr : Room (k + 1) X.A) (hg : Gl X x) (ha : PA X (e :: es) t) (hdb : (x == ("__debug__" : Str)) = false := by decide)
    (he : starEach (e :: es) X.env = (false, eval e X.env) :: starEach es X.env := by rfl) (hpl : (backTo pos (starEach es X.env)).any (·.1) = false := by rfl) : PE X (.Call (.Name x p) (e :: es) [] pos) (tMake C sp dvs E0 t) := by
  obtain ⟨f, fd, ds, M, F, hm, hb, hd⟩ := c.ex
  exact pe_make M F hr hg hm hb hd pass0 ha hdb he hpl
theorem pe_mk0 (c : Mak X.prog X.w X.K X.mg X.base x C k ps dvs sp) (hr : Room (k + 1) X.A) (hg : Gl X x) (hdb : (x == ("__debug__" : Str)) = false := by decide) : PE X (.Call (.Name x p) [] [] pos) (tMake C sp dvs E0 tNil) := by
  obtain ⟨f, fd, ds, M, F, hm, hb, hd⟩ := c.ex
  exact pe_make0 M F hr hg hm hb hd pass0 hdb
theorem pe_met {pl : Sem Bool} (he : PE X o ta) (c : Met X.prog X.w X.K X.mg X.base m C k ps dvs sp) (hr : Room k X.A) (ha : PA X (e :: es) t)
    (hst : starEach (e :: es) X.env = (false, eval e X.env) :: starEach es X.env := by rfl) (hpl : (backTo pos (starEach es X.env)).any (·.1) = false := by rfl)
    (ht : eval (.Call (.Attribute o m apos) (e :: es) [] pos) X.env = (do
      let ov ← eval o X.env
      standAt apos.atName
      let (f, first) ← holding [ov] (getMethod ov m pl)
      callWith pos f first (backTo pos (starEach (e :: es) X.env)) (backToKw pos (keywordEach [] X.env))) := by rfl) :
    PE X (.Call (.Attribute o m apos) (e :: es) [] pos) (tMeth C m sp dvs E0 ta t) := by
  obtain ⟨f, fd, ds, c, hm, F, hb, hd⟩ := c.ex
  exact pe_meth he c hm F hr hb hd pass0 ha hst hpl ht
theorem pe_met0 {pl : Sem Bool} (he : PE X o ta) (c : Met X.prog X.w X.K X.mg X.base m C k ps dvs sp) (hr : Room k X.A)
    (ht : eval (.Call (.Attribute o m apos) [] [] pos) X.env = (do
      let ov ← eval o X.env
      standAt apos.atName
      let (f, first) ← holding [ov] (getMethod ov m pl)
      callWith pos f first (backTo pos (starEach [] X.env)) (backToKw pos (keywordEach [] X.env))) := by rfl) :
    PE X (.Call (.Attribute o m apos) [] [] pos) (tMeth C m sp dvs E0 ta tNil) := by
  obtain ⟨f, fd, ds, c, hm, F, hb, hd⟩ := c.ex
  exact pe_meth0 he c hm F hr hb hd pass0 ht
end
/-- a class made with keywords -/
structure MakK (P : Program) (w : World) (K : PySem.W.Frag) (mg : Str → Option Value) (base : Heap) (x : Str) (C : Addr) (k : Nat) (ps : List Str) (n : Nat) (ks : List Str) (gV : List V → List V → List V) (sp : Sp) : Prop where
  ex : ∃ (f : Addr) (fd : FuncData) (g : List Value → List Value → List Value), Mk K C f ∧ FnOk P w K mg base CX0 k f fd ps sp ∧ mg x = some (.ref C) ∧ KBn K fd ps (n + 1) ks g gV
section
variable {X : Cx} {x : Str} {C : Addr} {p pos : Pos} {e : Expr} {es : List Expr} {kws : List Keyword} {t tk : TA} {k n : Nat} {ps ks : List Str} {gV : List V → List V → List V} {sp : Sp}
theorem pe_mkK (c : MakK X.prog X.w X.K X.mg X.base x C k ps n ks gV sp) (hr : Room (k + 1) X.A) (hg : Gl X x) (ha : PA X (e :: es) t) (hkw : PK X kws tk)
    (hall : (backToKw pos (keywordEach kws X.env)).all (·.1.isSome) = true := by rfl) (hks : (backToKw pos (keywordEach kws X.env)).filterMap (·.1) = ks := by rfl) (hdb : (x == ("__debug__" : Str)) = false := by decide)
    (he : starEach (e :: es) X.env = (false, eval e X.env) :: starEach es X.env := by rfl) (hpl : ((backTo pos (starEach (e :: es) X.env)).any (·.1) || (backToKw pos (keywordEach kws X.env)).any (·.1.isNone)) = false := by rfl) :
    PE X (.Call (.Name x p) (e :: es) kws pos) (tMakeK C n ks.length sp gV E0 t tk) := by
  obtain ⟨f, fd, g, M, F, hm, hb⟩ := c.ex
  exact pe_makeK M F hr hg hm hb pass0 ha hkw hall hks hdb he hpl
theorem pe_mkK0 (c : MakK X.prog X.w X.K X.mg X.base x C k ps 0 ks gV sp) (hr : Room (k + 1) X.A) (hg : Gl X x) (hkw : PK X kws tk)
    (hall : (backToKw pos (keywordEach kws X.env)).all (·.1.isSome) = true := by rfl) (hks : (backToKw pos (keywordEach kws X.env)).filterMap (·.1) = ks := by rfl) (hdb : (x == ("__debug__" : Str)) = false := by decide)
    (hpl : ((backTo pos (starEach [] X.env)).any (·.1) || (backToKw pos (keywordEach kws X.env)).any (·.1.isNone)) = false := by rfl) :
    PE X (.Call (.Name x p) [] kws pos) (tMakeK C 0 ks.length sp gV E0 tNil tk) := by
  obtain ⟨f, fd, g, M, F, hm, hb⟩ := c.ex
  exact pe_makeK0 M F hr hg hm hb pass0 hkw hall hks hdb hpl
end
theorem Vals.dt {vs : List V} {us : List Value} (r : Vals vs us) (j : Nat) : Vals ((vs.drop j).take 1) ((us.drop j).take 1) := by
  induction r generalizing j with
  | nil => simp; exact .nil
  | cons h r ih =>
    cases j with
    | zero => exact .cons h .nil
    | succ j => exact ih j
theorem kps_fld {X : Cx} {K : PySem.W.Frag} {o value : Expr} {f : Str} {pos pos' : Pos} {ta tv : TE} (h : X.K = K) (ha : PE X o ta) (hv : PE X value tv) (hs : swapsWith value (some (.Attribute o f pos')) pos.line X.env = pure false) : PS X (.Assign [.Attribute o f pos'] value pos) (sFld K ta tv f) := h ▸ ps_fld ha hv hs
/-! steps -/
def MakeQ (C : Addr) (sp : Sp) (E : XK) (Q : VK) (vs : List V) (H1 : Hp) : Prop := ∀ x dx, H1 x = none → H1 dx = none → dx ≠ x → sp (.ref x :: vs) (upd (upd H1 dx (.own x)) x (.ins C dx [])) (fun v H2 => v = .non ∧ Q (.ref x) H2) E
def SfQ (K : PySem.W.Frag) (f : Str) (G : Ends) (σ : L2.St) (x y : V) (H2 : Hp) : Prop := ∃ a C dx fs, x = .ref a ∧ H2 a = some (.ins C dx fs) ∧ Cls K C ∧ NoAttr K C f ∧ fs.length < 1000 ∧ G.nx σ (upd H2 a (.ins C dx (putF f y fs)))
def MethQ (C : Addr) (m : Str) (x : V) (H : Hp) (A : Prop) : Prop := ∃ a dx fs, x = .ref a ∧ H a = some (.ins C dx fs) ∧ fs.lookup m = none ∧ A
theorem putF_new {f : Str} {v : V} : ∀ {fs : List (Str × V)}, f ∉ fs.map (·.1) → putF f v fs = fs ++ [(f, v)]
  | [], _ => rfl
  | (g, x) :: r, h => by
    have h1 : ¬ g = f := fun e => h (by rw [e]; exact List.mem_cons_self)
    have h2 : f ∉ r.map (·.1) := fun e => h (List.mem_cons_of_mem _ e)
    show (if g = f then _ else (g, x) :: putF f v r) = _
    rw [if_neg h1, putF_new h2]
    rfl
section
variable {K : PySem.W.Frag} {σ : L2.St} {I H : Hp} {M : List (Addr × HO)} {Q : VK} {G : Ends} {ta tv : TE} {tA : TA} {C : Addr} {sp : Sp} {dvs vs : List V} {E : XK} {m f : Str} {v x y : V} {fs : List (Str × D)} {L : List Str}
theorem s_make (h : tA σ H fun vs H1 => MakeQ C sp E Q (vs ++ dvs) H1) : tMake C sp dvs E tA σ H Q := h
theorem s_makeW (w : W I H M) (q : ∀ x dx H', I x = none → W I H' ((x, .ins C dx []) :: M) → sp (.ref x :: vs) H' (fun v H2 => v = .non ∧ Q (.ref x) H2) E) : MakeQ C sp E Q vs H := fun x dx hx hd ne => by
  have w1 : W I (upd H dx (.own x)) M := w.more (same_new hd)
  have hx1 : upd H dx (.own x) x = none := by rw [upd_ne ne.symm]; exact hx
  exact q x dx _ (w.fresh hx) (w1.newM hx1)
def MakeKQ (C : Addr) (sp : Sp) (gV : List V → List V → List V) (E : XK) (Q : VK) (vs zs : List V) (H2 : Hp) : Prop := ∀ x dx, H2 x = none → H2 dx = none → dx ≠ x → sp (gV (.ref x :: vs) zs) (upd (upd H2 dx (.own x)) x (.ins C dx [])) (fun v H3 => v = .non ∧ Q (.ref x) H3) E
theorem s_makeK {gV : List V → List V → List V} {n m : Nat} {tK : TA} (h : tA σ H fun vs H1 => tK σ H1 fun zs H2 => vs.length = n ∧ zs.length = m ∧ MakeKQ C sp gV E Q vs zs H2) : tMakeK C n m sp gV E tA tK σ H Q := h
theorem s_mkKQ {gV : List V → List V → List V} {zs us : List V} (hg : ∀ x, gV (x :: vs) zs = x :: us) (h : MakeQ C sp E Q us H) : MakeKQ C sp gV E Q vs zs H := fun x dx a b c => by rw [hg]; exact h x dx a b c
theorem s_makeW2 {m0 : Addr × HO} (w : W I H (m0 :: M)) (q : ∀ x dx H', I x = none → W I H' ((x, .ins C dx []) :: m0 :: M) → sp (.ref x :: vs) H' (fun v H2 => v = .non ∧ Q (.ref x) H2) E) : MakeQ C sp E Q vs H := s_makeW w q
theorem s_sfld (h : tv σ H fun y H1 => ta σ H1 fun x H2 => SfQ K f G σ x y H2) : sFld K ta tv f G σ H := h
theorem s_sfW {a dx : Addr} {gs : List (Str × V)} (w : W I H ((a, .ins C dx gs) :: M)) (hc : Cls K C) (hn : ∀ f ∈ L, NoAttr K C f) (hf : f ∈ L) (hg : gs.length < 1000) (q : ∀ H', W I H' ((a, .ins C dx (putF f y gs)) :: M) → G.nx σ H') : SfQ K f G σ (.ref a) y H :=
  ⟨a, C, dx, gs, rfl, w.at0, hc, hn f hf, hg, q _ w.put0⟩
theorem s_meth (h : ta σ H fun x H1 => MethQ C m x H1 (tA σ H1 fun vs H2 => sp (x :: (vs ++ dvs)) H2 Q E)) : tMeth C m sp dvs E ta tA σ H Q := h
theorem s_methAt {A : Prop} (w : W I H M) (h : Is I v (.obj C fs)) (hm : m ∉ fs.map (·.1)) (q : A) : MethQ C m v H A := by
  obtain ⟨p, dx, vs, rfl, hp, a⟩ := h.obj_ex
  refine ⟨p, dx, vs, rfl, w.imm _ _ hp, a.no ?_, q⟩
  cases e : fs.lookup m with
  | none => rfl
  | some d =>
    exfalso
    apply hm
    clear a hp h
    induction fs with
    | nil => cases e
    | cons g r ih =>
      rw [List.lookup_cons] at e
      cases hc : m == g.1 with
      | true => rw [beq_iff_eq.mp hc]; exact List.mem_cons_self
      | false => rw [hc] at e; exact List.mem_cons_of_mem _ (ih (fun q => hm (List.mem_cons_of_mem _ q)) e)
theorem s_fldA {d : D} (w : W I H M) (h : Is I v (.obj C fs)) (hc : Cls K C) (hn : ∀ f ∈ L, NoAttr K C f) (hf : f ∈ L) (hd : fs.lookup f = some d) (q : ∀ u, Is I u d → Q u H) :
    ∃ a C dx fs u, v = .ref a ∧ H a = some (.ins C dx fs) ∧ Cls K C ∧ NoAttr K C f ∧ fs.lookup f = some u ∧ Q u H := s_fldAt w h hc (hn f hf) hd q
def FldQ (K : PySem.W.Frag) (f : Str) (Q : VK) (x : V) (H1 : Hp) : Prop := tFld K (fun _ H Q => Q x H) f [] H1 Q
theorem s_fldQ (h : ta σ H fun x H1 => FldQ K f Q x H1) : tFld K ta f σ H Q := h
theorem s_fldI {d : D} (w : W I H M) (h : Is I v (.obj C fs)) (hc : Cls K C) (hn : ∀ f ∈ L, NoAttr K C f) (hf : f ∈ L) (hd : fs.lookup f = some d) (q : ∀ u, Is I u d → Q u H) : FldQ K f Q v H := s_fldA w h hc hn hf hd q
theorem Is.tyo (o : OwnC K C) (w : W I H M) (h : Is I v (.obj C fs)) : TyX K H v (.ref C) := by
  obtain ⟨p, dx, vs, rfl, hp, a⟩ := h.obj_ex
  exact .base (.ins (w.imm _ _ hp) o.cl o.ha o.hn o.htk o.hm)
theorem s_isiO {b : String} {k : Bool} (o : OwnC K C) (w : W I H M) (h : Is I v (.obj C fs)) (hb : PySem.W.kitOne K (.ref C) (.type b) = some k) (q : Q (.bl k) H) : rIsiU K [v, .ty b] H Q :=
  .inl ⟨v, .ty b, .ref C, .type b, k, rfl, .ty b, h.tyo o w, hb, q⟩
theorem s_isiC {a : String} {d : D} {k : Bool} (w : W I H M) (h : Is I v d) (e : d.tn = some a) (hb : PySem.W.kitOne K (.type a) (.ref C) = some k) (q : Q (.bl k) H) : rIsiU K [v, .ref C] H Q :=
  .inl ⟨v, .ref C, .type a, .ref C, k, rfl, .own C, h.tyx w e, hb, q⟩
theorem s_isiOC {C' : Addr} {k : Bool} (o : OwnC K C) (w : W I H M) (h : Is I v (.obj C fs)) (hb : PySem.W.kitOne K (.ref C) (.ref C') = some k) (q : Q (.bl k) H) : rIsiU K [v, .ref C'] H Q :=
  .inl ⟨v, .ref C', .ref C, .ref C', k, rfl, .own C', h.tyo o w, hb, q⟩
end
theorem s_intN {n : Int} {A B : Prop} (h : B) : if decide (V.int n = V.non) = true then A else B := s_iteDn (fun q => nomatch q) h
theorem s_refN {n : Addr} {A B : Prop} (h : B) : if decide (V.ref n = V.non) = true then A else B := s_iteDn (fun q => nomatch q) h
theorem s_nonN {A B : Prop} (h : A) : if decide (V.non = V.non) = true then A else B := s_iteDp rfl h
/-- an own class is no built-in one -/
structure KitC (K : PySem.W.Frag) (C : Addr) : Prop where
  i : PySem.W.kitOne K (.ref C) (.type "int") = some false
  b : PySem.W.kitOne K (.ref C) (.type "bool") = some false
  t : PySem.W.kitOne K (.ref C) (.type "tuple") = some false
  l : PySem.W.kitOne K (.ref C) (.type "list") = some false
  s : PySem.W.kitOne K (.ref C) (.type "str") = some false
  d : PySem.W.kitOne K (.ref C) (.type "dict") = some false
theorem kit_mro {K : PySem.W.Frag} {C : Addr} {b : String} {r : Bool} (hk : PySem.W.kitMeta b = true) (hm : PySem.W.mroIn K C (.type b) = some r) : PySem.W.kitOne K (.ref C) (.type b) = some r := by
  have e : ¬ (Value.ref C == Value.type b) = true := fun h => by cases (beq_iff_eq.mp h)
  show (if (Value.ref C == Value.type b) = true then some true else PySem.W.kitCls K (.ref C) (.type b)) = some r
  rw [if_neg e]
  show (if PySem.W.kitMeta b = true then PySem.W.subIn K (.ref C) (.type b) else none) = some r
  rw [if_pos hk]
  exact hm
/-- of a known kind, or an instance that is no int -/
def TyK (K : PySem.W.Frag) (d : D) : Prop := Ty d ∨ ∃ C fs, d = .obj C fs ∧ OwnC K C ∧ PySem.W.kitOne K (.ref C) (.type "int") = some false
theorem TyK.of {K : PySem.W.Frag} {d : D} (h : Ty d) : TyK K d := .inl h
/-- a part -/
abbrev prt (C : Addr) (b l : Int) (g : D) (w s : Int) : D := .obj C [("base", .int b), ("least", .int l), ("greatest", g), ("grow", .int w), ("shrink", .int s)]
end Fs

namespace Fs
open PySem PySem.Spec PyProof.Rows L2
/-! ### texts -/
/-- a text times a number: here only its length is told -/
def rMulS : R2 := fun x y H Q => ∃ (z : Str) (n : Int), x = .str z ∧ y = .int n ∧ 0 ≤ n ∧ n ≤ 1000 ∧ z.length ≤ 1000 ∧ ∀ z' : Str, z'.length ≤ z.length * n.toNat → Q (.str z') H
theorem rep_len (x : Array Nat) : ∀ (n : Nat) (acc : Array Nat), ((List.replicate n x).foldl (· ++ ·) acc).size = acc.size + n * x.size
  | 0, acc => by simp
  | n + 1, acc => by
    rw [List.replicate_succ, List.foldl_cons, rep_len x n, Array.size_append, Nat.add_mul]
    omega
theorem op_mulS {X : Cx} : OpR X (binaryOp .Mult) rMulS := by
  intro pins s σ H x y v u Q I rx ry h
  obtain ⟨z, n, rfl, rfl, h0, h1, h2, q⟩ := h
  obtain ⟨t, rfl⟩ := rx
  obtain ⟨t', rfl⟩ := ry
  have hz : z.length * n.toNat ≤ 1000 * 1000 := Nat.mul_le_mul h2 (by omega)
  refine PySem.P.mul_str (by simp; omega) (fun hn _ => ?_) (fun hn _ => ?_) ?_
  · have : (1000 : Int) ≤ (2 ^ 63 - 1) / n := by
      refine Int.le_ediv_of_mul_le (by omega) ?_
      have : 1000 * n ≤ 1000 * 1000 := Int.mul_le_mul_of_nonneg_left h1 (by decide)
      omega
    have h3 : (z.length : Int) ≤ 1000 := by omega
    omega
  · exact decide_eq_false (by
      have : (1000 * 1000 : Nat) ≤ sizeLine := by decide
      omega)
  · by_cases hn : n < 1
    · rw [if_pos hn]
      exact ⟨by decide, .str Str.empty, H, I.tok _, ⟨_, rfl⟩, q _ (Nat.zero_le _)⟩
    · rw [if_neg hn]
      by_cases hc : (n == 1 || z.length == 0) = true
      · rw [if_pos hc]
        refine ⟨.str z, H, I, ⟨_, rfl⟩, q _ ?_⟩
        have : 1 ≤ n.toNat := by omega
        exact Nat.le_mul_of_pos_right _ this
      · rw [if_neg hc]
        have e : Str.length ⟨(List.replicate n.toNat z.cps).foldl (· ++ ·) #[]⟩ = n.toNat * z.length := by
          have := rep_len z.cps n.toNat #[]
          show Array.size _ = _
          rw [this]
          simp [Str.length]
        have : (1000 * 1000 : Nat) ≤ sizeLine := by decide
        rw [Nat.mul_comm] at hz
        exact ⟨by rw [e]; omega, .str _, H, I.tok _, ⟨_, rfl⟩, q _ (by rw [e, Nat.mul_comm]; exact Nat.le_refl _)⟩
section
variable {K : PySem.W.Frag} {X : Cx} {σ : L2.St} {I H : Hp} {M : List (Addr × HO)} {Q : VK} {G : Ends} {z y : Str} {n : Int} {te : TE} {g : TG} {tb : TS}
theorem small_line {n : Nat} (h : n ≤ 100000) : n ≤ sizeLine := Nat.le_trans h (by decide)
theorem s_mulS (h0 : 0 ≤ n) (h1 : n ≤ 1000) (h2 : z.length ≤ 1000) (q : ∀ z' : Str, z'.length ≤ z.length * n.toNat → Q (.str z') H) : rMulS (.str z) (.int n) H Q := ⟨z, n, rfl, rfl, h0, h1, h2, q⟩
theorem s_lenS (hz : z.length ≤ 100000) (q : Q (.int z.length) H) : rLenU K [.str z] H Q := .inr ⟨z, rfl, small_line hz, q⟩
theorem s_addT (hz : z.length + y.length ≤ 100000) (q : Q (.str (z ++ y)) H) : rAddU K (.str z) (.str y) H Q := .inr (.inl ⟨z, y, rfl, rfl, small_line hz, q⟩)
theorem s_ixS (h0 : 0 ≤ n) (h1 : n < z.length) (hz : z.length ≤ 100000) (q : ∀ c, Q (.str ⟨#[c]⟩) H) : rIx K (.str z) (.int n) H Q := by
  obtain ⟨c, _, e⟩ := at_nat (l := z.cps.toList) h0 (by rw [Array.length_toList]; exact h1)
  exact .inr (.inr ⟨z, n, c, rfl, rfl, small_line hz, e, q c⟩)
theorem cut_len {lo hi : Option Int} : (cutS z lo hi).length ≤ z.length := by
  show Array.size _ ≤ Array.size _
  simp only [cutS, List.size_toArray, List.length_take, List.length_drop, Array.length_toList]
  omega
theorem s_cutS {lo hi : Option Int} (hz : z.length ≤ 100000) (q : ∀ z' : Str, z'.length ≤ z.length → Q (.str z') H) : rSlS (.str z) lo hi H Q := ⟨z, rfl, small_line hz, q _ cut_len⟩
theorem s_ltS (q : Q (.bl (decide (z.cps.toList < y.cps.toList))) H) : (fun x y H Q => ∃ i j, x = V.str i ∧ y = V.str j ∧ Q (V.bl (decide (i.cps.toList < j.cps.toList))) H : R2) (.str z) (.str y) H Q := ⟨z, y, rfl, rfl, q⟩
def rLtS : R2 := fun x y H Q => ∃ i j, x = V.str i ∧ y = V.str j ∧ Q (.bl (decide (i.cps.toList < j.cps.toList))) H
def rGtS : R2 := fun x y H Q => ∃ i j, x = V.str i ∧ y = V.str j ∧ Q (.bl (decide (j.cps.toList < i.cps.toList))) H
def rNiS : R2 := fun x y H Q => ∃ (c : Nat) (z : Str), x = .str ⟨#[c]⟩ ∧ y = .str z ∧ Q (.bl (!decide (c ∈ z.cps.toList))) H
theorem u_ltS : OpR X (compareOp .Lt) rLtS := op_lt_str
theorem u_gtS : OpR X (compareOp .Gt) rGtS := op_gt_str
theorem u_niS : OpR X (compareOp .NotIn) rNiS := op_notIn_sign
theorem s_lts (q : Q (.bl (decide (z.cps.toList < y.cps.toList))) H) : rLtS (.str z) (.str y) H Q := ⟨z, y, rfl, rfl, q⟩
theorem s_gts (q : Q (.bl (decide (y.cps.toList < z.cps.toList))) H) : rGtS (.str z) (.str y) H Q := ⟨z, y, rfl, rfl, q⟩
theorem s_nis {c : Nat} (q : Q (.bl (!decide (c ∈ z.cps.toList))) H) : rNiS (.str ⟨#[c]⟩) (.str z) H Q := ⟨c, z, rfl, rfl, q⟩
/-- sep.join(list) : only the length is told -/
def rJoin (K : PySem.W.Frag) : V → List V → Hp → VK → Prop := fun x xs H Q => ∃ a p, ∃ ys : List Str, x = .str a ∧ xs = [.ref p] ∧ (SqL K H p (ys.map V.str) ∨ SqT K H p (ys.map V.str)) ∧
    (ys.map (·.length)).sum + ys.length * a.length ≤ 16777216 ∧ Q (.str (Txt.join a ys)) H
theorem k_join {o e : Expr} {to te : TE} {apos pos : Pos} (h : X.K = K) (ho : PE X o to) (he : PE X e te) (hs : starEach [e] X.env = [(false, eval e X.env)] := by rfl) (hbase : attributeBase o "join" X.env (eval o X.env) = eval o X.env := by rfl) (hline : (apos.endLine == pos.line) = true := by rfl) :
    PE X (.Call (.Attribute o "join" apos) [e] [] pos) (tM1 (rJoin K) to te) := h ▸ pe_join ho he hs hbase hline
theorem s_m1 {r : V → List V → Hp → VK → Prop} {to : TE} (h : to σ H fun x H1 => (∃ a, x = .str a) ∧ te σ H1 fun y H2 => r x [y] H2 Q) : tM1 r to te σ H Q := h
/-- for c in text -/
theorem s_iS {R : It → Hp → Prop} (h : te σ H fun v H1 => ∃ x, v = .str x ∧ R (Its x) H1) : iStr te σ H R := h
theorem s_forS (Pv : Nat → L2.St → Hp → Prop) (h0 : Pv 0 σ H)
    (hs : ∀ i c σ H, z.cps.toList[i]? = some c → Pv i σ H → g (.str ⟨#[c]⟩) σ H fun σ2 H2 => tb { G with nx := Pv (i + 1), ct := Pv (i + 1), bk := G.nx } σ2 H2) (hd : ∀ σ H, Pv z.length σ H → G.nx σ H) :
    ∃ x, V.str z = .str x ∧ ∃ W : Nat → Nat → L2.St → Hp → Prop, (∃ m, W 0 m σ H) ∧ ∀ i m σ H, W i m σ H →
      ((Its x).stop i H ∧ G.nx σ H) ∨ ((Its x).go i H ∧ ∃ N : L2.St → Hp → Prop, (∀ σ' H', N σ' H' → ∃ m', m' < m ∧ W (i + 1) m' σ' H') ∧ ∀ v H', (Its x).yld i H v H' → g v σ H' fun σ2 H2 => tb { G with nx := N, ct := N, bk := G.nx } σ2 H2) := by
  refine ⟨z, rfl, ?_⟩
  refine for_it walk_str Pv h0 (fun i σ H _ q => trivial) (fun i x σ H H' hi q y => ?_) (fun σ H q => hd σ H q)
  obtain ⟨rfl, c, e, rfl⟩ := y
  exact hs i c σ _ (by rw [Array.getElem?_toList]; exact e) q
end
end Fs

namespace Fs
open PySem PySem.Spec PyProof.Rows L2
/-! ### what is known, as a list of facts; what may be changed, by what it holds -/
inductive ME where
  | raw (p : Addr) (o : HO)
  | ml (p : Addr) (ds : List D)
  | mi (p C : Addr) (fs : List (Str × D))
  | bag (b : Addr)
  | dk (p : Addr) (kvs : List (Key × D))
  | dt (p : Addr) (kvs : List (List Key × D))
  /-- a cell that is shown; a table of code objects, all of one name -/
  | cel (c : Addr) (v : V)
  | tb (p : Addr) (q : Str)
/-- pairs with the same keys -/
inductive IsP (I : Hp) {κ : Type} : List (κ × V) → List (κ × D) → Prop
  | nil : IsP I [] []
  | cons {f : κ} {v : V} {d : D} {vs : List (κ × V)} {ds : List (κ × D)} : Is I v d → IsP I vs ds → IsP I ((f, v) :: vs) ((f, d) :: ds)
theorem IsP.mono {I J : Hp} {κ : Type} (s : Same I J) : ∀ {vs : List (κ × V)} {ds : List (κ × D)}, IsP I vs ds → IsP J vs ds
  | _, _, .nil => .nil
  | _, _, .cons h a => .cons (h.mono s) (IsP.mono s a)
def topO : HO := .ext fun _ => True
def CelO (o : Obj) (v : V) : Prop := ∃ u, o.data = .cell (some u) ∧ RelV v u
inductive Cn (I : Hp) : ME → Addr × HO → Prop
  | raw {p : Addr} {o : HO} (hn : ∀ vs, o ≠ .tup vs) : Cn I (.raw p o) (p, o)
  | ml {p : Addr} {vs : List V} {ds : List D} : IsA I vs ds → Cn I (.ml p ds) (p, .lst vs)
  | mi {p C dx : Addr} {vs : List (Str × V)} {fs : List (Str × D)} : IsF I vs fs → Cn I (.mi p C fs) (p, .ins C dx vs)
  | bag {b c : Addr} {o : HO} : Bag I c o → Cn I (.bag b) (b, o)
  | dk {p : Addr} {vs : List (Key × V)} {ds : List (Key × D)} : IsP I vs ds → Cn I (.dk p ds) (p, .dK vs)
  | dt {p : Addr} {vs : List (List Key × V)} {ds : List (List Key × D)} : IsP I vs ds → Cn I (.dt p ds) (p, .dT vs)
  | cel {c : Addr} {v : V} {o : Obj} : CelO o v → Cn I (.cel c v) (c, .frz o topO)
  | tb {p : Addr} {q : Str} {ps : Array Value} : TriplesOk ps.toList → (∀ (pos : Pos) (cv : Value), codeAmong pos ps.toList = some cv → ∃ c, cv = .ref c ∧ I c = some (LamX.CodeO c q)) → Cn I (.tb p q) (p, .tbl ps)
theorem Cn.mono {I J : Hp} {e : ME} {m : Addr × HO} (s : Same I J) (h : Cn I e m) : Cn J e m := by
  cases h with
  | raw hn => exact .raw hn
  | ml a => exact .ml (a.mono s)
  | mi a => exact .mi (a.mono s)
  | bag b => exact .bag (b.mono s)
  | dk b => exact .dk (b.mono s)
  | dt b => exact .dt (b.mono s)
  | cel b => exact .cel b
  | tb a b => exact .tb a fun pos cv e => let ⟨c, h1, h2⟩ := b pos cv e; ⟨c, h1, s _ _ h2⟩
inductive CnA (I : Hp) : List ME → List (Addr × HO) → Prop
  | nil : CnA I [] []
  | cons {e : ME} {m : Addr × HO} {M : List ME} {Mc : List (Addr × HO)} : Cn I e m → CnA I M Mc → CnA I (e :: M) (m :: Mc)
theorem CnA.mono {I J : Hp} (s : Same I J) : ∀ {M : List ME} {Mc : List (Addr × HO)}, CnA I M Mc → CnA J M Mc
  | _, _, .nil => .nil
  | _, _, .cons h a => .cons (h.mono s) (CnA.mono s a)
structure Wf (F : List (V × D)) (H : Hp) (M : List ME) : Prop where
  ex : ∃ I Mc, W I H Mc ∧ CnA I M Mc ∧ ∀ f ∈ F, Is I f.1 f.2
/-- one is changed -/
inductive Foc : List ME → ME → List ME → ME → Prop
  | here {e e' : ME} {M : List ME} : Foc (e :: M) e (e' :: M) e'
  | there {e e' m : ME} {M M' : List ME} : Foc M e M' e' → Foc (m :: M) e (m :: M') e'
/-- one is taken out -/
inductive Rem : List ME → ME → List ME → Prop
  | here {e : ME} {M : List ME} : Rem (e :: M) e M
  | there {e m : ME} {M M' : List ME} : Rem M e M' → Rem (m :: M) e (m :: M')
section
variable {I H : Hp} {M M' : List ME} {Mc : List (Addr × HO)} {e e' : ME}
theorem CnA.foc (a : CnA I M Mc) (f : Foc M e M' e') : ∃ M1 m M2, Mc = M1 ++ m :: M2 ∧ Cn I e m ∧ ∀ J m', Same I J → Cn J e' m' → CnA J M' (M1 ++ m' :: M2) := by
  induction f generalizing Mc with
  | here =>
    cases a with
    | cons h a => exact ⟨[], _, _, rfl, h, fun J m' s h' => .cons h' (a.mono s)⟩
  | there f ih =>
    cases a with
    | cons h a =>
      obtain ⟨M1, m, M2, rfl, h1, h2⟩ := ih a
      exact ⟨_ :: M1, m, M2, rfl, h1, fun J m' s h' => .cons (h.mono s) (h2 J m' s h')⟩
theorem CnA.rem (a : CnA I M Mc) (f : Rem M e M') : ∃ M1 m M2, Mc = M1 ++ m :: M2 ∧ Cn I e m ∧ CnA I M' (M1 ++ M2) := by
  induction f generalizing Mc with
  | here =>
    cases a with
    | cons h a => exact ⟨[], _, _, rfl, h, a⟩
  | there f ih =>
    cases a with
    | cons h a =>
      obtain ⟨M1, m, M2, rfl, h1, h2⟩ := ih a
      exact ⟨_ :: M1, m, M2, rfl, h1, .cons h h2⟩
theorem CnA.mem (a : CnA I M Mc) (h : e ∈ M) : ∃ m, m ∈ Mc ∧ Cn I e m := by
  induction a with
  | nil => cases h
  | cons h1 a ih =>
    rcases List.mem_cons.mp h with rfl | h
    · exact ⟨_, List.mem_cons_self, h1⟩
    · obtain ⟨m, q1, q2⟩ := ih h
      exact ⟨m, List.mem_cons_of_mem _ q1, q2⟩
theorem CnA.sub (a : CnA I M Mc) (s : List.Sublist M' M) : ∃ Mc', List.Sublist Mc' Mc ∧ CnA I M' Mc' := by
  induction s generalizing Mc with
  | slnil => cases a; exact ⟨[], .slnil, .nil⟩
  | cons _ s ih =>
    cases a with
    | cons h a =>
      obtain ⟨Mc', h1, h2⟩ := ih a
      exact ⟨Mc', .cons _ h1, h2⟩
  | cons_cons _ s ih =>
    cases a with
    | cons h a =>
      obtain ⟨Mc', h1, h2⟩ := ih a
      exact ⟨_ :: Mc', .cons_cons _ h1, .cons h h2⟩
theorem CnA.perm {M' : List ME} (p : List.Perm M M') : ∀ {Mc : List (Addr × HO)}, CnA I M Mc → ∃ Mc', List.Perm Mc Mc' ∧ CnA I M' Mc' := by
  induction p with
  | nil => intro Mc a; exact ⟨Mc, .refl _, a⟩
  | cons x p ih =>
    intro Mc a
    cases a with
    | cons h a =>
      obtain ⟨Mc', h1, h2⟩ := ih a
      exact ⟨_ :: Mc', .cons _ h1, .cons h h2⟩
  | swap x y l =>
    intro Mc a
    cases a with
    | cons h a =>
      cases a with
      | cons h' a => exact ⟨_, .swap _ _ _, .cons h' (.cons h a)⟩
  | trans p q ih1 ih2 =>
    intro Mc a
    obtain ⟨M1, h1, a1⟩ := ih1 a
    obtain ⟨M2, h2, a2⟩ := ih2 a1
    exact ⟨M2, h1.trans h2, a2⟩
theorem W.subl {Mc' : List (Addr × HO)} (w : W I H Mc) (s : List.Sublist Mc' Mc) : W I H Mc' := ⟨w.imm, fun x hx => w.mu x (s.subset hx), w.nd.sublist (s.map _)⟩
theorem W.perm {Mc' : List (Addr × HO)} (w : W I H Mc) (s : List.Perm Mc Mc') : W I H Mc' := ⟨w.imm, fun x hx => w.mu x (s.mem_iff.mpr hx), (s.map _).nodup_iff.mp w.nd⟩
end
/-- known -/
inductive Rk (F : List (V × D)) (M : List ME) : V → D → Prop
  | mem {v : V} {d : D} : (v, d) ∈ F → Rk F M v d
  | int (n : Int) : Rk F M (.int n) (.int n)
  | bl (n : Bool) : Rk F M (.bl n) (.bl n)
  | str (n : Str) : Rk F M (.str n) (.str n)
  | non : Rk F M .non .non
  | ml {p : Addr} {ds : List D} : .ml p ds ∈ M → Rk F M (.ref p) (.lst ds)
  | mi {p C : Addr} {fs : List (Str × D)} : .mi p C fs ∈ M → Rk F M (.ref p) (.obj C fs)
/-- known for good -/
inductive Kn (F : List (V × D)) : V → D → Prop
  | mem {v : V} {d : D} : (v, d) ∈ F → Kn F v d
  | int (n : Int) : Kn F (.int n) (.int n)
  | bl (n : Bool) : Kn F (.bl n) (.bl n)
  | str (n : Str) : Kn F (.str n) (.str n)
  | non : Kn F .non .non
  | ty (n : String) : Kn F (.ty n) (.ty n)
  | ref (a : Addr) : Kn F (.ref a) (.ref a)
inductive KnA (F : List (V × D)) : List V → List D → Prop
  | nil : KnA F [] []
  | cons {v : V} {d : D} {vs : List V} {ds : List D} : Kn F v d → KnA F vs ds → KnA F (v :: vs) (d :: ds)
/-- all facts of F' are among F's -/
def KS (F' F : List (V × D)) : Prop := ∀ f ∈ F', Kn F f.1 f.2
theorem KS.nil {F : List (V × D)} : KS [] F := fun _ h => nomatch h
theorem KS.refl {F : List (V × D)} : KS F F := fun _ h => .mem h
theorem KS.cons {F F' : List (V × D)} {v : V} {d : D} (h : Kn F v d) (r : KS F' F) : KS ((v, d) :: F') F := fun f hf => by
  rcases List.mem_cons.mp hf with rfl | hf
  · exact h
  · exact r f hf
theorem Kn.more {F : List (V × D)} {g : V × D} {v : V} {d : D} (h : Kn F v d) : Kn (g :: F) v d := by
  cases h with
  | mem h => exact .mem (List.mem_cons_of_mem _ h)
  | int n => exact .int n
  | bl n => exact .bl n
  | str n => exact .str n
  | non => exact .non
  | ty n => exact .ty n
  | ref a => exact .ref a
theorem KS.drop {F F' : List (V × D)} {g : V × D} (r : KS F' F) : KS F' (g :: F) := fun f hf => (r f hf).more
section
variable {I H H' : Hp} {F F' : List (V × D)} {M M' : List ME} {Mc : List (Addr × HO)} {v x y : V} {d : D} {ds : List D} {vs xs : List V}
theorem Kn.is (hF : ∀ f ∈ F, Is I f.1 f.2) (h : Kn F v d) : Is I v d := by
  cases h with
  | mem h => exact hF _ h
  | int n => exact .int n
  | bl n => exact .bl n
  | str n => exact .str n
  | non => exact .non
  | ty n => exact .ty n
  | ref a => exact .ref a
theorem KnA.is (hF : ∀ f ∈ F, Is I f.1 f.2) : ∀ {vs : List V} {ds : List D}, KnA F vs ds → IsA I vs ds
  | _, _, .nil => .nil
  | _, _, .cons h a => .cons (h.is hF) (KnA.is hF a)
theorem Rk.of (h : Kn F v d) (hd : (∃ n, d = .ref n) ∨ (∃ n, d = .ty n) → False) : Rk F M v d := by
  cases h with
  | mem h => exact .mem h
  | int n => exact .int n
  | bl n => exact .bl n
  | str n => exact .str n
  | non => exact .non
  | ty n => exact (hd (.inr ⟨_, rfl⟩)).elim
  | ref a => exact (hd (.inl ⟨_, rfl⟩)).elim
/-- what is known is there to be read -/
theorem Rk.rd (w : W I H Mc) (a : CnA I M Mc) (hF : ∀ f ∈ F, Is I f.1 f.2) (h : Rk F M v d) : Is H v d := by
  cases h with
  | mem h => exact (hF _ h).mono w.imm
  | int n => exact .int n
  | bl n => exact .bl n
  | str n => exact .str n
  | non => exact .non
  | ml h =>
    obtain ⟨m, h1, h2⟩ := a.mem h
    cases h2 with
    | ml b => exact .lst (w.mu _ h1).1 (b.mono w.imm)
  | mi h =>
    obtain ⟨m, h1, h2⟩ := a.mem h
    cases h2 with
    | mi b => exact .obj (w.mu _ h1).1 (b.mono w.imm)
theorem Rk.lst (w : W I H Mc) (a : CnA I M Mc) (hF : ∀ f ∈ F, Is I f.1 f.2) (h : Rk F M v (.lst ds)) : ∃ p vs, v = .ref p ∧ H p = some (.lst vs) ∧ IsA I vs ds := by
  cases h with
  | mem h =>
    obtain ⟨p, vs, e, h1, h2⟩ := (hF _ h).lst_ex
    exact ⟨p, vs, e, w.imm _ _ h1, h2⟩
  | ml h =>
    obtain ⟨m, h1, h2⟩ := a.mem h
    cases h2 with
    | ml b => exact ⟨_, _, rfl, (w.mu _ h1).1, b⟩
theorem Rk.tup (w : W I H Mc) (a : CnA I M Mc) (hF : ∀ f ∈ F, Is I f.1 f.2) (h : Rk F M v (.tup ds)) : ∃ p vs, v = .ref p ∧ H p = some (.tup vs) ∧ IsA I vs ds := by
  cases h with
  | mem h =>
    obtain ⟨p, vs, e, h1, h2⟩ := (hF _ h).tup_ex
    exact ⟨p, vs, e, w.imm _ _ h1, h2⟩
theorem Rk.obj {C : Addr} {fs : List (Str × D)} (w : W I H Mc) (a : CnA I M Mc) (hF : ∀ f ∈ F, Is I f.1 f.2) (h : Rk F M v (.obj C fs)) : ∃ p dx vs, v = .ref p ∧ H p = some (.ins C dx vs) ∧ IsF I vs fs := by
  cases h with
  | mem h =>
    obtain ⟨p, dx, vs, e, h1, h2⟩ := (hF _ h).obj_ex
    exact ⟨p, dx, vs, e, w.imm _ _ h1, h2⟩
  | mi h =>
    obtain ⟨m, h1, h2⟩ := a.mem h
    cases h2 with
    | mi b => exact ⟨_, _, _, rfl, (w.mu _ h1).1, b⟩
theorem Wf.sub (w : Wf F H M) (k : KS F' F) (s : List.Sublist M' M) : Wf F' H M' := by
  obtain ⟨I, Mc, w, a, hF⟩ := w.ex
  obtain ⟨Mc', h1, h2⟩ := a.sub s
  exact ⟨I, Mc', w.subl h1, h2, fun f hf => (k f hf).is hF⟩
theorem Wf.perm (w : Wf F H M) (s : List.Perm M M') : Wf F H M' := by
  obtain ⟨I, Mc, w, a, hF⟩ := w.ex
  obtain ⟨Mc', h1, h2⟩ := a.perm s
  exact ⟨I, Mc', w.perm h1, h2, hF⟩
theorem Wf.tail {f : V × D} (w : Wf (f :: F) H M) : Wf F H M := w.sub KS.refl.drop (.refl _)
theorem Wf.int_eq {n : Int} (w : Wf F H M) (h : Kn F v (.int n)) : v = .int n := by
  obtain ⟨I, Mc, w, a, hF⟩ := w.ex
  exact (h.is hF).int_eq
theorem Wf.eq0 {n : Int} (w : Wf ((v, .int n) :: F) H M) : v = .int n ∧ Wf F H M := ⟨w.int_eq (.mem List.mem_cons_self), w.tail⟩
theorem Wf.add (w : Wf F H M) (h : Kn F v d) : Wf ((v, d) :: F) H M := w.sub (KS.cons h KS.refl) (.refl _)
theorem Wf.more (w : Wf F H M) (s : Same H H') : Wf F H' M := by
  obtain ⟨I, Mc, w, a, hF⟩ := w.ex
  exact ⟨I, Mc, w.more s, a, hF⟩
/-- for contracts in the elder form -/
theorem Wf.old (w : Wf F H M) : ∃ I Mc, W I H Mc ∧ (∀ v d, Kn F v d → Is I v d) ∧ (∀ J H', Same I J → W J H' Mc → Wf F H' M) ∧ ∀ J H' r d, Same I J → W J H' Mc → Is J r d → Wf ((r, d) :: F) H' M := by
  obtain ⟨I, Mc, w, a, hF⟩ := w.ex
  refine ⟨I, Mc, w, fun v d h => h.is hF, fun J H' s w' => ⟨J, Mc, w', a.mono s, fun f hf => (hF f hf).mono s⟩, fun J H' r d s w' h => ⟨J, Mc, w', a.mono s, fun f hf => ?_⟩⟩
  rcases List.mem_cons.mp hf with rfl | hf
  · exact h
  · exact (hF f hf).mono s
theorem Wf.oldB {b : Addr} (w : Wf F H M) (hb : .bag b ∈ M) : ∃ I Mc c o, W I H ((b, o) :: Mc) ∧ Bag I c o ∧ (∀ v d, Kn F v d → Is I v d) ∧ (∀ J H' o', Same I J → W J H' ((b, o') :: Mc) → Bag J c o' → Wf F H' M) ∧ ∀ J H' o' r d, Same I J → W J H' ((b, o') :: Mc) → Bag J c o' → Is J r d → Wf ((r, d) :: F) H' M := by
  obtain ⟨M1, M2, rfl⟩ := List.append_of_mem hb
  have hp : List.Perm (M1 ++ .bag b :: M2) (.bag b :: (M1 ++ M2)) := List.perm_middle
  obtain ⟨I, Mc, w, a, hF⟩ := (w.perm hp).ex
  cases a with
  | cons h a =>
    cases h with
    | @bag _ c o hb =>
      have z : ∀ J H' o', Same I J → W J H' ((b, o') :: _) → Bag J c o' → ∀ F', (∀ f ∈ F', Is J f.1 f.2) → Wf F' H' (M1 ++ .bag b :: M2) := fun J H' o' s w' hb' F' hF' =>
        Wf.perm (M := .bag b :: (M1 ++ M2)) ⟨J, _, w', .cons (.bag hb') (a.mono s), hF'⟩ hp.symm
      refine ⟨I, _, _, _, w, hb, fun v d h => h.is hF, fun J H' o' s w' hb' => z J H' o' s w' hb' F fun f hf => (hF f hf).mono s, fun J H' o' r d s w' hb' h => z J H' o' s w' hb' _ fun f hf => ?_⟩
      rcases List.mem_cons.mp hf with rfl | hf
      · exact h
      · exact (hF f hf).mono s
end

/-! ### steps -/
section
variable {K : PySem.W.Frag} {σ : L2.St} {H : Hp} {F : List (V × D)} {M M' : List ME} {Q : VK} {G : Ends} {v x y u : V} {vs xs us : List V} {d e : D} {ds es : List D} {p : Addr} {i : Int} {g : TG} {tb : TS} {te : TE} {tt : TT} {sp : Sp} {C : Addr} {E : XK} {f m : Str} {fs : List (Str × D)} {L : List Str}
theorem Wf.put {o' : HO} {e e' : ME} (w : Wf F H M) (f : Foc M e M' e') (h : ∀ I m, (∀ f ∈ F, Is I f.1 f.2) → Cn I e m → m.1 = p ∧ Cn I e' (p, o')) : Wf F (upd H p o') M' := by
  obtain ⟨I, Mc, w, a, hF⟩ := w.ex
  obtain ⟨M1, m, M2, rfl, h1, h2⟩ := a.foc f
  obtain ⟨h3, h4⟩ := h I m hF h1
  obtain ⟨p', o⟩ := m
  cases h3
  exact ⟨I, _, w.put, h2 I _ (Same.refl _) h4, hF⟩
theorem Wf.lstAt (w : Wf F H M) (h : .ml p ds ∈ M) : ∃ vs, H p = some (.lst vs) ∧ vs.length = ds.length := by
  obtain ⟨I, Mc, w, a, hF⟩ := w.ex
  obtain ⟨m, h1, h2⟩ := a.mem h
  cases h2 with
  | ml b => exact ⟨_, (w.mu _ h1).1, b.length⟩
theorem Foc.mem {e e' : ME} (f : Foc M e M' e') : e ∈ M := by
  induction f with
  | here => exact List.mem_cons_self
  | there _ ih => exact List.mem_cons_of_mem _ ih
theorem Rem.mem {e : ME} (f : Rem M e M') : e ∈ M := by
  induction f with
  | here => exact List.mem_cons_self
  | there _ ih => exact List.mem_cons_of_mem _ ih
theorem Wf.frzL (w : Wf F H M) (r : Rem M (.ml p ds) M') : Wf ((.ref p, .lst ds) :: F) H M' := by
  obtain ⟨I, Mc, w, a, hF⟩ := w.ex
  obtain ⟨M1, m, M2, rfl, h1, h2⟩ := a.rem r
  cases h1 with
  | ml b =>
    refine ⟨_, _, w.frz, h2.mono w.frzS, fun f hf => ?_⟩
    rcases List.mem_cons.mp hf with rfl | hf
    · exact .lst upd_same (b.mono w.frzS)
    · exact (hF f hf).mono w.frzS
theorem Wf.frzI (w : Wf F H M) (r : Rem M (.mi p C fs) M') : Wf ((.ref p, .obj C fs) :: F) H M' := by
  obtain ⟨I, Mc, w, a, hF⟩ := w.ex
  obtain ⟨M1, m, M2, rfl, h1, h2⟩ := a.rem r
  cases h1 with
  | mi b =>
    refine ⟨_, _, w.frz, h2.mono w.frzS, fun f hf => ?_⟩
    rcases List.mem_cons.mp hf with rfl | hf
    · exact .obj upd_same (b.mono w.frzS)
    · exact (hF f hf).mono w.frzS
-- subscripts
theorem n_ixT (w : Wf F H M) (h : Rk F M v (.tup ds)) (hd : atI ds i = some d) (q : ∀ u, Wf ((u, d) :: F) H M → Q u H) : rIx K v (.int i) H Q := by
  obtain ⟨I, Mc, w, a, hF⟩ := w.ex
  obtain ⟨p, vs, rfl, hp, b⟩ := h.tup w a hF
  obtain ⟨u, e, hu⟩ := atI_isa b hd
  exact .inr (.inl ⟨p, vs, i, u, rfl, rfl, .inl (.inl hp), e, q u ⟨I, Mc, w, a, fun f hf => by
    rcases List.mem_cons.mp hf with rfl | hf
    · exact hu
    · exact hF f hf⟩⟩)
theorem n_ixL (w : Wf F H M) (h : Rk F M v (.lst ds)) (hd : atI ds i = some d) (q : ∀ u, Wf ((u, d) :: F) H M → Q u H) : rIx K v (.int i) H Q := by
  obtain ⟨I, Mc, w, a, hF⟩ := w.ex
  obtain ⟨p, vs, rfl, hp, b⟩ := h.lst w a hF
  obtain ⟨u, e, hu⟩ := atI_isa b hd
  exact .inl ⟨p, vs, i, u, rfl, rfl, .inl (.inl hp), e, q u ⟨I, Mc, w, a, fun f hf => by
    rcases List.mem_cons.mp hf with rfl | hf
    · exact hu
    · exact hF f hf⟩⟩
theorem n_ixTi {n : Int} (w : Wf F H M) (h : Rk F M v (.tup ds)) (hd : atI ds i = some (.int n)) (q : Q (.int n) H) : rIx K v (.int i) H Q := n_ixT w h hd fun u w => by rw [w.eq0.1]; exact q
theorem n_ixLi {n : Int} (w : Wf F H M) (h : Rk F M v (.lst ds)) (hd : atI ds i = some (.int n)) (q : Q (.int n) H) : rIx K v (.int i) H Q := n_ixL w h hd fun u w => by rw [w.eq0.1]; exact q
theorem n_ixTn (w : Wf F H M) (h : Rk F M v (.tup ds)) (hd : atI ds i = some .non) (q : Q .non H) : rIx K v (.int i) H Q := n_ixT w h hd fun u w => by
  obtain ⟨I, Mc, w, a, hF⟩ := w.ex
  cases (hF (u, .non) List.mem_cons_self : Is I u .non).non_eq
  exact q
theorem n_ixLLi {n : Int} (w : Wf F H M) (h : Rk F M v (.lst ds)) (hd : atI ds i = some (.int n)) (q : Q (.int n) H) : rIxL K v (.int i) H Q := by
  obtain ⟨I, Mc, w, a, hF⟩ := w.ex
  obtain ⟨p, vs, rfl, hp, b⟩ := h.lst w a hF
  obtain ⟨u, e, hu⟩ := atI_isa b hd
  cases hu.int_eq
  exact ⟨p, vs, i, _, rfl, rfl, .inl (.inl hp), e, q⟩
/-- an item at an open place -/
theorem n_ixAny (w : Wf F H M) (h : Rk F M v (.lst ds)) (h0 : 0 ≤ i) (h1 : i < ds.length) (q : ∀ d u, ds[i.toNat]? = some d → Wf ((u, d) :: F) H M → Q u H) : rIx K v (.int i) H Q := by
  have h2 : i.toNat < ds.length := by omega
  have e : (i.toNat : Int) = i := by omega
  have z := atI_nat (List.getElem?_eq_getElem h2)
  rw [e] at z
  exact n_ixL w h z fun u w' => q _ u (List.getElem?_eq_getElem h2) w'
theorem n_ixAnyT (w : Wf F H M) (h : Rk F M v (.tup ds)) (h0 : 0 ≤ i) (h1 : i < ds.length) (q : ∀ d u, ds[i.toNat]? = some d → Wf ((u, d) :: F) H M → Q u H) : rIx K v (.int i) H Q := by
  have h2 : i.toNat < ds.length := by omega
  have e : (i.toNat : Int) = i := by omega
  have z := atI_nat (List.getElem?_eq_getElem h2)
  rw [e] at z
  exact n_ixT w h z fun u w' => q _ u (List.getElem?_eq_getElem h2) w'
/-- an item of a list of ints at an open place -/
theorem n_ixInts {ns : List Int} (w : Wf F H M) (h : Rk F M v (.lst (ns.map D.int))) (h0 : 0 ≤ i) (h1 : i < ns.length) (q : ∀ n, ns[i.toNat]? = some n → Q (.int n) H) : rIx K v (.int i) H Q :=
  n_ixAny w h h0 (by rw [List.length_map]; exact h1) fun d u hd w => by
    rw [List.getElem?_map] at hd
    cases e : ns[i.toNat]? with
    | none => rw [e] at hd; cases hd
    | some n =>
      rw [e] at hd
      cases hd
      rw [w.eq0.1]
      exact q n e
-- len
theorem n_lenL (w : Wf F H M) (h : Rk F M v (.lst ds)) (q : Q (.int ds.length) H) : rLenU K [v] H Q := by
  obtain ⟨I, Mc, w, a, hF⟩ := w.ex
  obtain ⟨p, vs, rfl, hp, b⟩ := h.lst w a hF
  exact .inl ⟨p, vs, rfl, .inl (.inl (.inl hp)), by rw [b.length]; exact q⟩
theorem n_lenT (w : Wf F H M) (h : Rk F M v (.tup ds)) (q : Q (.int ds.length) H) : rLenU K [v] H Q := by
  obtain ⟨I, Mc, w, a, hF⟩ := w.ex
  obtain ⟨p, vs, rfl, hp, b⟩ := h.tup w a hF
  exact .inl ⟨p, vs, rfl, .inr (.inl (.inl hp)), by rw [b.length]; exact q⟩
-- new things
theorem n_newT (w : Wf F H M) (a : KnA F xs ds) (hz : xs.length ≤ 1000) (q : ∀ p H', Wf ((.ref p, .tup ds) :: F) H' M → Q (.ref p) H') : NewT Q xs H := by
  obtain ⟨I, Mc, w, ac, hF⟩ := w.ex
  refine s_newT w (a.is hF) hz fun p J H' s _ w' h' => q p H' ⟨J, Mc, w', ac.mono s, fun f hf => ?_⟩
  rcases List.mem_cons.mp hf with rfl | hf
  · exact h'
  · exact (hF f hf).mono s
theorem n_newL (w : Wf F H M) (a : KnA F xs ds) (hz : xs.length ≤ 1000) (q : ∀ p H', Wf F H' (.ml p ds :: M) → Q (.ref p) H') : NewL Q xs H := by
  obtain ⟨I, Mc, w, ac, hF⟩ := w.ex
  exact s_newM w hz fun p H' w' => q p H' ⟨I, _, w', .cons (.ml (a.is hF)) ac, hF⟩
theorem n_newNil (w : Wf F H M) (q : ∀ p H', Wf F H' (.ml p [] :: M) → Q (.ref p) H') : NewL Q [] H := n_newL w .nil (by simp) q
-- unpacking
theorem n_gtup {n : Nat} {gs : TGs} {T : L2.St → Hp → Prop} (w : Wf F H M) (h : Rk F M v (.tup ds)) (hn : ds.length = n) (q : ∀ I Mc xs, W I H Mc → CnA I M Mc → (∀ f ∈ F, Is I f.1 f.2) → IsA I xs ds → gs xs σ H T) : gTup K n gs v σ H T := by
  obtain ⟨I, Mc, w, a, hF⟩ := w.ex
  obtain ⟨p, vs, rfl, hp, b⟩ := h.tup w a hF
  exact ⟨p, vs, rfl, .inl (.inl hp), by rw [b.length]; exact hn, q I Mc vs w a hF b⟩
theorem n_gtup2 {gs : TGs} {T : L2.St → Hp → Prop} {d0 d1 : D} (w : Wf F H M) (h : Rk F M v (.tup [d0, d1])) (q : ∀ x y, Wf ((x, d0) :: (y, d1) :: F) H M → gs [x, y] σ H T) : gTup K 2 gs v σ H T :=
  n_gtup w h rfl fun I Mc xs w a hF b => by
    cases b with | cons h0 b =>
    cases b with | cons h1 b =>
    cases b
    refine q _ _ ⟨I, Mc, w, a, fun f hf => ?_⟩
    rcases List.mem_cons.mp hf with rfl | hf
    · exact h0
    rcases List.mem_cons.mp hf with rfl | hf
    · exact h1
    · exact hF f hf
theorem n_gtup3 {gs : TGs} {T : L2.St → Hp → Prop} {d0 d1 d2 : D} (w : Wf F H M) (h : Rk F M v (.tup [d0, d1, d2])) (q : ∀ x y z, Wf ((x, d0) :: (y, d1) :: (z, d2) :: F) H M → gs [x, y, z] σ H T) : gTup K 3 gs v σ H T :=
  n_gtup w h rfl fun I Mc xs w a hF b => by
    cases b with | cons h0 b =>
    cases b with | cons h1 b =>
    cases b with | cons h2 b =>
    cases b
    refine q _ _ _ ⟨I, Mc, w, a, fun f hf => ?_⟩
    rcases List.mem_cons.mp hf with rfl | hf
    · exact h0
    rcases List.mem_cons.mp hf with rfl | hf
    · exact h1
    rcases List.mem_cons.mp hf with rfl | hf
    · exact h2
    · exact hF f hf
theorem n_gtup4 {gs : TGs} {T : L2.St → Hp → Prop} {d0 d1 d2 d3 : D} (w : Wf F H M) (h : Rk F M v (.tup [d0, d1, d2, d3])) (q : ∀ x y z u, Wf ((x, d0) :: (y, d1) :: (z, d2) :: (u, d3) :: F) H M → gs [x, y, z, u] σ H T) : gTup K 4 gs v σ H T :=
  n_gtup w h rfl fun I Mc xs w a hF b => by
    cases b with | cons h0 b =>
    cases b with | cons h1 b =>
    cases b with | cons h2 b =>
    cases b with | cons h3 b =>
    cases b
    refine q _ _ _ _ ⟨I, Mc, w, a, fun f hf => ?_⟩
    rcases List.mem_cons.mp hf with rfl | hf
    · exact h0
    rcases List.mem_cons.mp hf with rfl | hf
    · exact h1
    rcases List.mem_cons.mp hf with rfl | hf
    · exact h2
    rcases List.mem_cons.mp hf with rfl | hf
    · exact h3
    · exact hF f hf
/-- two ints -/
theorem n_gtupII {gs : TGs} {T : L2.St → Hp → Prop} {m n : Int} (w : Wf F H M) (h : Rk F M v (.tup [.int m, .int n])) (q : gs [.int m, .int n] σ H T) : gTup K 2 gs v σ H T :=
  n_gtup2 w h fun x y w => by
    rw [w.eq0.1, w.eq0.2.eq0.1]
    exact q
theorem n_gtupIII {gs : TGs} {T : L2.St → Hp → Prop} {m n o : Int} (w : Wf F H M) (h : Rk F M v (.tup [.int m, .int n, .int o])) (q : gs [.int m, .int n, .int o] σ H T) : gTup K 3 gs v σ H T :=
  n_gtup3 w h fun x y z w => by
    rw [w.eq0.1, w.eq0.2.eq0.1, w.eq0.2.eq0.2.eq0.1]
    exact q
-- lists that may be changed
theorem n_tyL {A : Prop} (w : Wf F H M) (h : .ml p ds ∈ M) (a : A) : tyV K "list" (.ref p) H ∧ A := by
  obtain ⟨vs, h1, _⟩ := w.lstAt h
  exact s_tyL h1 a
theorem n_app (w : Wf F H M) (f : Foc M (.ml p ds) M' (.ml p (ds ++ [d]))) (h : Kn F x d) (hz : ds.length ≤ 100000) (q : ∀ H', Wf F H' M' → Q .non H') : rAppend (.ref p) [x] H Q := by
  obtain ⟨vs, h1, hl⟩ := w.lstAt f.mem
  obtain ⟨I, Mc, w, a, hF⟩ := w.ex
  obtain ⟨M1, m, M2, rfl, h3, h4⟩ := a.foc f
  cases h3 with
  | ml b =>
    exact s_app w.at (by rw [b.length]; exact hz) (q _ ⟨I, _, w.put, h4 I _ (Same.refl _) (.ml (b.app (.one (h.is hF)))), hF⟩)
theorem n_clear (w : Wf F H M) (f : Foc M (.ml p ds) M' (.ml p [])) (q : ∀ H', Wf F H' M' → Q .non H') : rClear (.ref p) [] H Q := by
  obtain ⟨vs, h1, hl⟩ := w.lstAt f.mem
  exact s_clear h1 (q _ (w.put f fun I m _ h => by cases h; exact ⟨rfl, .ml .nil⟩))
theorem IsA.set {I : Hp} (h : Is I v d) : ∀ {vs : List V} {ds : List D} (j : Nat), IsA I vs ds → IsA I (vs.set j v) (ds.set j d)
  | _, _, _, .nil => .nil
  | _, _, 0, .cons _ a => .cons h a
  | _, _, j + 1, .cons h' a => .cons h' (IsA.set h j a)
theorem n_set {T : Hp → Prop} {k : Int} {j : Nat} (w : Wf F H M) (f : Foc M (.ml p ds) M' (.ml p (ds.set j d))) (h : Kn F v d) (hj : ixN ds.length k = some j) (q : ∀ H', Wf F H' M' → T H') : rSetL (.ref p) (.int k) v H T := by
  obtain ⟨I, Mc, w, a, hF⟩ := w.ex
  obtain ⟨M1, m, M2, rfl, h3, h4⟩ := a.foc f
  cases h3 with
  | ml b => exact s_setL w.at (by rw [b.length]; exact hj) (q _ ⟨I, _, w.put, h4 I _ (Same.refl _) (.ml (IsA.set (h.is hF) j b)), hF⟩)
-- list(..), slices, +, reversed copies
theorem n_list (w : Wf F H M) (h : Rk F M x (.lst ds)) (q : ∀ p H', Wf F H' (.ml p ds :: M) → Q (.ref p) H') : rListOf K [x] H Q := by
  obtain ⟨I, Mc, w, a, hF⟩ := w.ex
  obtain ⟨p, vs, rfl, hp, b⟩ := h.lst w a hF
  exact ⟨p, vs, rfl, .inl (.inl (.inl hp)), fun l hl => q l _ ⟨I, _, w.newM hl, .cons (.ml b) a, hF⟩⟩
theorem n_listT (w : Wf F H M) (h : Rk F M x (.tup ds)) (q : ∀ p H', Wf F H' (.ml p ds :: M) → Q (.ref p) H') : rListOf K [x] H Q := by
  obtain ⟨I, Mc, w, a, hF⟩ := w.ex
  obtain ⟨p, vs, rfl, hp, b⟩ := h.tup w a hF
  exact ⟨p, vs, rfl, .inr (.inl (.inl hp)), fun l hl => q l _ ⟨I, _, w.newM hl, .cons (.ml b) a, hF⟩⟩
theorem n_sl {lo hi : Option Int} (w : Wf F H M) (h : Rk F M x (.lst ds)) (q : ∀ p H', Wf F H' (.ml p (cutD ds lo hi) :: M) → Q (.ref p) H') : rSlL K x lo hi H Q := by
  obtain ⟨I, Mc, w, a, hF⟩ := w.ex
  obtain ⟨p, vs, rfl, hp, b⟩ := h.lst w a hF
  exact ⟨p, vs, rfl, .inl (.inl hp), fun l hl => q l _ ⟨I, _, w.newM hl, .cons (.ml (b.cut lo hi)) a, hF⟩⟩
theorem n_cat (w : Wf F H M) (hx : Rk F M x (.lst ds)) (hy : Rk F M y (.lst es)) (hz : ds.length + es.length ≤ 100000) (q : ∀ p H', Wf F H' (.ml p (ds ++ es) :: M) → Q (.ref p) H') : rAddU K x y H Q := by
  obtain ⟨I, Mc, w, a, hF⟩ := w.ex
  obtain ⟨p1, vs, rfl, h1, a1⟩ := hx.lst w a hF
  obtain ⟨p2, us, rfl, h2, a2⟩ := hy.lst w a hF
  exact .inr (.inr (.inl ⟨p1, p2, vs, us, rfl, rfl, h1, h2, by rw [a1.length, a2.length]; exact Nat.le_trans hz (by decide), fun p hp => q p _ ⟨I, _, w.newM hp, .cons (.ml (a1.app a2)) a, hF⟩⟩))
theorem n_rev (w : Wf F H M) (h : Rk F M v (.lst ds)) (q : ∀ p H', Wf F H' (.ml p ds.reverse :: M) → Q (.ref p) H') : RevQ K Q v H := by
  obtain ⟨I, Mc, w, a, hF⟩ := w.ex
  obtain ⟨p, vs, rfl, hp, b⟩ := h.lst w a hF
  exact ⟨p, vs, rfl, .inl (.inl hp), fun l hl => q l _ ⟨I, _, w.newM hl, .cons (.ml b.rev) a, hF⟩⟩
-- == of data
theorem NB.dpH {k : Nat} (n : NB k d) : ∀ {v : V}, Is H v d → Dp K H v d.pd := fun {v} h => NB.dp (I := H) (M := []) ⟨fun _ _ e => e, fun _ h => (nomatch h), List.nodup_nil⟩ n h
theorem Wf.rd (w : Wf F H M) (h : Rk F M v d) : Is H v d := by
  obtain ⟨I, Mc, w, a, hF⟩ := w.ex
  exact h.rd w a hF
theorem n_eq {b : Bool} {j k : Nat} (w : Wf F H M) (hx : Rk F M x d) (hy : Rk F M y e) (n : NB k d) (m : NB j e) (hk : k ≤ 64) (hj : j ≤ 64) (hb : b = true ↔ d = e) (q : Q (.bl b) H) : rEqU K x y H Q :=
  .inr ⟨d.pd, e.pd, n.dpH (w.rd hx), m.dpH (w.rd hy), n.shaped hk, m.shaped hj, by
    have h1 := n.eqv m
    have h2 : PyData.eqv d.pd e.pd = b := by rw [Bool.eq_iff_iff, h1, hb]
    rw [h2]; exact q⟩
theorem n_ne {b : Bool} {j k : Nat} (w : Wf F H M) (hx : Rk F M x d) (hy : Rk F M y e) (n : NB k d) (m : NB j e) (hk : k ≤ 64) (hj : j ≤ 64) (hb : b = true ↔ d = e) (q : Q (.bl (!b)) H) : rNeU K x y H Q :=
  .inr ⟨d.pd, e.pd, n.dpH (w.rd hx), m.dpH (w.rd hy), n.shaped hk, m.shaped hj, by
    have h1 := n.eqv m
    have h2 : PyData.eqv d.pd e.pd = b := by rw [Bool.eq_iff_iff, h1, hb]
    rw [h2]; exact q⟩
theorem n_eqT (w : Wf F H M) (hx : Rk F M x d) (hy : Rk F M y d) (n : NB 60 d) (q : Q (.bl true) H) : rEqU K x y H Q := n_eq w hx hy n n (by decide) (by decide) (b := true) (by simp) q
theorem n_neT (w : Wf F H M) (hx : Rk F M x d) (hy : Rk F M y d) (n : NB 60 d) (q : Q (.bl false) H) : rNeU K x y H Q := n_ne w hx hy n n (by decide) (by decide) (b := true) (by simp) q
-- isinstance
theorem isi_base {a b : String} {k : Bool} (h : Is H v d) (e : d.tn = some a) (hb : kitB a b = some k) (q : Q (.bl k) H) : rIsiU K [v, .ty b] H Q := s_isi (I := H) (M := []) ⟨fun _ _ e => e, fun _ h => (nomatch h), List.nodup_nil⟩ h e hb q
theorem n_isi {a b : String} {k : Bool} (w : Wf F H M) (h : Rk F M v d) (e : d.tn = some a) (hb : kitB a b = some k) (q : Q (.bl k) H) : rIsiU K [v, .ty b] H Q := isi_base (w.rd h) e hb q
theorem W.self : W H H [] := ⟨fun _ _ e => e, fun _ h => (nomatch h), List.nodup_nil⟩
theorem n_isiO {b : String} {k : Bool} (o : OwnC K C) (w : Wf F H M) (h : Rk F M v (.obj C fs)) (hb : PySem.W.kitOne K (.ref C) (.type b) = some k) (q : Q (.bl k) H) : rIsiU K [v, .ty b] H Q := s_isiO o W.self (w.rd h) hb q
theorem n_isiC {a : String} {k : Bool} (w : Wf F H M) (h : Rk F M v d) (e : d.tn = some a) (hb : PySem.W.kitOne K (.type a) (.ref C) = some k) (q : Q (.bl k) H) : rIsiU K [v, .ref C] H Q := s_isiC W.self (w.rd h) e hb q
theorem n_isiOC {C' : Addr} {k : Bool} (o : OwnC K C) (w : Wf F H M) (h : Rk F M v (.obj C fs)) (hb : PySem.W.kitOne K (.ref C) (.ref C') = some k) (q : Q (.bl k) H) : rIsiU K [v, .ref C'] H Q := s_isiOC o W.self (w.rd h) hb q
-- objects
theorem n_fld (w : Wf F H M) (h : Rk F M v (.obj C fs)) (hc : Cls K C) (hn : ∀ f ∈ L, NoAttr K C f) (hf : f ∈ L) (hd : fs.lookup f = some d) (q : ∀ u, Wf ((u, d) :: F) H M → Q u H) : FldQ K f Q v H := by
  obtain ⟨I, Mc, w, a, hF⟩ := w.ex
  obtain ⟨p, dx, vs, rfl, hp, b⟩ := h.obj w a hF
  obtain ⟨u, e, hu⟩ := b.get hd
  exact ⟨p, C, dx, vs, u, rfl, hp, hc, hn f hf, e, q u ⟨I, Mc, w, a, fun f hf => by
    rcases List.mem_cons.mp hf with rfl | hf
    · exact hu
    · exact hF f hf⟩⟩
theorem n_fldi {n : Int} (w : Wf F H M) (h : Rk F M v (.obj C fs)) (hc : Cls K C) (hn : ∀ f ∈ L, NoAttr K C f) (hf : f ∈ L) (hd : fs.lookup f = some (.int n)) (q : Q (.int n) H) : FldQ K f Q v H := n_fld w h hc hn hf hd fun u w => by rw [w.eq0.1]; exact q
theorem n_fldn (w : Wf F H M) (h : Rk F M v (.obj C fs)) (hc : Cls K C) (hn : ∀ f ∈ L, NoAttr K C f) (hf : f ∈ L) (hd : fs.lookup f = some .non) (q : Q .non H) : FldQ K f Q v H := n_fld w h hc hn hf hd fun u w => by
  obtain ⟨I, Mc, w, a, hF⟩ := w.ex
  cases (hF (u, .non) List.mem_cons_self : Is I u .non).non_eq
  exact q
theorem n_meth {A : Prop} (w : Wf F H M) (h : Rk F M v (.obj C fs)) (hm : m ∉ fs.map (·.1)) (q : A) : MethQ C m v H A := s_methAt W.self (w.rd h) hm q
theorem n_make (w : Wf F H M) (q : ∀ x H', Wf F H' (.mi x C [] :: M) → sp (.ref x :: vs) H' (fun v H2 => v = .non ∧ Q (.ref x) H2) E) : MakeQ C sp E Q vs H := by
  obtain ⟨I, Mc, w, a, hF⟩ := w.ex
  exact s_makeW w fun x dx H' _ w' => q x H' ⟨I, _, w', .cons (.mi .nil) a, hF⟩
def putD (f : Str) (d : D) : List (Str × D) → List (Str × D)
  | [] => [(f, d)]
  | (g, x) :: r => if g = f then (g, d) :: r else (g, x) :: putD f d r
theorem IsF.put {I : Hp} (h : Is I v d) : ∀ {vs : List (Str × V)} {fs : List (Str × D)}, IsF I vs fs → IsF I (putF f v vs) (putD f d fs)
  | _, _, .nil => .cons h .nil
  | _, _, .cons (f := g) h' a => by
    unfold putF putD
    by_cases e : g = f
    · rw [if_pos e, if_pos e]; exact .cons h a
    · rw [if_neg e, if_neg e]; exact .cons h' (IsF.put h a)
theorem IsF.length {I : Hp} : ∀ {vs : List (Str × V)} {fs : List (Str × D)}, IsF I vs fs → vs.length = fs.length
  | _, _, .nil => rfl
  | _, _, .cons _ a => by rw [List.length_cons, List.length_cons, a.length]
theorem n_sf (w : Wf F H M) (fo : Foc M (.mi p C fs) M' (.mi p C (putD f d fs))) (h : Kn F y d) (hc : Cls K C) (hn : ∀ f ∈ L, NoAttr K C f) (hf : f ∈ L) (hg : fs.length < 1000) (q : ∀ H', Wf F H' M' → G.nx σ H') : SfQ K f G σ (.ref p) y H := by
  obtain ⟨I, Mc, w, a, hF⟩ := w.ex
  obtain ⟨M1, m, M2, rfl, h3, h4⟩ := a.foc fo
  cases h3 with
  | mi b =>
    exact ⟨p, C, _, _, rfl, w.at, hc, hn f hf, by rw [b.length]; exact hg, q _ ⟨I, _, w.put, h4 I _ (Same.refl _) (.mi (b.put (h.is hF))), hF⟩⟩
end

/-! ### loops -/
section
variable {K : PySem.W.Frag} {σ : L2.St} {H : Hp} {F : List (V × D)} {M M' : List ME} {Q : VK} {G : Ends} {v : V} {ds : List D} {g : TG} {tb : TS} {te : TE} {tt : TT} {c : TT}
/-- the heap of a loop -/
def LI (R : L2.St → List (V × D) → List ME → Prop) (σ : L2.St) (H : Hp) : Prop := ∃ F M, R σ F M ∧ Wf F H M
theorem n_forL (w : Wf F H M) (R : Nat → L2.St → List (V × D) → List ME → Prop) (hv : ∀ i σ F M, R i σ F M → Rk F M v (.lst ds)) (h0 : R 0 σ F M)
    (step : ∀ i d x σ H F M, ds[i]? = some d → R i σ F M → Wf ((x, d) :: F) H M → g x σ H fun σ2 H2 => tb { G with nx := LI (R (i + 1)), ct := LI (R (i + 1)), bk := G.nx } σ2 H2)
    (fin : ∀ σ H F M, R ds.length σ F M → Wf F H M → G.nx σ H) :
    ∃ a, v = .ref a ∧ (∃ xs, SqL K H a xs) ∧ ∃ W : Nat → Nat → L2.St → Hp → Prop, (∃ m, W 0 m σ H) ∧ ∀ i m σ H, W i m σ H →
      ((Itl K a).stop i H ∧ G.nx σ H) ∨ ((Itl K a).go i H ∧ ∃ N : L2.St → Hp → Prop, (∀ σ' H', N σ' H' → ∃ m', m' < m ∧ W (i + 1) m' σ' H') ∧ ∀ x H', (Itl K a).yld i H x H' → g x σ H' fun σ2 H2 => tb { G with nx := N, ct := N, bk := G.nx } σ2 H2) := by
  have e0 : ∃ a, v = .ref a ∧ ∃ xs, SqL K H a xs := by
    obtain ⟨I, Mc, w, a, hF⟩ := w.ex
    obtain ⟨p, vs, rfl, hp, b⟩ := (hv _ _ _ _ h0).lst w a hF
    exact ⟨p, rfl, vs, .inl (.inl hp)⟩
  obtain ⟨a, rfl, hx⟩ := e0
  refine ⟨a, rfl, hx, fun i m σ H => m = ds.length - i ∧ i ≤ ds.length ∧ LI (R i) σ H, ⟨ds.length, rfl, Nat.zero_le _, F, M, h0, w⟩, ?_⟩
  rintro i m σ H ⟨rfl, hi, F, M, hR, w⟩
  obtain ⟨I, Mc, w1, ac, hF⟩ := w.ex
  obtain ⟨p, vs, e, hp, b⟩ := (hv _ _ _ _ hR).lst w1 ac hF
  cases e
  have hs : SqL K H a vs := .inl (.inl hp)
  by_cases hlt : i < ds.length
  · have hl : i < vs.length := by rw [b.length]; exact hlt
    refine .inr ⟨⟨vs, vs[i], hs, List.getElem?_eq_getElem hl⟩, LI (R (i + 1)), fun σ' H' z => ⟨ds.length - (i + 1), by omega, rfl, hlt, z⟩, fun x H' y => ?_⟩
    obtain ⟨rfl, y⟩ := y
    obtain ⟨d, e1, e2⟩ := b.of (y vs hs)
    refine step i d x σ _ F M e1 hR ⟨I, Mc, w1, ac, fun f hf => ?_⟩
    rcases List.mem_cons.mp hf with rfl | hf
    · exact e2
    · exact hF f hf
  · have e : i = ds.length := by omega
    subst e
    exact .inl ⟨⟨vs, hs, by rw [b.length]; exact Nat.le_refl _⟩, fin σ H F M hR w⟩
theorem n_forT (w : Wf F H M) (R : Nat → L2.St → List (V × D) → List ME → Prop) (hv : ∀ i σ F M, R i σ F M → Rk F M v (.tup ds)) (h0 : R 0 σ F M)
    (step : ∀ i d x σ H F M, ds[i]? = some d → R i σ F M → Wf ((x, d) :: F) H M → g x σ H fun σ2 H2 => tb { G with nx := LI (R (i + 1)), ct := LI (R (i + 1)), bk := G.nx } σ2 H2)
    (fin : ∀ σ H F M, R ds.length σ F M → Wf F H M → G.nx σ H) :
    ∃ a, v = .ref a ∧ (∃ xs, SqT K H a xs) ∧ ∃ W : Nat → Nat → L2.St → Hp → Prop, (∃ m, W 0 m σ H) ∧ ∀ i m σ H, W i m σ H →
      ((Itt K a).stop i H ∧ G.nx σ H) ∨ ((Itt K a).go i H ∧ ∃ N : L2.St → Hp → Prop, (∀ σ' H', N σ' H' → ∃ m', m' < m ∧ W (i + 1) m' σ' H') ∧ ∀ x H', (Itt K a).yld i H x H' → g x σ H' fun σ2 H2 => tb { G with nx := N, ct := N, bk := G.nx } σ2 H2) := by
  have e0 : ∃ a, v = .ref a ∧ ∃ xs, SqT K H a xs := by
    obtain ⟨I, Mc, w, a, hF⟩ := w.ex
    obtain ⟨p, vs, rfl, hp, b⟩ := (hv _ _ _ _ h0).tup w a hF
    exact ⟨p, rfl, vs, .inl (.inl hp)⟩
  obtain ⟨a, rfl, hx⟩ := e0
  refine ⟨a, rfl, hx, fun i m σ H => m = ds.length - i ∧ i ≤ ds.length ∧ LI (R i) σ H, ⟨ds.length, rfl, Nat.zero_le _, F, M, h0, w⟩, ?_⟩
  rintro i m σ H ⟨rfl, hi, F, M, hR, w⟩
  obtain ⟨I, Mc, w1, ac, hF⟩ := w.ex
  obtain ⟨p, vs, e, hp, b⟩ := (hv _ _ _ _ hR).tup w1 ac hF
  cases e
  have hs : SqT K H a vs := .inl (.inl hp)
  by_cases hlt : i < ds.length
  · have hl : i < vs.length := by rw [b.length]; exact hlt
    refine .inr ⟨⟨vs, vs[i], hs, List.getElem?_eq_getElem hl⟩, LI (R (i + 1)), fun σ' H' z => ⟨ds.length - (i + 1), by omega, rfl, hlt, z⟩, fun x H' y => ?_⟩
    obtain ⟨rfl, y⟩ := y
    obtain ⟨d, e1, e2⟩ := b.of (y vs hs)
    refine step i d x σ _ F M e1 hR ⟨I, Mc, w1, ac, fun f hf => ?_⟩
    rcases List.mem_cons.mp hf with rfl | hf
    · exact e2
    · exact hF f hf
  · have e : i = ds.length := by omega
    subst e
    exact .inl ⟨⟨vs, hs, by rw [b.length]; exact Nat.le_refl _⟩, fin σ H F M hR w⟩
theorem n_forR {lo : Int} {n : Nat} (w : Wf F H M) (R : Nat → L2.St → List (V × D) → List ME → Prop) (h0 : R 0 σ F M)
    (step : ∀ i σ H F M, i < n → R i σ F M → Wf F H M → g (.int (lo + i)) σ H fun σ2 H2 => tb { G with nx := LI (R (i + 1)), ct := LI (R (i + 1)), bk := G.nx } σ2 H2)
    (fin : ∀ σ H F M, R n σ F M → Wf F H M → G.nx σ H) :
    ∃ W : Nat → Nat → L2.St → Hp → Prop, (∃ m, W 0 m σ H) ∧ ∀ i m σ H, W i m σ H →
      ((Itr lo n).stop i H ∧ G.nx σ H) ∨ ((Itr lo n).go i H ∧ ∃ N : L2.St → Hp → Prop, (∀ σ' H', N σ' H' → ∃ m', m' < m ∧ W (i + 1) m' σ' H') ∧ ∀ x H', (Itr lo n).yld i H x H' → g x σ H' fun σ2 H2 => tb { G with nx := N, ct := N, bk := G.nx } σ2 H2) :=
  for_range (fun i => LI (R i)) ⟨F, M, h0, w⟩ (fun i σ H hi ⟨F, M, hR, w⟩ => step i σ H F M hi hR w) fun σ H ⟨F, M, hR, w⟩ => fin σ H F M hR w
/-- while, by a measure of the slots -/
theorem n_while (w : Wf F H M) (R : L2.St → List (V × D) → List ME → Prop) (μ : L2.St → Nat) (h0 : R σ F M)
    (step : ∀ σ H F M, R σ F M → Wf F H M → c σ H fun b H1 => if b = true then ∃ N : L2.St → Hp → Prop, (∀ σ' H', N σ' H' → ∃ m', m' < μ σ ∧ m' = μ σ' ∧ LI R σ' H') ∧ tb { G with nx := N, ct := N, bk := G.nx } σ H1 else G.nx σ H1) : tWhile c tb G σ H :=
  s_while (LI R) μ ⟨F, M, h0, w⟩ fun σ H ⟨F, M, hR, w⟩ => step σ H F M hR w
theorem n_wN {R : L2.St → List (V × D) → List ME → Prop} {μ : L2.St → Nat} {m : Nat} {σ1 : L2.St} (h : tb { G with nx := fun σ' H' => LI R σ' H' ∧ μ σ' < m, ct := fun σ' H' => LI R σ' H' ∧ μ σ' < m, bk := G.nx } σ1 H) :
    ∃ N : L2.St → Hp → Prop, (∀ σ' H', N σ' H' → ∃ m', m' < m ∧ m' = μ σ' ∧ LI R σ' H') ∧ tb { G with nx := N, ct := N, bk := G.nx } σ1 H :=
  ⟨_, fun _ _ h => ⟨_, h.2, rfl, h.1⟩, h⟩
/-- comprehensions: what the i-th turn gives is told by P -/
theorem n_lc {J : It} {n : Nat} {Gd : Hp → Prop} {Y : Nat → Hp → V → Hp → Prop} {xs : List Nat} {k : Nat} (wk : Walk J n Gd Y) (w : Wf F H M) (hG : ∀ H' D acc, Wf F H' (.ml D acc :: M) → Gd H') (P : Nat → D → Prop) (hn : n ≤ 100000)
    (hw : ∀ v, wipe ((wipe σ xs).set k (some v)) xs = wipe σ xs)
    (step : ∀ i v D acc H0 H' C, i < n → Wf F H0 (.ml D acc :: M) → Y i H0 v H' → (∀ y d H4, Wf ((y, d) :: F) H4 (.ml D acc :: M) → P i d → C y H4) → te ((wipe σ xs).set k (some v)) H' C)
    (q : ∀ p ds H', ds.length = n → (∀ i d, ds[i]? = some d → P i d) → Wf F H' (.ml p ds :: M) → Q (.ref p) H') : LcGo J (gName k) tYes te xs σ Q H := by
  intro D nD
  have w0 : Wf F (upd H D (.lst [])) (.ml D [] :: M) := by
    obtain ⟨I, Mc, w, a, hF⟩ := w.ex
    exact ⟨I, _, w.newM nD, .cons (.ml .nil) a, hF⟩
  refine lc_it wk (fun i H' => ∃ acc, Wf F H' (.ml D acc :: M) ∧ acc.length = i ∧ ∀ j d, acc[j]? = some d → P j d) ⟨[], w0, rfl, fun j d h => by simp at h⟩ (fun i H' _ ⟨acc, w', _⟩ => hG H' D acc w') ?_ ?_
  · rintro i v H0 H' hi ⟨acc, w', hl, hp⟩ hy
    refine ⟨hw v, ?_⟩
    refine s_yes (iteT (step i v D acc H0 H' _ hi w' hy fun y d H4 w4 hd => ?_))
    obtain ⟨vs, h1, h2⟩ := w4.lstAt List.mem_cons_self
    have w5 : Wf F (upd H4 D (.lst (vs ++ [y]))) (.ml D (acc ++ [d]) :: M) := by
      obtain ⟨I, Mc, w, a, hF⟩ := w4.ex
      cases a with
      | cons h a =>
        cases h with
        | ml b =>
          have := w.at0
          rw [this] at h1
          cases h1
          exact ⟨I, _, w.put0, .cons (.ml (b.app (.one (hF _ List.mem_cons_self)))) a, fun f hf => hF f (List.mem_cons_of_mem _ hf)⟩
    refine ⟨vs, h1, by rw [h2, hl]; exact Nat.lt_of_lt_of_le hi (Nat.le_trans hn (by decide)), acc ++ [d], w5, by rw [List.length_append, hl]; rfl, fun j e h => ?_⟩
    by_cases hj : j < acc.length
    · rw [List.getElem?_append_left hj] at h
      exact hp j e h
    · rw [List.getElem?_append_right (by omega)] at h
      have h3 : j - acc.length = 0 := by
        cases hz : j - acc.length with
        | zero => rfl
        | succ m => rw [hz] at h; simp at h
      rw [h3] at h
      simp at h
      subst h
      have : j = i := by omega
      rw [this]
      exact hd
  · rintro H' ⟨acc, w', hl, hp⟩
    exact q D acc H' hl hp w'
/-- .. over a list -/
theorem n_lcL {xs : List Nat} {k : Nat} (w : Wf F H M) (h : Rk F M v (.lst ds)) (P : Nat → D → Prop) (hn : ds.length ≤ 100000)
    (hw : ∀ v, wipe ((wipe σ xs).set k (some v)) xs = wipe σ xs)
    (step : ∀ i x d D acc H0 C, ds[i]? = some d → Wf ((x, d) :: F) H0 (.ml D acc :: M) → (∀ y d H4, Wf ((y, d) :: F) H4 (.ml D acc :: M) → P i d → C y H4) → te ((wipe σ xs).set k (some x)) H0 C)
    (q : ∀ p es H', es.length = ds.length → (∀ i d, es[i]? = some d → P i d) → Wf F H' (.ml p es :: M) → Q (.ref p) H') :
    ∃ a, v = .ref a ∧ (∃ xs, SqL K H a xs) ∧ LcGo (Itl K a) (gName k) tYes te xs σ Q H := by
  have rk : ∀ D acc, Rk F (.ml D acc :: M) v (.lst ds) := fun D acc => by
    cases h with
    | mem h => exact .mem h
    | ml h => exact .ml (List.mem_cons_of_mem _ h)
  have e0 : ∃ a, v = .ref a ∧ ∃ xs, SqL K H a xs := by
    obtain ⟨I, Mc, w, a, hF⟩ := w.ex
    obtain ⟨p, vs, rfl, hp, b⟩ := h.lst w a hF
    exact ⟨p, rfl, vs, .inl (.inl hp)⟩
  obtain ⟨a, rfl, hx⟩ := e0
  refine ⟨a, rfl, hx, ?_⟩
  have wk : Walk (Itl K a) ds.length (fun H => ∃ D acc, Wf F H (.ml D acc :: M)) (fun i H x H' => H' = H ∧ ∀ xs, SqL K H a xs → xs[i]? = some x) := by
    refine ⟨fun i H hi ⟨D, acc, w⟩ => ?_, fun H ⟨D, acc, w⟩ => ?_, fun i H x H' hi _ y => y⟩
    · obtain ⟨I, Mc, w, ac, hF⟩ := w.ex
      obtain ⟨p, vs, e, hp, b⟩ := (rk D acc).lst w ac hF
      cases e
      have hl : i < vs.length := by rw [b.length]; exact hi
      exact ⟨vs, vs[i], .inl (.inl hp), List.getElem?_eq_getElem hl⟩
    · obtain ⟨I, Mc, w, ac, hF⟩ := w.ex
      obtain ⟨p, vs, e, hp, b⟩ := (rk D acc).lst w ac hF
      cases e
      exact ⟨vs, .inl (.inl hp), by rw [b.length]; exact Nat.le_refl _⟩
  refine n_lc wk w (fun H' D acc w' => ⟨D, acc, w'⟩) P hn hw (fun i x D acc H0 H' C hi w' y k => ?_) q
  obtain ⟨rfl, y⟩ := y
  obtain ⟨I, Mc, w1, ac, hF⟩ := w'.ex
  obtain ⟨p, vs, e, hp, b⟩ := (rk D acc).lst w1 ac hF
  cases e
  obtain ⟨d, e1, e2⟩ := b.of (y vs (.inl (.inl hp)))
  refine step i x d D acc _ C e1 ⟨I, Mc, w1, ac, fun f hf => ?_⟩ k
  rcases List.mem_cons.mp hf with rfl | hf
  · exact e2
  · exact hF f hf
theorem n_lcR {xs : List Nat} {k n : Nat} {lo : Int} (w : Wf F H M) (P : Nat → D → Prop) (hn : n ≤ 100000)
    (hw : ∀ v, wipe ((wipe σ xs).set k (some v)) xs = wipe σ xs)
    (step : ∀ i D acc H0 C, i < n → Wf F H0 (.ml D acc :: M) → (∀ y d H4, Wf ((y, d) :: F) H4 (.ml D acc :: M) → P i d → C y H4) → te ((wipe σ xs).set k (some (.int (lo + i)))) H0 C)
    (q : ∀ p es H', es.length = n → (∀ i d, es[i]? = some d → P i d) → Wf F H' (.ml p es :: M) → Q (.ref p) H') : LcGo (Itr lo n) (gName k) tYes te xs σ Q H :=
  n_lc walk_range w (fun _ _ _ _ => trivial) P hn hw (fun i x D acc H0 H' C hi w' y k => by
    obtain ⟨rfl, rfl⟩ := y
    exact step i D acc _ C hi w' k) q
end
end Fs

namespace Fs
open PySem PySem.Spec PyProof.Rows L2
section
variable {X : Cx} {pos : Pos}
theorem pe_globS {x : Str} {z : Str} (hg : Gl X x) (hm : ∃ t, X.mg x = some (.str z t)) (hd : (x == ("__debug__" : Str)) = false := by decide) : PE X (.Name x pos) (tC (.str z)) := by
  obtain ⟨t, e⟩ := hm
  exact pe_glob hg e ⟨t, rfl⟩ hd
end
section
variable {K : PySem.W.Frag} {σ : L2.St} {H : Hp} {F : List (V × D)} {M M' : List ME} {Q : VK} {G : Ends} {z : Str} {g : TG} {tb : TS} {tk tv : TE}
theorem n_forS (w : Wf F H M) (R : Nat → L2.St → List (V × D) → List ME → Prop) (h0 : R 0 σ F M)
    (step : ∀ i c σ H F M, z.cps.toList[i]? = some c → R i σ F M → Wf F H M → g (.str ⟨#[c]⟩) σ H fun σ2 H2 => tb { G with nx := LI (R (i + 1)), ct := LI (R (i + 1)), bk := G.nx } σ2 H2)
    (fin : ∀ σ H F M, R z.length σ F M → Wf F H M → G.nx σ H) :
    ∃ x, V.str z = .str x ∧ ∃ W : Nat → Nat → L2.St → Hp → Prop, (∃ m, W 0 m σ H) ∧ ∀ i m σ H, W i m σ H →
      ((Its x).stop i H ∧ G.nx σ H) ∨ ((Its x).go i H ∧ ∃ N : L2.St → Hp → Prop, (∀ σ' H', N σ' H' → ∃ m', m' < m ∧ W (i + 1) m' σ' H') ∧ ∀ v H', (Its x).yld i H v H' → g v σ H' fun σ2 H2 => tb { G with nx := N, ct := N, bk := G.nx } σ2 H2) :=
  s_forS (fun i => LI (R i)) ⟨F, M, h0, w⟩ (fun i c σ H hc ⟨F, M, hR, w⟩ => step i c σ H F M hc hR w) fun σ H ⟨F, M, hR, w⟩ => fin σ H F M hR w
/-- a comprehension over a text -/
theorem n_lcS {te : TE} {xs : List Nat} {k : Nat} (w : Wf F H M) (P : Nat → D → Prop) (hn : z.length ≤ 100000)
    (hw : ∀ v, wipe ((wipe σ xs).set k (some v)) xs = wipe σ xs)
    (step : ∀ i c D acc H0 C, z.cps.toList[i]? = some c → Wf F H0 (.ml D acc :: M) → (∀ y d H4, Wf ((y, d) :: F) H4 (.ml D acc :: M) → P i d → C y H4) → te ((wipe σ xs).set k (some (.str ⟨#[c]⟩))) H0 C)
    (q : ∀ p es H', es.length = z.length → (∀ i d, es[i]? = some d → P i d) → Wf F H' (.ml p es :: M) → Q (.ref p) H') :
    ∃ x, V.str z = .str x ∧ LcGo (Its x) (gName k) tYes te xs σ Q H := by
  refine ⟨z, rfl, n_lc walk_str w (fun _ _ _ _ => trivial) P hn hw (fun i x D acc H0 H' C hi w' y k => ?_) q⟩
  obtain ⟨rfl, c, e, rfl⟩ := y
  exact step i c D acc _ C (by rw [Array.getElem?_toList]; exact e) w' k
/-- a displayed dict of one pair -/
def DkQ (Q : VK) (p : Addr) (F : List (V × D)) (M : List ME) (x : V) (H : Hp) : Prop := ∀ H', Wf ((.ref p, .dict) :: F) H' M → Q (.ref p) H'
theorem n_disp1 (w : Wf F H M) (q : ∀ p H', Wf F H' (.raw p (.dK []) :: M) → tk σ H' fun x H1 => tv σ H1 fun y H2 => DispQ Q p x y H2) : tDisp [(tk, tv)] σ H Q := by
  obtain ⟨I, Mc, w, a, hF⟩ := w.ex
  exact s_disp1 w fun p H' _ w' => q p H' ⟨I, _, w', .cons (.raw fun _ e => nomatch e) a, hF⟩
theorem n_dispS {n : Str} {p : Addr} {y : V} (w : Wf F H (.raw p (.dK []) :: M)) (q : ∀ H', Wf ((.ref p, .dict) :: F) H' M → Q (.ref p) H') : DispQ Q p (.str n) y H := by
  obtain ⟨I, Mc, w, a, hF⟩ := w.ex
  cases a with
  | cons h a =>
    cases h
    exact s_dispS w fun J H' s w' h' => q H' ⟨J, _, w', a.mono s, fun f hf => by
      rcases List.mem_cons.mp hf with rfl | hf
      · exact h'
      · exact (hF f hf).mono s⟩
theorem n_dispI {n : Int} {p : Addr} {y : V} (w : Wf F H (.raw p (.dK []) :: M)) (q : ∀ H', Wf ((.ref p, .dict) :: F) H' M → Q (.ref p) H') : DispQ Q p (.int n) y H := by
  obtain ⟨I, Mc, w, a, hF⟩ := w.ex
  cases a with
  | cons h a =>
    cases h
    exact s_dispI w fun J H' s w' h' => q H' ⟨J, _, w', a.mono s, fun f hf => by
      rcases List.mem_cons.mp hf with rfl | hf
      · exact h'
      · exact (hF f hf).mono s⟩
/-- a joined list of signs -/
theorem n_join {p : Addr} {ds : List D} {a : Str} (w : Wf F H M) (h : Rk F M (.ref p) (.lst ds)) (hs : ∀ d ∈ ds, ∃ y : Str, d = .str y ∧ y.length ≤ 1) (hl : ds.length ≤ 1000) (ha : a.length ≤ 1) (q : ∀ z : Str, z.length ≤ 2 * ds.length → Q (.str z) H) : rJoin K (.str a) [.ref p] H Q := by
  obtain ⟨I, Mc, w, ac, hF⟩ := w.ex
  obtain ⟨p', vs, e, hp, b⟩ := h.lst w ac hF
  cases e
  have : ∃ ys : List Str, vs = ys.map V.str ∧ ys.length = ds.length ∧ (ys.map (·.length)).sum ≤ ds.length := by
    clear h hp w hl q
    revert vs
    induction ds with
    | nil => intro vs b; cases b; exact ⟨[], rfl, rfl, by simp⟩
    | cons d ds ih =>
      intro vs b
      cases b with
      | cons h1 b =>
        obtain ⟨y, rfl, hy⟩ := hs d List.mem_cons_self
        obtain ⟨ys, rfl, h3, h4⟩ := ih (fun d hd => hs d (List.mem_cons_of_mem _ hd)) _ b
        rw [h1.str_eq]
        exact ⟨y :: ys, rfl, by simp [h3], by simp only [List.map_cons, List.sum_cons, List.length_cons]; omega⟩
  obtain ⟨ys, rfl, h3, h4⟩ := this
  have h5 : ys.length * a.length ≤ ys.length * 1 := Nat.mul_le_mul_left _ ha
  have h6 := StrLaws.join_length_le a ys
  refine ⟨a, p, ys, rfl, rfl, .inl (.inl (.inl hp)), by omega, q _ ?_⟩
  unfold Txt.join
  rw [StrLaws.glued_eq_join]
  omega
end
end Fs

namespace Fs
open PySem PySem.Spec PyProof.Rows L2
/-! ### what is walked, in one form: the i-th item is known by f -/
structure Src (J : It) (n : Nat) (f : Nat → D) (OK : List (V × D) → List ME → Prop) : Prop where
  go : ∀ i H F M, i < n → OK F M → Wf F H M → J.go i H
  stop : ∀ H F M, OK F M → Wf F H M → J.stop n H
  yld : ∀ i H F M x H', i < n → OK F M → Wf F H M → J.yld i H x H' → Wf ((x, f i) :: F) H' M
section
variable {K : PySem.W.Frag} {σ : L2.St} {H : Hp} {F : List (V × D)} {M M' : List ME} {Q : VK} {G : Ends} {v u x y : V} {ds es : List D} {g : TG} {tb : TS} {te : TE} {tt : TT} {a b : Addr} {J : It} {n : Nat} {f : Nat → D} {OK : List (V × D) → List ME → Prop}
theorem Wf.lstE (w : Wf F H M) (h : Rk F M v (.lst ds)) : ∃ I Mc p vs, v = .ref p ∧ W I H Mc ∧ CnA I M Mc ∧ (∀ f ∈ F, Is I f.1 f.2) ∧ H p = some (.lst vs) ∧ IsA I vs ds := by
  obtain ⟨I, Mc, w, ac, hF⟩ := w.ex
  obtain ⟨p, vs, e, hp, b⟩ := h.lst w ac hF
  exact ⟨I, Mc, p, vs, e, w, ac, hF, hp, b⟩
theorem Wf.cons {I : Hp} {Mc : List (Addr × HO)} {v : V} {d : D} (w : W I H Mc) (ac : CnA I M Mc) (hF : ∀ f ∈ F, Is I f.1 f.2) (h : Is I v d) : Wf ((v, d) :: F) H M := ⟨I, Mc, w, ac, fun f hf => by
  rcases List.mem_cons.mp hf with rfl | hf
  · exact h
  · exact hF f hf⟩
theorem getD_of {i : Nat} {d : D} (h : ds[i]? = some d) : ds.getD i .non = d := by rw [List.getD_eq_getElem?_getD, h]; rfl
theorem src_list : Src (Itl K a) ds.length (fun i => ds.getD i .non) (fun F M => Rk F M (.ref a) (.lst ds)) where
  go := fun i H F M hi ok w => by
    obtain ⟨I, Mc, p, vs, e, w, ac, hF, hp, b⟩ := w.lstE ok
    cases e
    have hl : i < vs.length := by rw [b.length]; exact hi
    exact ⟨vs, vs[i], .inl (.inl hp), List.getElem?_eq_getElem hl⟩
  stop := fun H F M ok w => by
    obtain ⟨I, Mc, p, vs, e, w, ac, hF, hp, b⟩ := w.lstE ok
    cases e
    exact ⟨vs, .inl (.inl hp), by rw [b.length]; exact Nat.le_refl _⟩
  yld := fun i H F M x H' hi ok w y => by
    obtain ⟨I, Mc, p, vs, e, w, ac, hF, hp, b⟩ := w.lstE ok
    cases e
    obtain ⟨rfl, y⟩ := y
    obtain ⟨d, e1, e2⟩ := b.of (y vs (.inl (.inl hp)))
    rw [getD_of e1]
    exact .cons w ac hF e2
theorem src_range {lo : Int} : Src (Itr lo n) n (fun i => .int (lo + i)) (fun _ _ => True) where
  go := fun i H F M hi _ _ => hi
  stop := fun H F M _ _ => Nat.le_refl _
  yld := fun i H F M x H' hi _ w y => by
    obtain ⟨rfl, rfl⟩ := y
    exact w.add (.int _)
theorem Wf.newT {p : Addr} {xs : List V} (w : Wf F H M) (hp : H p = none) (h : ∀ I Mc, W I H Mc → CnA I M Mc → (∀ f ∈ F, Is I f.1 f.2) → IsA I xs ds) : Wf ((.ref p, .tup ds) :: F) (upd H p (.tup xs)) M := by
  obtain ⟨I, Mc, w, ac, hF⟩ := w.ex
  exact .cons (w.newI hp) (ac.mono (w.same hp)) (fun f hf => (hF f hf).mono (w.same hp)) (.tup upd_same ((h I Mc w ac hF).mono (w.same hp)))
theorem src_zip : Src (Itz K a b) (min ds.length es.length) (fun i => .tup [ds.getD i .non, es.getD i .non]) (fun F M => Rk F M (.ref a) (.lst ds) ∧ Rk F M (.ref b) (.lst es)) where
  go := fun i H F M hi ok w => by
    obtain ⟨I, Mc, w, ac, hF⟩ := w.ex
    obtain ⟨p, vs, e, hp, b1⟩ := ok.1.lst w ac hF
    cases e
    obtain ⟨p, us, e, hp2, b2⟩ := ok.2.lst w ac hF
    cases e
    have hl : i < vs.length := by rw [b1.length]; omega
    have hl2 : i < us.length := by rw [b2.length]; omega
    exact ⟨vs, us, vs[i], us[i], .inl (.inl hp), .inl (.inl hp2), List.getElem?_eq_getElem hl, List.getElem?_eq_getElem hl2⟩
  stop := fun H F M ok w => by
    obtain ⟨I, Mc, w, ac, hF⟩ := w.ex
    obtain ⟨p, vs, e, hp, b1⟩ := ok.1.lst w ac hF
    cases e
    obtain ⟨p, us, e, hp2, b2⟩ := ok.2.lst w ac hF
    cases e
    exact ⟨vs, us, .inl (.inl hp), .inl (.inl hp2), by rw [b1.length, b2.length]; omega⟩
  yld := fun i H F M x H' hi ok w y => by
    obtain ⟨T, x, y', rfl, hT, rfl, h1, h2⟩ := y
    refine w.newT hT fun I Mc w ac hF => ?_
    obtain ⟨p, vs, e, hp, b1⟩ := ok.1.lst w ac hF
    cases e
    obtain ⟨p, us, e, hp2, b2⟩ := ok.2.lst w ac hF
    cases e
    obtain ⟨d, e1, f1⟩ := b1.of (h1 vs (.inl (.inl hp)))
    obtain ⟨e', e2, f2⟩ := b2.of (h2 us (.inl (.inl hp2)))
    rw [getD_of e1, getD_of e2]
    exact .cons f1 (.cons f2 .nil)
theorem src_enum : Src (Ite K a) ds.length (fun i => .tup [.int (i : Nat), ds.getD i .non]) (fun F M => Rk F M (.ref a) (.lst ds)) where
  go := fun i H F M hi ok w => by
    obtain ⟨I, Mc, p, vs, e, w, ac, hF, hp, b⟩ := w.lstE ok
    cases e
    have hl : i < vs.length := by rw [b.length]; exact hi
    exact ⟨vs, vs[i], .inl (.inl hp), List.getElem?_eq_getElem hl⟩
  stop := fun H F M ok w => by
    obtain ⟨I, Mc, p, vs, e, w, ac, hF, hp, b⟩ := w.lstE ok
    cases e
    exact ⟨vs, .inl (.inl hp), by rw [b.length]; exact Nat.le_refl _⟩
  yld := fun i H F M x H' hi ok w y => by
    obtain ⟨T, x, rfl, hT, rfl, h1⟩ := y
    refine w.newT hT fun I Mc w ac hF => ?_
    obtain ⟨p, vs, e, hp, b1⟩ := ok.lst w ac hF
    cases e
    obtain ⟨d, e1, f1⟩ := b1.of (h1 vs (.inl (.inl hp)))
    rw [getD_of e1]
    exact .cons (.int _) (.cons f1 .nil)
/-- a for over such -/
theorem n_forJ (S : Src J n f OK) (w : Wf F H M) (R : Nat → L2.St → List (V × D) → List ME → Prop) (hv : ∀ i σ F M, R i σ F M → OK F M) (h0 : R 0 σ F M)
    (step : ∀ i x σ H F M, i < n → R i σ F M → Wf ((x, f i) :: F) H M → g x σ H fun σ2 H2 => tb { G with nx := LI (R (i + 1)), ct := LI (R (i + 1)), bk := G.nx } σ2 H2)
    (fin : ∀ σ H F M, R n σ F M → Wf F H M → G.nx σ H) :
    ∃ W : Nat → Nat → L2.St → Hp → Prop, (∃ m, W 0 m σ H) ∧ ∀ i m σ H, W i m σ H →
      (J.stop i H ∧ G.nx σ H) ∨ (J.go i H ∧ ∃ N : L2.St → Hp → Prop, (∀ σ' H', N σ' H' → ∃ m', m' < m ∧ W (i + 1) m' σ' H') ∧ ∀ x H', J.yld i H x H' → g x σ H' fun σ2 H2 => tb { G with nx := N, ct := N, bk := G.nx } σ2 H2) := by
  refine ⟨fun i m σ H => m = n - i ∧ i ≤ n ∧ LI (R i) σ H, ⟨n, rfl, Nat.zero_le _, F, M, h0, w⟩, ?_⟩
  rintro i m σ H ⟨rfl, hi, F, M, hR, w⟩
  by_cases hlt : i < n
  · exact .inr ⟨S.go i H F M hlt (hv _ _ _ _ hR) w, LI (R (i + 1)), fun σ' H' z => ⟨n - (i + 1), by omega, rfl, hlt, z⟩, fun x H' y => step i x σ H' F M hlt hR (S.yld i H F M x H' hlt (hv _ _ _ _ hR) w y)⟩
  · have e : i = n := by omega
    subst e
    exact .inl ⟨S.stop H F M (hv _ _ _ _ hR) w, fin σ H F M hR w⟩
theorem n_zip (w : Wf F H M) (R : Nat → L2.St → List (V × D) → List ME → Prop) (hv : ∀ i σ F M, R i σ F M → Rk F M v (.lst ds) ∧ Rk F M u (.lst es)) (h0 : R 0 σ F M)
    (step : ∀ i d e x σ H F M, ds[i]? = some d → es[i]? = some e → R i σ F M → Wf ((x, .tup [d, e]) :: F) H M → g x σ H fun σ2 H2 => tb { G with nx := LI (R (i + 1)), ct := LI (R (i + 1)), bk := G.nx } σ2 H2)
    (fin : ∀ σ H F M, R (min ds.length es.length) σ F M → Wf F H M → G.nx σ H) :
    ∃ a b xs ys, [v, u] = [V.ref a, .ref b] ∧ SqL K H a xs ∧ SqL K H b ys ∧ ∃ W : Nat → Nat → L2.St → Hp → Prop, (∃ m, W 0 m σ H) ∧ ∀ i m σ H, W i m σ H →
      ((Itz K a b).stop i H ∧ G.nx σ H) ∨ ((Itz K a b).go i H ∧ ∃ N : L2.St → Hp → Prop, (∀ σ' H', N σ' H' → ∃ m', m' < m ∧ W (i + 1) m' σ' H') ∧ ∀ x H', (Itz K a b).yld i H x H' → g x σ H' fun σ2 H2 => tb { G with nx := N, ct := N, bk := G.nx } σ2 H2) := by
  obtain ⟨I, Mc, w1, ac, hF⟩ := w.ex
  obtain ⟨p, vs, rfl, hp, b1⟩ := (hv _ _ _ _ h0).1.lst w1 ac hF
  obtain ⟨q, us, rfl, hq, b2⟩ := (hv _ _ _ _ h0).2.lst w1 ac hF
  refine ⟨p, q, vs, us, rfl, .inl (.inl hp), .inl (.inl hq), n_forJ src_zip w R hv h0 (fun i x σ H F M hi hR w => ?_) fin⟩
  have h1 : i < ds.length := by omega
  have h2 : i < es.length := by omega
  have e1 : ds[i]? = some ds[i] := List.getElem?_eq_getElem h1
  have e2 : es[i]? = some es[i] := List.getElem?_eq_getElem h2
  rw [getD_of e1, getD_of e2] at w
  exact step i _ _ x σ H F M e1 e2 hR w
theorem s_enum {σ : L2.St} {ta : TA} {R : It → Hp → Prop} (h : ta σ H fun vs H1 => ∃ a xs, vs = [.ref a] ∧ SqL K H1 a xs ∧ R (Ite K a) H1) : iEnum K ta σ H R := h
theorem n_enum (w : Wf F H M) (R : Nat → L2.St → List (V × D) → List ME → Prop) (hv : ∀ i σ F M, R i σ F M → Rk F M v (.lst ds)) (h0 : R 0 σ F M)
    (step : ∀ i d x σ H F M, ds[i]? = some d → R i σ F M → Wf ((x, .tup [.int (i : Nat), d]) :: F) H M → g x σ H fun σ2 H2 => tb { G with nx := LI (R (i + 1)), ct := LI (R (i + 1)), bk := G.nx } σ2 H2)
    (fin : ∀ σ H F M, R ds.length σ F M → Wf F H M → G.nx σ H) :
    ∃ a xs, [v] = [V.ref a] ∧ SqL K H a xs ∧ ∃ W : Nat → Nat → L2.St → Hp → Prop, (∃ m, W 0 m σ H) ∧ ∀ i m σ H, W i m σ H →
      ((Ite K a).stop i H ∧ G.nx σ H) ∨ ((Ite K a).go i H ∧ ∃ N : L2.St → Hp → Prop, (∀ σ' H', N σ' H' → ∃ m', m' < m ∧ W (i + 1) m' σ' H') ∧ ∀ x H', (Ite K a).yld i H x H' → g x σ H' fun σ2 H2 => tb { G with nx := N, ct := N, bk := G.nx } σ2 H2) := by
  obtain ⟨I, Mc, p, vs, rfl, w1, ac, hF, hp, b⟩ := w.lstE (hv _ _ _ _ h0)
  refine ⟨p, vs, rfl, .inl (.inl hp), n_forJ src_enum w R hv h0 (fun i x σ H F M hi hR w => ?_) fin⟩
  have e1 : ds[i]? = some ds[i] := List.getElem?_eq_getElem hi
  rw [getD_of e1] at w
  exact step i _ x σ H F M e1 hR w
/-- any comprehension: acc is what was kept so far -/
theorem n_lcJ {xs : List Nat} (S : Src J n f OK) (w : Wf F H M) (ok : OK F M) (okm : ∀ D acc, OK F M → OK F (.ml D acc :: M)) (R : Nat → List D → Prop) (h0 : R 0 []) (hn : n ≤ 100000)
    (step : ∀ i x D acc H0 (Ap : VK) (Sk : Hp → Prop), i < n → R i acc → Wf ((x, f i) :: F) H0 (.ml D acc :: M) → (∀ y d H4, Wf ((y, d) :: F) H4 (.ml D acc :: M) → R (i + 1) (acc ++ [d]) → Ap y H4) → (∀ H3, Wf F H3 (.ml D acc :: M) → R (i + 1) acc → Sk H3) →
      g x (wipe σ xs) H0 fun σ2 H2 => wipe σ2 xs = wipe σ xs ∧ tt σ2 H2 fun b H3 => if b = true then te σ2 H3 Ap else Sk H3)
    (q : ∀ p es H', R n es → Wf F H' (.ml p es :: M) → Q (.ref p) H') : LcGo J g tt te xs σ Q H := by
  intro D nD
  have w0 : Wf F (upd H D (.lst [])) (.ml D [] :: M) := by
    obtain ⟨I, Mc, w, a, hF⟩ := w.ex
    exact ⟨I, _, w.newM nD, .cons (.ml .nil) a, hF⟩
  refine ⟨fun i m H => m = n - i ∧ i ≤ n ∧ ∃ acc, R i acc ∧ acc.length ≤ i ∧ Wf F H (.ml D acc :: M), ⟨n, rfl, Nat.zero_le _, [], h0, Nat.le_refl _, w0⟩, ?_⟩
  rintro i m H ⟨rfl, hi, acc, hR, hl, w⟩
  by_cases hlt : i < n
  · refine .inr ⟨S.go i H _ _ hlt (okm _ _ ok) w, fun H' => ∃ acc, R (i + 1) acc ∧ acc.length ≤ i + 1 ∧ Wf F H' (.ml D acc :: M), fun H' ⟨acc', h1, h2, h3⟩ => ⟨n - (i + 1), by omega, rfl, hlt, acc', h1, h2, h3⟩, fun x H' y => ?_⟩
    refine step i x D acc H' _ _ hlt hR (S.yld i H _ _ x H' hlt (okm _ _ ok) w y) (fun y d H4 w4 r => ?_) fun H3 w3 r => ⟨acc, r, by omega, w3⟩
    obtain ⟨vs, h1, h2⟩ := w4.lstAt List.mem_cons_self
    have w5 : Wf F (upd H4 D (.lst (vs ++ [y]))) (.ml D (acc ++ [d]) :: M) := by
      obtain ⟨I, Mc, w, a, hF⟩ := w4.ex
      cases a with
      | cons h a =>
        cases h with
        | ml b =>
          have := w.at0
          rw [this] at h1
          cases h1
          exact ⟨I, _, w.put0, .cons (.ml (b.app (.one (hF _ List.mem_cons_self)))) a, fun f hf => hF f (List.mem_cons_of_mem _ hf)⟩
    exact ⟨vs, h1, by rw [h2]; exact Nat.lt_of_le_of_lt hl (Nat.lt_of_lt_of_le hlt (Nat.le_trans hn (by decide))), acc ++ [d], r, by rw [List.length_append]; exact Nat.add_le_add_right hl 1, w5⟩
  · have e : i = n := by omega
    subst e
    exact .inl ⟨S.stop H _ _ (okm _ _ ok) w, q D acc H hR w⟩
theorem Rk.more {e : ME} {d : D} (h : Rk F M v d) : Rk F (e :: M) v d := by
  cases h with
  | mem h => exact .mem h
  | int n => exact .int n
  | bl n => exact .bl n
  | str n => exact .str n
  | non => exact .non
  | ml h => exact .ml (List.mem_cons_of_mem _ h)
  | mi h => exact .mi (List.mem_cons_of_mem _ h)
theorem Rk.moreF {f : V × D} {d : D} (h : Rk F M v d) : Rk (f :: F) M v d := by
  cases h with
  | mem h => exact .mem (List.mem_cons_of_mem _ h)
  | int n => exact .int n
  | bl n => exact .bl n
  | str n => exact .str n
  | non => exact .non
  | ml h => exact .ml h
  | mi h => exact .mi h
/-- .. over a list -/
theorem n_lcG {xs : List Nat} (w : Wf F H M) (h : Rk F M v (.lst ds)) (R : Nat → List D → Prop) (h0 : R 0 []) (hn : ds.length ≤ 100000)
    (step : ∀ i d x D acc H0 (Ap : VK) (Sk : Hp → Prop), ds[i]? = some d → R i acc → Wf ((x, d) :: F) H0 (.ml D acc :: M) → (∀ y d H4, Wf ((y, d) :: F) H4 (.ml D acc :: M) → R (i + 1) (acc ++ [d]) → Ap y H4) → (∀ H3, Wf F H3 (.ml D acc :: M) → R (i + 1) acc → Sk H3) →
      g x (wipe σ xs) H0 fun σ2 H2 => wipe σ2 xs = wipe σ xs ∧ tt σ2 H2 fun b H3 => if b = true then te σ2 H3 Ap else Sk H3)
    (q : ∀ p es H', R ds.length es → Wf F H' (.ml p es :: M) → Q (.ref p) H') : ∃ a, v = .ref a ∧ (∃ xs, SqL K H a xs) ∧ LcGo (Itl K a) g tt te xs σ Q H := by
  obtain ⟨I, Mc, p, vs, rfl, w1, ac, hF, hp, b⟩ := w.lstE h
  refine ⟨p, rfl, ⟨vs, .inl (.inl hp)⟩, n_lcJ src_list w h (fun D acc h => h.more) R h0 hn (fun i x D acc H0 Ap Sk hi hR w k1 k2 => ?_) q⟩
  have e1 : ds[i]? = some ds[i] := List.getElem?_eq_getElem hi
  rw [getD_of e1] at w
  exact step i _ x D acc H0 Ap Sk e1 hR w k1 k2
theorem n_lcZ {xs : List Nat} (w : Wf F H M) (h : Rk F M v (.lst ds)) (h' : Rk F M u (.lst es)) (R : Nat → List D → Prop) (h0 : R 0 []) (hn : ds.length ≤ 100000)
    (step : ∀ i d e x D acc H0 (Ap : VK) (Sk : Hp → Prop), ds[i]? = some d → es[i]? = some e → R i acc → Wf ((x, .tup [d, e]) :: F) H0 (.ml D acc :: M) → (∀ y d H4, Wf ((y, d) :: F) H4 (.ml D acc :: M) → R (i + 1) (acc ++ [d]) → Ap y H4) → (∀ H3, Wf F H3 (.ml D acc :: M) → R (i + 1) acc → Sk H3) →
      g x (wipe σ xs) H0 fun σ2 H2 => wipe σ2 xs = wipe σ xs ∧ tt σ2 H2 fun b H3 => if b = true then te σ2 H3 Ap else Sk H3)
    (q : ∀ p es' H', R (min ds.length es.length) es' → Wf F H' (.ml p es' :: M) → Q (.ref p) H') : ∃ a b xs' ys, [v, u] = [V.ref a, .ref b] ∧ SqL K H a xs' ∧ SqL K H b ys ∧ LcGo (Itz K a b) g tt te xs σ Q H := by
  obtain ⟨I, Mc, w1, ac, hF⟩ := w.ex
  obtain ⟨p, vs, rfl, hp, b1⟩ := h.lst w1 ac hF
  obtain ⟨p', us, rfl, hq, b2⟩ := h'.lst w1 ac hF
  refine ⟨p, p', vs, us, rfl, .inl (.inl hp), .inl (.inl hq), n_lcJ src_zip w ⟨h, h'⟩ (fun D acc h => ⟨h.1.more, h.2.more⟩) R h0 (by omega) (fun i x D acc H0 Ap Sk hi hR w k1 k2 => ?_) q⟩
  have h1 : i < ds.length := by omega
  have h2 : i < es.length := by omega
  have e1 : ds[i]? = some ds[i] := List.getElem?_eq_getElem h1
  have e2 : es[i]? = some es[i] := List.getElem?_eq_getElem h2
  rw [getD_of e1, getD_of e2] at w
  exact step i _ _ x D acc H0 Ap Sk e1 e2 hR w k1 k2
theorem n_lcE {xs : List Nat} (w : Wf F H M) (h : Rk F M v (.lst ds)) (R : Nat → List D → Prop) (h0 : R 0 []) (hn : ds.length ≤ 100000)
    (step : ∀ i d x D acc H0 (Ap : VK) (Sk : Hp → Prop), ds[i]? = some d → R i acc → Wf ((x, .tup [.int (i : Nat), d]) :: F) H0 (.ml D acc :: M) → (∀ y d H4, Wf ((y, d) :: F) H4 (.ml D acc :: M) → R (i + 1) (acc ++ [d]) → Ap y H4) → (∀ H3, Wf F H3 (.ml D acc :: M) → R (i + 1) acc → Sk H3) →
      g x (wipe σ xs) H0 fun σ2 H2 => wipe σ2 xs = wipe σ xs ∧ tt σ2 H2 fun b H3 => if b = true then te σ2 H3 Ap else Sk H3)
    (q : ∀ p es H', R ds.length es → Wf F H' (.ml p es :: M) → Q (.ref p) H') : ∃ a xs', [v] = [V.ref a] ∧ SqL K H a xs' ∧ LcGo (Ite K a) g tt te xs σ Q H := by
  obtain ⟨I, Mc, p, vs, rfl, w1, ac, hF, hp, b⟩ := w.lstE h
  refine ⟨p, vs, rfl, .inl (.inl hp), n_lcJ src_enum w h (fun D acc h => h.more) R h0 hn (fun i x D acc H0 Ap Sk hi hR w k1 k2 => ?_) q⟩
  have e1 : ds[i]? = some ds[i] := List.getElem?_eq_getElem hi
  rw [getD_of e1] at w
  exact step i _ x D acc H0 Ap Sk e1 hR w k1 k2
theorem n_lcN {xs : List Nat} {lo : Int} (w : Wf F H M) (R : Nat → List D → Prop) (h0 : R 0 []) (hn : n ≤ 100000)
    (step : ∀ i D acc H0 (Ap : VK) (Sk : Hp → Prop), i < n → R i acc → Wf F H0 (.ml D acc :: M) → (∀ y d H4, Wf ((y, d) :: F) H4 (.ml D acc :: M) → R (i + 1) (acc ++ [d]) → Ap y H4) → (∀ H3, Wf F H3 (.ml D acc :: M) → R (i + 1) acc → Sk H3) →
      g (.int (lo + i)) (wipe σ xs) H0 fun σ2 H2 => wipe σ2 xs = wipe σ xs ∧ tt σ2 H2 fun b H3 => if b = true then te σ2 H3 Ap else Sk H3)
    (q : ∀ p es H', R n es → Wf F H' (.ml p es :: M) → Q (.ref p) H') : LcGo (Itr lo n) g tt te xs σ Q H :=
  n_lcJ src_range w trivial (fun _ _ _ => trivial) R h0 hn (fun i x D acc H0 Ap Sk hi hR w k1 k2 => by
    have w2 := w.eq0.2
    rw [w.eq0.1]
    exact step i D acc H0 Ap Sk hi hR w2 k1 k2) q
-- ints in lists
theorem Wf.ints {ns : List Int} (w : Wf F H M) (h : Rk F M v (.lst (ns.map D.int))) : ∃ p, v = .ref p ∧ H p = some (.lst (ns.map V.int)) := by
  obtain ⟨I, Mc, p, vs, rfl, w1, ac, hF, hp, b⟩ := w.lstE h
  exact ⟨p, rfl, by rw [hp, b.ints_eq]⟩
theorem n_min {ns : List Int} (w : Wf F H M) (h : Rk F M v (.lst (ns.map D.int))) (h0 : 0 < ns.length) (q : ∀ m, m ∈ ns → (∀ y ∈ ns, m ≤ y) → Q (.int m) H) : rMinU K [v] H Q := by
  obtain ⟨p, rfl, hp⟩ := w.ints h
  exact .inr ⟨p, ns, rfl, .inl (.inl hp), h0, q⟩
theorem n_max {ns : List Int} (w : Wf F H M) (h : Rk F M v (.lst (ns.map D.int))) (h0 : 0 < ns.length) (q : ∀ m, m ∈ ns → (∀ y ∈ ns, y ≤ m) → Q (.int m) H) : rMaxU K [v] H Q := by
  obtain ⟨p, rfl, hp⟩ := w.ints h
  exact .inr ⟨p, ns, rfl, .inl (.inl hp), h0, q⟩
theorem n_sum {ns : List Int} (w : Wf F H M) (h : Rk F M v (.lst (ns.map D.int))) (q : Q (.int ns.sum) H) : rSum K [v] H Q := by
  obtain ⟨p, rfl, hp⟩ := w.ints h
  exact ⟨p, ns, rfl, .inl (.inl hp), q⟩
theorem n_sorted {ns : List Int} (w : Wf F H M) (h : Rk F M v (.lst (ns.map D.int))) (q : ∀ (ms : List Int) p H', ms.Perm ns → ms.Pairwise (· ≤ ·) → Wf F H' (.ml p (ms.map D.int) :: M) → Q (.ref p) H') : rSortedI K [v] H Q := by
  obtain ⟨p, rfl, hp⟩ := w.ints h
  refine ⟨p, ns, rfl, .inl (.inl hp), fun ms p h1 h2 h3 => q ms p _ h1 h2 ?_⟩
  obtain ⟨I, Mc, w, a, hF⟩ := w.ex
  exact ⟨I, _, w.newM h3, .cons (.ml (IsA.ints ms)) a, hF⟩
theorem IsA.flat {I : Hp} {vs : List V} (a : IsA I vs ds) : ∀ n : Nat, IsA I (List.replicate n vs).flatten (List.replicate n ds).flatten
  | 0 => .nil
  | n + 1 => by
    rw [List.replicate_succ, List.replicate_succ, List.flatten_cons, List.flatten_cons]
    exact a.app (IsA.flat a n)
theorem flat_one {α : Type} (x : α) : ∀ n : Nat, (List.replicate n [x]).flatten = List.replicate n x
  | 0 => rfl
  | n + 1 => by rw [List.replicate_succ, List.flatten_cons, flat_one x n]; rfl
theorem n_rep {k : Int} (w : Wf F H M) (h : Rk F M v (.lst ds)) (h1 : -(2 ^ 63) ≤ k) (h2 : k < 2 ^ 63) (hz : ds.length * k.toNat ≤ 100000) (q : ∀ p H', Wf F H' (.ml p (List.replicate k.toNat ds).flatten :: M) → Q (.ref p) H') : rMulU v (.int k) H Q := by
  obtain ⟨I, Mc, p, vs, rfl, w1, ac, hF, hp, b⟩ := w.lstE h
  exact .inr ⟨p, k, vs, rfl, rfl, hp, h1, h2, by rw [b.length]; exact Nat.le_trans hz (by decide), fun l hl => q l _ ⟨I, _, w1.newM hl, .cons (.ml (b.flat _)) ac, hF⟩⟩
/-- [d] * k -/
theorem n_rep1 {k : Int} {d : D} (w : Wf F H M) (h : Rk F M v (.lst [d])) (h1 : 0 ≤ k) (h2 : k ≤ 100000) (q : ∀ p H', Wf F H' (.ml p (List.replicate k.toNat d) :: M) → Q (.ref p) H') : rMulU v (.int k) H Q :=
  n_rep w h (by omega) (by omega) (by rw [List.length_singleton]; omega) fun p H' w => q p H' (by rw [flat_one] at w; exact w)
def rTupOf (K : PySem.W.Frag) : List V → Hp → VK → Prop := fun xs H Q => ∃ p ys, xs = [.ref p] ∧ ((SqL K H p ys ∧ ∀ l, H l = none → Q (.ref l) (upd H l (.tup ys))) ∨ (SqT K H p ys ∧ Q (.ref p) H))
theorem k_tuple {X : Cx} (h : X.K = K) : CallR X (.type "tuple") (rTupOf K) := h ▸ call_tuple_of
theorem n_tupL (w : Wf F H M) (h : Rk F M v (.lst ds)) (q : ∀ p H', Wf ((.ref p, .tup ds) :: F) H' M → Q (.ref p) H') : rTupOf K [v] H Q := by
  obtain ⟨I, Mc, p, vs, rfl, w1, ac, hF, hp, b⟩ := w.lstE h
  exact ⟨p, vs, rfl, .inl ⟨.inl (.inl hp), fun l hl => q l _ (.cons (w1.newI hl) (ac.mono (w1.same hl)) (fun f hf => (hF f hf).mono (w1.same hl)) (.tup upd_same (b.mono (w1.same hl))))⟩⟩
-- dicts with tuples as keys
def keyD : Key → D
  | .inl i => .int i
  | .inr x => .str x
def getP {κ : Type} [DecidableEq κ] (kvs : List (κ × D)) (k : κ) : Option D := (kvs.find? fun kv => decide (kv.1 = k)).map (·.2)
def putP {κ : Type} [DecidableEq κ] (kvs : List (κ × D)) (k : κ) (d : D) : List (κ × D) :=
  if (kvs.any fun kv => decide (kv.1 = k)) = true then kvs.map (fun kv => if kv.1 = k then (kv.1, d) else kv) else kvs ++ [(k, d)]
theorem IsP.length {I : Hp} {κ : Type} : ∀ {vs : List (κ × V)} {ds : List (κ × D)}, IsP I vs ds → vs.length = ds.length
  | _, _, .nil => rfl
  | _, _, .cons _ a => by rw [List.length_cons, List.length_cons, a.length]
theorem IsP.app {I : Hp} {κ : Type} {us : List (κ × V)} {es : List (κ × D)} (b : IsP I us es) : ∀ {vs : List (κ × V)} {ds : List (κ × D)}, IsP I vs ds → IsP I (vs ++ us) (ds ++ es)
  | _, _, .nil => b
  | _, _, .cons h a => .cons h (IsP.app b a)
theorem IsP.get {I : Hp} {κ : Type} [DecidableEq κ] {k : κ} : ∀ {vs : List (κ × V)} {ds : List (κ × D)}, IsP I vs ds → (getP ds k = none ∧ valV vs k = none) ∨ ∃ v d, valV vs k = some v ∧ getP ds k = some d ∧ Is I v d
  | _, _, .nil => .inl ⟨rfl, rfl⟩
  | _, _, .cons (f := f) h a => by
    by_cases e : f = k
    · exact .inr ⟨_, _, by simp [valV, List.find?_cons, e], by simp [getP, List.find?_cons, e], h⟩
    · rcases IsP.get (k := k) a with ⟨h1, h2⟩ | ⟨v, d, h1, h2, h3⟩
      · exact .inl ⟨by simpa [getP, List.find?_cons, e] using h1, by simpa [valV, List.find?_cons, e] using h2⟩
      · exact .inr ⟨v, d, by simpa [valV, List.find?_cons, e] using h1, by simpa [getP, List.find?_cons, e] using h2, h3⟩
theorem IsP.any {I : Hp} {κ : Type} [DecidableEq κ] {k : κ} : ∀ {vs : List (κ × V)} {ds : List (κ × D)}, IsP I vs ds → (vs.any fun kv => decide (kv.1 = k)) = ds.any fun kv => decide (kv.1 = k)
  | _, _, .nil => rfl
  | _, _, .cons h a => by rw [List.any_cons, List.any_cons, IsP.any a]
theorem IsP.mapP {I : Hp} {κ : Type} [DecidableEq κ] {k : κ} {v : V} {d : D} (h : Is I v d) : ∀ {vs : List (κ × V)} {ds : List (κ × D)}, IsP I vs ds → IsP I (vs.map fun kv => if kv.1 = k then (kv.1, v) else kv) (ds.map fun kv => if kv.1 = k then (kv.1, d) else kv)
  | _, _, .nil => .nil
  | _, _, .cons (f := f) h' a => by
    rw [List.map_cons, List.map_cons]
    by_cases e : f = k
    · simp only [e, if_true]; exact .cons h (IsP.mapP h a)
    · simp only [e, if_false]; exact .cons h' (IsP.mapP h a)
theorem IsP.put {I : Hp} {κ : Type} [DecidableEq κ] {k : κ} {v : V} {d : D} (h : Is I v d) {vs : List (κ × V)} {ds : List (κ × D)} (a : IsP I vs ds) : IsP I (putK vs k v) (putP ds k d) := by
  unfold putK putP
  rw [a.any]
  split
  · exact a.mapP h
  · exact IsP.app (.cons h .nil) a
theorem isA_keys {I : Hp} : ∀ {k : List Key} {vs : List V}, IsA I vs (k.map keyD) → vs = k.map kV
  | [], _, h => by cases h; rfl
  | k :: r, _, h => by
    cases h with
    | cons h a =>
      rw [isA_keys a]
      cases k with
      | inl i => rw [h.int_eq]; rfl
      | inr i => rw [h.str_eq]; rfl
def DGetQ (Q : VK) (x y : V) (H : Hp) : Prop := ∃ a v, x = .ref a ∧ DGet H a y (some v) ∧ Q v H
def DInQ (P : Bool → Prop) (x y : V) (H : Hp) : Prop := ∃ a o, x = .ref a ∧ DGet H a y o ∧ P o.isSome
def DPutQ (P : Hp → Prop) (x y v : V) (H : Hp) : Prop := ∃ a H4, x = .ref a ∧ DPut H a y v H4 ∧ P H4
theorem s_dget {td ty : TE} (h : td σ H fun x H1 => ty σ H1 fun y H2 => DGetQ Q x y H2) : tDGet td ty σ H Q := h
theorem s_din {td ty : TE} (h : ty σ H fun y H1 => td σ H1 fun x H2 => DInQ (fun b => Q (.bl b) H2) x y H2) : tDIn ty td σ H Q := h
theorem s_dnotin {td ty : TE} (h : ty σ H fun y H1 => td σ H1 fun x H2 => DInQ (fun b => Q (.bl (!b)) H2) x y H2) : tDNotIn ty td σ H Q := h
theorem s_dput {td ty tv : TE} (h : tv σ H fun v H1 => td σ H1 fun x H2 => ty σ H2 fun y H3 => DPutQ (fun H4 => G.nx σ H4) x y v H3) : sDPut td ty tv G σ H := h
theorem s_dnewT (w : Wf F H M) (q : ∀ p H', Wf F H' (.dt p [] :: M) → Q (.ref p) H') : tDNewT σ H Q := fun p hp => by
  obtain ⟨I, Mc, w, a, hF⟩ := w.ex
  exact q p _ ⟨I, _, w.newM hp, .cons (.dt .nil) a, hF⟩
theorem s_dnewK (w : Wf F H M) (q : ∀ p H', Wf F H' (.dk p [] :: M) → Q (.ref p) H') : tDNewK σ H Q := fun p hp => by
  obtain ⟨I, Mc, w, a, hF⟩ := w.ex
  exact q p _ ⟨I, _, w.newM hp, .cons (.dk .nil) a, hF⟩
theorem Wf.keyT {k : List Key} (w : Wf F H M) (h : Rk F M y (.tup (k.map keyD))) : ∃ b, y = .ref b ∧ H b = some (.tup (k.map kV)) := by
  obtain ⟨I, Mc, w, a, hF⟩ := w.ex
  obtain ⟨p, vs, rfl, hp, b⟩ := h.tup w a hF
  exact ⟨p, rfl, by rw [hp, isA_keys b]⟩
theorem Wf.dtAt {p : Addr} {kvs : List (List Key × D)} (w : Wf F H M) (h : .dt p kvs ∈ M) : ∃ I Mc vs, W I H Mc ∧ CnA I M Mc ∧ (∀ f ∈ F, Is I f.1 f.2) ∧ H p = some (.dT vs) ∧ IsP I vs kvs := by
  obtain ⟨I, Mc, w, a, hF⟩ := w.ex
  obtain ⟨m, h1, h2⟩ := a.mem h
  cases h2 with
  | dt b => exact ⟨I, Mc, _, w, a, hF, (w.mu _ h1).1, b⟩
theorem n_dinT {P : Bool → Prop} {p : Addr} {kvs : List (List Key × D)} {k : List Key} (w : Wf F H M) (h : .dt p kvs ∈ M) (hy : Rk F M y (.tup (k.map keyD))) (q : P (getP kvs k).isSome) : DInQ P (.ref p) y H := by
  obtain ⟨b, rfl, hb⟩ := w.keyT hy
  obtain ⟨I, Mc, vs, w, a, hF, hp, ha⟩ := w.dtAt h
  refine ⟨p, _, rfl, DGet.t hp hb, ?_⟩
  rcases ha.get (k := k) with ⟨h1, h2⟩ | ⟨v, d, h1, h2, h3⟩
  · rw [h2]; rw [h1] at q; exact q
  · rw [h1]; rw [h2] at q; exact q
theorem n_dgetT {p : Addr} {kvs : List (List Key × D)} {k : List Key} {d : D} (w : Wf F H M) (h : .dt p kvs ∈ M) (hy : Rk F M y (.tup (k.map keyD))) (hd : getP kvs k = some d) (q : ∀ u, Wf ((u, d) :: F) H M → Q u H) : DGetQ Q (.ref p) y H := by
  obtain ⟨b, rfl, hb⟩ := w.keyT hy
  obtain ⟨I, Mc, vs, w, a, hF, hp, ha⟩ := w.dtAt h
  rcases ha.get (k := k) with ⟨h1, h2⟩ | ⟨v, d', h1, h2, h3⟩
  · rw [h1] at hd; cases hd
  · rw [h2] at hd; cases hd
    exact ⟨p, v, rfl, h1 ▸ DGet.t hp hb, q v (.cons w a hF h3)⟩
theorem n_dputT {P : Hp → Prop} {p : Addr} {kvs : List (List Key × D)} {k : List Key} {d : D} (w : Wf F H M) (f : Foc M (.dt p kvs) M' (.dt p (putP kvs k d))) (hy : Rk F M y (.tup (k.map keyD))) (hv : Kn F v d) (hl : kvs.length ≤ 100000) (q : ∀ H', Wf F H' M' → P H') : DPutQ P (.ref p) y v H := by
  obtain ⟨b, rfl, hb⟩ := w.keyT hy
  obtain ⟨I, Mc, w, a, hF⟩ := w.ex
  obtain ⟨M1, m, M2, rfl, h3, h4⟩ := a.foc f
  cases h3 with
  | dt ha => exact ⟨p, _, rfl, DPut.t w.at hb (by rw [ha.length]; exact Nat.lt_of_le_of_lt hl (by decide)), q _ ⟨I, _, w.put, h4 I _ (Same.refl _) (.dt (ha.put (hv.is hF))), hF⟩⟩
-- keys are ints and texts
theorem Wf.keyK {k : Key} (w : Wf F H M) (h : Rk F M y (keyD k)) : y = kV k := by
  have := w.rd h
  cases k with
  | inl i => exact this.int_eq
  | inr i => exact this.str_eq
theorem Wf.dkAt {p : Addr} {kvs : List (Key × D)} (w : Wf F H M) (h : .dk p kvs ∈ M) : ∃ I Mc vs, W I H Mc ∧ CnA I M Mc ∧ (∀ f ∈ F, Is I f.1 f.2) ∧ H p = some (.dK vs) ∧ IsP I vs kvs := by
  obtain ⟨I, Mc, w, a, hF⟩ := w.ex
  obtain ⟨m, h1, h2⟩ := a.mem h
  cases h2 with
  | dk b => exact ⟨I, Mc, _, w, a, hF, (w.mu _ h1).1, b⟩
theorem n_dinK {P : Bool → Prop} {p : Addr} {kvs : List (Key × D)} {k : Key} (w : Wf F H M) (h : .dk p kvs ∈ M) (hy : Rk F M y (keyD k)) (q : P (getP kvs k).isSome) : DInQ P (.ref p) y H := by
  cases w.keyK hy
  obtain ⟨I, Mc, vs, w, a, hF, hp, ha⟩ := w.dkAt h
  refine ⟨p, _, rfl, DGet.k hp, ?_⟩
  rcases ha.get (k := k) with ⟨h1, h2⟩ | ⟨v, d, h1, h2, h3⟩
  · rw [h2]; rw [h1] at q; exact q
  · rw [h1]; rw [h2] at q; exact q
theorem n_dgetK {p : Addr} {kvs : List (Key × D)} {k : Key} {d : D} (w : Wf F H M) (h : .dk p kvs ∈ M) (hy : Rk F M y (keyD k)) (hd : getP kvs k = some d) (q : ∀ u, Wf ((u, d) :: F) H M → Q u H) : DGetQ Q (.ref p) y H := by
  cases w.keyK hy
  obtain ⟨I, Mc, vs, w, a, hF, hp, ha⟩ := w.dkAt h
  rcases ha.get (k := k) with ⟨h1, h2⟩ | ⟨v, d', h1, h2, h3⟩
  · rw [h1] at hd; cases hd
  · rw [h2] at hd; cases hd
    exact ⟨p, v, rfl, h1 ▸ DGet.k hp, q v (.cons w a hF h3)⟩
theorem n_dputK {P : Hp → Prop} {p : Addr} {kvs : List (Key × D)} {k : Key} {d : D} (w : Wf F H M) (f : Foc M (.dk p kvs) M' (.dk p (putP kvs k d))) (hy : Rk F M y (keyD k)) (hv : Kn F v d) (hl : kvs.length ≤ 100000) (q : ∀ H', Wf F H' M' → P H') : DPutQ P (.ref p) y v H := by
  cases w.keyK hy
  obtain ⟨I, Mc, w, a, hF⟩ := w.ex
  obtain ⟨M1, m, M2, rfl, h3, h4⟩ := a.foc f
  cases h3 with
  | dk ha => exact ⟨p, _, rfl, DPut.k w.at (by rw [ha.length]; exact Nat.lt_of_le_of_lt hl (by decide)), q _ ⟨I, _, w.put, h4 I _ (Same.refl _) (.dk (ha.put (hv.is hF))), hF⟩⟩
end
theorem hu1 {n : Nat} (h : n + 64 < cLine) : n + 1 < cLine := by omega
theorem k_sorted {X : Cx} {K : PySem.W.Frag} (h : X.K = K) : CallR X (.builtin "sorted") (rSortedI K) := h ▸ cr_sortedI
theorem ps_augLS {X : Cx} {pos : Pos} {o i e : Expr} {to ti te : TE} {tpos : Pos} (ho : PE X o to) (hi : PE X i ti) (he : PE X e te)
    (ha : ∀ ov iv new, augStore i ov iv new = (do holding [new, ov, iv] (setItem ov iv new); release [new, ov, iv] []; pure .next) := by intros; rfl) : PS X (.AugAssign (.Subscript o i tpos) .Sub e pos) (tAugS to ti te (rIxL X.K) (ipI fun i j => i - j) rSetL) :=
  ps_augS ho hi get_list he ip_sub set_list ha
section
variable {K : PySem.W.Frag} {σ : L2.St} {H : Hp} {F : List (V × D)} {M M' : List ME} {Q : VK} {G : Ends} {v u x y : V} {ds es : List D} {tb : TS} {c : TT} {i : Int}
/-- while, by any measure -/
theorem n_whileG (w : Wf F H M) (R : Nat → L2.St → List (V × D) → List ME → Prop) (m : Nat) (h0 : R m σ F M)
    (step : ∀ m σ H F M, R m σ F M → Wf F H M → c σ H fun b H1 => if b = true then ∃ N : L2.St → Hp → Prop, (∀ σ' H', N σ' H' → ∃ m', m' < m ∧ LI (R m') σ' H') ∧ tb { G with nx := N, ct := N, bk := G.nx } σ H1 else G.nx σ H1) : tWhile c tb G σ H :=
  ⟨fun m σ H => LI (R m) σ H, ⟨m, F, M, h0, w⟩, fun m σ H ⟨F, M, hR, w⟩ => step m σ H F M hR w⟩
theorem n_wG {R : Nat → L2.St → List (V × D) → List ME → Prop} {m : Nat} {σ1 : L2.St} (h : tb { G with nx := fun σ' H' => ∃ m', m' < m ∧ LI (R m') σ' H', ct := fun σ' H' => ∃ m', m' < m ∧ LI (R m') σ' H', bk := G.nx } σ1 H) :
    ∃ N : L2.St → Hp → Prop, (∀ σ' H', N σ' H' → ∃ m', m' < m ∧ LI (R m') σ' H') ∧ tb { G with nx := N, ct := N, bk := G.nx } σ1 H := ⟨_, fun _ _ h => h, h⟩
theorem n_ixN {ns : List Int} {j : Nat} (w : Wf F H M) (h : Rk F M v (.lst (ns.map D.int))) (hi : i = (j : Int)) (hj : j < ns.length) (q : Q (.int (ns.getD j 0)) H) : rIx K v (.int i) H Q := by
  subst hi
  refine n_ixInts w h (by omega) (by omega) fun n hn => ?_
  rw [Int.toNat_natCast] at hn
  rw [List.getD_eq_getElem?_getD, hn] at q
  exact q
/-- an item of a list made from another one -/
theorem n_ixM {α : Type} {f : α → D} {l : List α} {z : α} {j : Nat} (w : Wf F H M) (h : Rk F M v (.lst (l.map f))) (hi : i = (j : Int)) (hj : j < l.length) (q : ∀ u, Wf ((u, f (l.getD j z)) :: F) H M → Q u H) : rIx K v (.int i) H Q := by
  subst hi
  refine n_ixAny w h (by omega) (by rw [List.length_map]; omega) fun d u hd w => ?_
  rw [Int.toNat_natCast, List.getElem?_map, List.getElem?_eq_getElem hj] at hd
  cases hd
  have e : l.getD j z = l[j] := by rw [List.getD_eq_getElem?_getD, List.getElem?_eq_getElem hj]; rfl
  rw [← e] at w
  exact q u w
theorem ixN_of {n j : Nat} (h : j < n) : ixN n (j : Int) = some j := by
  have := atI_nat (xs := List.range n) (List.getElem?_range h)
  unfold atI at this
  rw [List.length_range] at this
  cases e : ixN n (j : Int) with
  | none => rw [e] at this; cases this
  | some k =>
    rw [e] at this
    have h2 : (List.range n)[k]? = some j := this
    by_cases hk : k < n
    · rw [List.getElem?_range hk] at h2; exact h2
    · rw [List.getElem?_eq_none (by rw [List.length_range]; omega)] at h2; cases h2
theorem atI_head {α : Type} {x : α} {l : List α} : atI (x :: l) 0 = some x := atI_nat (j := 0) rfl
theorem map_get {α β : Type} {f : α → β} {l : List α} {i : Nat} {d : β} (h : (l.map f)[i]? = some d) : ∃ x, l[i]? = some x ∧ d = f x := by
  rw [List.getElem?_map] at h
  cases e : l[i]? with
  | none => rw [e] at h; cases h
  | some x => rw [e] at h; exact ⟨x, rfl, (Option.some.inj h).symm⟩
theorem Wf.non0 (w : Wf ((v, .non) :: F) H M) : v = .non ∧ Wf F H M := ⟨(w.rd (.mem List.mem_cons_self) : Is H v .non).non_eq, w.tail⟩
theorem Wf.bl0 {b : Bool} (w : Wf ((v, .bl b) :: F) H M) : v = .bl b ∧ Wf F H M := ⟨(w.rd (.mem List.mem_cons_self) : Is H v (.bl b)).bl_eq, w.tail⟩
theorem Wf.str0 {b : Str} (w : Wf ((v, .str b) :: F) H M) : v = .str b ∧ Wf F H M := ⟨(w.rd (.mem List.mem_cons_self) : Is H v (.str b)).str_eq, w.tail⟩
theorem Wf.ref0 {b : Addr} (w : Wf ((v, .ref b) :: F) H M) : v = .ref b ∧ Wf F H M := ⟨(w.rd (.mem List.mem_cons_self) : Is H v (.ref b)).ref_eq, w.tail⟩
theorem Wf.tup0 (w : Wf ((v, .tup ds) :: F) H M) : ∃ p, v = .ref p := by
  obtain ⟨p, _, e, _⟩ := (w.rd (.mem List.mem_cons_self) : Is H v (.tup ds)).tup_ex
  exact ⟨p, e⟩
theorem Wf.lst0 (w : Wf ((v, .lst ds) :: F) H M) : ∃ p, v = .ref p := by
  obtain ⟨p, _, e, _⟩ := (w.rd (.mem List.mem_cons_self) : Is H v (.lst ds)).lst_ex
  exact ⟨p, e⟩
theorem n_gtup4i {gs : TGs} {T : L2.St → Hp → Prop} {a b c : Int} {d3 : D} (w : Wf F H M) (h : Rk F M v (.tup [.int a, .int b, .int c, d3])) (q : ∀ u, Wf ((u, d3) :: F) H M → gs [.int a, .int b, .int c, u] σ H T) : gTup K 4 gs v σ H T :=
  n_gtup4 w h fun x y z u w => by
    rw [w.eq0.1, w.eq0.2.eq0.1, w.eq0.2.eq0.2.eq0.1]
    exact q u w.eq0.2.eq0.2.eq0.2
theorem take_flat {α β : Type} {f : α → List β} {l : List α} {i : Nat} {x : α} (h : l[i]? = some x) : (l.take (i + 1)).flatMap f = (l.take i).flatMap f ++ f x := by
  rw [List.take_add_one, h, List.flatMap_append]
  simp
theorem take_snoc {α : Type} {l : List α} {i : Nat} {x : α} (h : l[i]? = some x) : l.take (i + 1) = l.take i ++ [x] := by
  rw [List.take_add_one, h]
  rfl
end
def oD : Option Int → D
  | none => .non
  | some k => .int k
def oV : Option Int → V
  | none => .non
  | some k => .int k
theorem Kn.oV {F : List (V × D)} (m : Option Int) : Kn F (oV m) (oD m) := by
  cases m with
  | none => exact .non
  | some k => exact .int k
/-- [e for x in xs], e told by f -/
theorem n_lcMap {α : Type} {K : PySem.W.Frag} {σ : L2.St} {H : Hp} {F : List (V × D)} {M : List ME} {Q : VK} {v : V} {te : TE} {xs : List Nat} {k : Nat} {g f : α → D} {l : List α} (w : Wf F H M) (h : Rk F M v (.lst (l.map g))) (hn : l.length ≤ 100000)
    (hw : ∀ v, wipe ((wipe σ xs).set k (some v)) xs = wipe σ xs)
    (step : ∀ x y D acc H0 C, x ∈ l → Wf ((y, g x) :: F) H0 (.ml D acc :: M) → (∀ z H4, Wf ((z, f x) :: F) H4 (.ml D acc :: M) → C z H4) → te ((wipe σ xs).set k (some y)) H0 C)
    (q : ∀ p H', Wf F H' (.ml p (l.map f) :: M) → Q (.ref p) H') :
    ∃ a, v = .ref a ∧ (∃ xs, SqL K H a xs) ∧ LcGo (Itl K a) (gName k) tYes te xs σ Q H := by
  refine n_lcL w h (fun i d => ∃ x, l[i]? = some x ∧ d = f x) (by rw [List.length_map]; exact hn) hw (fun i y d D acc H0 C hd w kc => ?_) fun p es H' hl hP w => ?_
  · obtain ⟨x, hx, rfl⟩ := map_get hd
    exact step x y D acc H0 C (List.mem_of_getElem? hx) w fun z H4 w4 => kc z _ H4 w4 ⟨x, hx, rfl⟩
  · have e : es = l.map f := by
      rw [List.length_map] at hl
      apply List.ext_getElem (by rw [List.length_map]; exact hl)
      intro i h1 h2
      obtain ⟨x, hx, e⟩ := hP i _ (List.getElem?_eq_getElem h1)
      rw [List.getElem_map, e]
      have h3 : i < l.length := by omega
      rw [List.getElem?_eq_getElem h3] at hx
      cases hx
      rfl
    rw [e] at w
    exact q p H' w
theorem n_lcMapI {α : Type} {K : PySem.W.Frag} {σ : L2.St} {H : Hp} {F : List (V × D)} {M : List ME} {Q : VK} {v : V} {te : TE} {xs : List Nat} {k : Nat} {g : α → D} {f : α → Int} {l : List α} (w : Wf F H M) (h : Rk F M v (.lst (l.map g))) (hn : l.length ≤ 100000)
    (hw : ∀ v, wipe ((wipe σ xs).set k (some v)) xs = wipe σ xs)
    (step : ∀ x y D acc H0 C, x ∈ l → Wf ((y, g x) :: F) H0 (.ml D acc :: M) → (∀ H4, Wf F H4 (.ml D acc :: M) → C (.int (f x)) H4) → te ((wipe σ xs).set k (some y)) H0 C)
    (q : ∀ p H', Wf F H' (.ml p ((l.map f).map D.int) :: M) → Q (.ref p) H') :
    ∃ a, v = .ref a ∧ (∃ xs, SqL K H a xs) ∧ LcGo (Itl K a) (gName k) tYes te xs σ Q H :=
  n_lcMap (f := fun x => .int (f x)) w h hn hw (fun x y D acc H0 C hx w kc => step x y D acc H0 C hx w fun H4 w4 => kc _ H4 (w4.add (.int _))) fun p H' w => q p H' (by rw [List.map_map]; exact w)
theorem n_gtup5 {K : PySem.W.Frag} {σ : L2.St} {H : Hp} {F : List (V × D)} {M : List ME} {v : V} {gs : TGs} {T : L2.St → Hp → Prop} {d0 d1 d2 d3 d4 : D} (w : Wf F H M) (h : Rk F M v (.tup [d0, d1, d2, d3, d4])) (q : ∀ x y z u t, Wf ((x, d0) :: (y, d1) :: (z, d2) :: (u, d3) :: (t, d4) :: F) H M → gs [x, y, z, u, t] σ H T) : gTup K 5 gs v σ H T :=
  n_gtup w h rfl fun I Mc xs w a hF b => by
    cases b with | cons h0 b =>
    cases b with | cons h1 b =>
    cases b with | cons h2 b =>
    cases b with | cons h3 b =>
    cases b with | cons h4 b =>
    cases b
    refine q _ _ _ _ _ ⟨I, Mc, w, a, fun f hf => ?_⟩
    rcases List.mem_cons.mp hf with rfl | hf
    · exact h0
    rcases List.mem_cons.mp hf with rfl | hf
    · exact h1
    rcases List.mem_cons.mp hf with rfl | hf
    · exact h2
    rcases List.mem_cons.mp hf with rfl | hf
    · exact h3
    rcases List.mem_cons.mp hf with rfl | hf
    · exact h4
    · exact hF f hf
/-- a row of a part: four ints and a greatest -/
theorem n_gtupRow {K : PySem.W.Frag} {σ : L2.St} {H : Hp} {F : List (V × D)} {M : List ME} {v : V} {gs : TGs} {T : L2.St → Hp → Prop} {b l w s : Int} {g : D} (ww : Wf F H M) (h : Rk F M v (.tup [.int b, .int l, g, .int w, .int s])) (q : ∀ u, Wf ((u, g) :: F) H M → gs [.int b, .int l, u, .int w, .int s] σ H T) : gTup K 5 gs v σ H T :=
  n_gtup5 ww h fun x y z u t w2 => by
    rw [w2.int_eq (v := x) (n := b) (.mem (by simp)), w2.int_eq (v := y) (n := l) (.mem (by simp)), w2.int_eq (v := u) (n := w) (.mem (by simp)), w2.int_eq (v := t) (n := s) (.mem (by simp))]
    exact q z (w2.sub (KS.cons (.mem (by simp)) (KS.drop (KS.drop (KS.drop (KS.drop (KS.drop KS.refl)))))) (.refl _))
end Fs

namespace Fs
open PySem PySem.Spec PyProof.Rows L2
/-! ### defs that may raise -/
structure CalX (P : Program) (w : World) (K : PySem.W.Frag) (mg : Str → Option Value) (base : Heap) (x : Str) (k : Nat) (ps : List Str) (dvs : List V) (sp : Sp) : Prop where
  ex : ∃ (f : Addr) (fd : FuncData) (ds : List Value), FnOk P w K mg base (L2.CX P w) k f fd ps sp ∧ mg x = some (.ref f) ∧ PySem.W.keepIn K (.ref f) = true ∧ Binds K fd ps ds ∧ Vals dvs ds
section
variable {X : Cx} {x : Str} {p pos : Pos} {e : Expr} {es : List Expr} {t : TA} {k : Nat} {ps : List Str} {dvs : List V} {sp : Sp} {W : WX}
theorem pe_calX (c : CalX X.prog X.w X.K X.mg X.base x k ps [] sp) (hr : Room k X.A) (hg : Gl X x) (tk : Takes X W) (ha : PA X (e :: es) t) (hdb : (x == ("__debug__" : Str)) = false := by decide)
    (he : starEach (e :: es) X.env = (false, eval e X.env) :: starEach es X.env := by rfl) (hpl : (backTo pos (starEach es X.env)).any (·.1) = false := by rfl) : PE X (.Call (.Name x p) (e :: es) [] pos) (tCallS sp (WE W) t) := by
  obtain ⟨f, fd, ds, F, hm, hk, hb, hd⟩ := c.ex
  cases hd
  exact pe_callS F hr hg hm hk hb (fun σ => passAt tk σ) ha hdb he hpl
end
section
variable {P : Program} {w : World} {K : PySem.W.Frag} {mg : Str → Option Value} {base : Heap}
theorem _root_.L2.FunD.okX {x qual : Str} {st : Stmt} {dvs : List V} {f : Addr} {fd : FuncData} {N ps : List Str} {k : Nat} {sp : Sp} (F : FunD K x qual (defArgs st) (defBody st) (defScope st) dvs [] f fd) (S : FnScope N ps (defScope st)) (len : ∀ vs H Q E, sp vs H Q E → vs.length = ps.length)
    (hbody : ∀ (cdv : Value) (A : Around) (outer : List Env) (s : Shared) (H : Hp) (vs : List V) (Q : VK) (E : XK), Room k (A.deeper (envOfC qual (defScope st) s.heap.objs.size f cdv)) → sp vs H Q E →
      ∃ t, PSs (cxOf (L2.CX P w) P w K mg base N qual (defScope st) f cdv A outer s H E) (defBody st) t ∧ t { nx := fun _ H' => Q .non H', rt := Q } (start N vs) H) : FnOk P w K mg base (L2.CX P w) (k + 1) f fd ps sp :=
  F.ok S len fun cdv A outer s H vs Q E hr h => hbody cdv A outer s H vs Q E hr h
end
/-- a def that is called with keywords -/
structure CalK (P : Program) (w : World) (K : PySem.W.Frag) (mg : Str → Option Value) (base : Heap) (x : Str) (k : Nat) (ps : List Str) (n : Nat) (ks : List Str) (gV : List V → List V → List V) (sp : Sp) : Prop where
  ex : ∃ (f : Addr) (fd : FuncData) (g : List Value → List Value → List Value), FnOk P w K mg base CX0 k f fd ps sp ∧ mg x = some (.ref f) ∧ PySem.W.keepIn K (.ref f) = true ∧ KBn K fd ps n ks g gV
section
variable {X : Cx} {x : Str} {p pos : Pos} {e : Expr} {es : List Expr} {kws : List Keyword} {t tk : TA} {k n : Nat} {ps ks : List Str} {gV : List V → List V → List V} {sp : Sp}
theorem pe_calK (c : CalK X.prog X.w X.K X.mg X.base x k ps n ks gV sp) (hr : Room k X.A) (hg : Gl X x) (ha : PA X (e :: es) t) (hkw : PK X kws tk)
    (hall : (backToKw pos (keywordEach kws X.env)).all (·.1.isSome) = true := by rfl) (hks : (backToKw pos (keywordEach kws X.env)).filterMap (·.1) = ks := by rfl) (hdb : (x == ("__debug__" : Str)) = false := by decide)
    (he : starEach (e :: es) X.env = (false, eval e X.env) :: starEach es X.env := by rfl) (hpl : ((backTo pos (starEach (e :: es) X.env)).any (·.1) || (backToKw pos (keywordEach kws X.env)).any (·.1.isNone)) = false := by rfl) :
    PE X (.Call (.Name x p) (e :: es) kws pos) (tCallN n ks.length sp gV E0 t tk) := by
  obtain ⟨f, fd, g, F, hm, hk, hb⟩ := c.ex
  exact pe_callN F hr hg hm hk hb pass0 ha hkw hall hks hdb he hpl
end
theorem s_callN {sp : Sp} {n m : Nat} {gV : List V → List V → List V} {E : XK} {tA tK : TA} {σ : L2.St} {H : Hp} {Q : VK} (h : tA σ H fun vs H1 => tK σ H1 fun zs H2 => vs.length = n ∧ zs.length = m ∧ sp (gV vs zs) H2 Q E) : tCallN n m sp gV E tA tK σ H Q := h
theorem s_callS {sp : Sp} {E : L2.St → XK} {t : TA} {σ : L2.St} {H : Hp} {Q : VK} (h : t σ H fun vs H1 => sp vs H1 Q (E σ)) : tCallS sp E t σ H Q := h
/-- an exception of the class C comes to 'except x as n' -/
theorem s_caught {K : PySem.W.Frag} {cls c : Value} {i : Nat} {ts : Addr → Value → Option Addr → TS} {D : Ends} {d : Option Addr} {σ : L2.St} {H : Hp} (e : PySem.W.exmOne K cls c = some true)
    (h : ∀ a, H a = none → ts a cls d { nx := fun σ' H' => D.nx (σ'.set i none) H', rt := D.rt, bk := fun σ' H' => D.bk (σ'.set i none) H', ct := fun σ' H' => D.ct (σ'.set i none) H' } (σ.set i (some (.ref a))) H) :
    WE (wAs K c i ts (fun _ _ _ _ => False) D) σ cls d H := ⟨true, e, fun _ a ha => h a ha, fun q => nomatch q⟩
/-! ### own error classes -/
/-- an own error class that is raised with a text -/
structure ErrC (K : PySem.W.Frag) (mg : Str → Option Value) (x : Str) (C : Addr) : Prop where
  g : mg x = some (.ref C)
  q : PySem.W.excIn K C HandSPX.veTail "ValueError.__new__" = true
  kp : PySem.W.keepIn K (.ref C) = true
  ex : PySem.W.subIn K (.ref C) (.type "BaseException") = some true
  ty : PySem.W.typeIn K (.ref C) = some (.type "type")
theorem ps_raiseC {X : Cx} {W : WX} {x m : Str} {C : Addr} {j : Nat} {p p2 pos pos2 : Pos} (c : ErrC X.K X.mg x C) (hc : X.calm = true) (tk : Takes X W) (hg : Gl X x) (hdb : (x == ("__debug__" : Str)) = false := by decide) :
    PS X (.Raise (some (.Call (.Name x p) [.Constant (.str m) j p2] [] pos)) none pos2) (fun _ σ H => W (.ref C) none σ H) :=
  ps_raise hc tk (pmk_own PySem.F.excBase_ValueError c.q c.g c.kp (raises_own c.ex c.ty) hg hdb)
section
variable {X : Cx} {C : Addr} {bmB : List Value} {B newId initId : String}
theorem pmk_own0 {x : Str} {p pos : Pos} (F : ExcBaseFacts B newId initId bmB) (q : PySem.W.excIn X.K C bmB newId = true) (gC : X.mg x = some (.ref C)) (kC : PySem.W.keepIn X.K (.ref C) = true) (r : Raises X (.ref C)) (hg : Gl X x)
    (hdb : (x == ("__debug__" : Str)) = false := by decide) : PMk X (.Call (.Name x p) [] [] pos) (fun _ H Q => Q (.ref C) none H) := by
  intro pins s σ H Q I h
  refine wpAny_Call_Name_kw (ld_glob I hg gC ?_ hdb)
  refine PySem.W.callWith_K0 I.kIn kC ?_
  show wpAny _ _ (call (.ref C) []) _ _ _
  obtain ⟨bm, N, nm, qn, bs, hdct, sn, sub, ab, col, dd, k0, k1, k2, k3, k5, mN, hC, hN, hni, T⟩ := exc_obj I.kIn q
  refine wpAny_call_exc_subT F T hC hN hni (fun h' e hm => ?_) (by show 0 ≤ sizeLine; omega)
  exact mk_of I hm r h (I.hok.gone hm.new)
theorem ps_raiseC0 {W : WX} {x : Str} {p pos pos2 : Pos} (c : ErrC X.K X.mg x C) (hc : X.calm = true) (tk : Takes X W) (hg : Gl X x) (hdb : (x == ("__debug__" : Str)) = false := by decide) :
    PS X (.Raise (some (.Call (.Name x p) [] [] pos)) none pos2) (fun _ σ H => W (.ref C) none σ H) :=
  ps_raise hc tk (pmk_own0 PySem.F.excBase_ValueError c.q c.g c.kp (raises_own c.ex c.ty) hg hdb)
end
/-! ### own error classes with a field -/
/-- what an __init__ of such a class leaves -/
def sp_xinit (C : Addr) (f : Str) : Sp := fun vs H Q _ => ∃ a v, vs = [.ref a, v] ∧ H a = some (exo a C none) ∧ ∀ dx, H dx = none → dx ≠ a → Q .non (upd (upd H dx (exd dx [(f, v)])) a (exo a C (some dx)))
structure ErrB (K : PySem.W.Frag) (mg : Str → Option Value) (x : Str) (B : Addr) : Prop where
  g : mg x = some (.ref B)
  sp : PySem.W.specialIn K (.ref B) "__getattribute__" = some (some (.builtin "type.__getattribute__"))
  rd : PySem.W.readsIn K B (.type "type") = true
  at_ : PySem.W.findCls K (.ref B) (.type "type") "__init__" = some (.val (.builtin "ValueError.__init__"))
section
variable {X : Cx} {o e : Expr} {es : List Expr} {to te : TE} {ta : TA} {x f : Str} {p p' p1 p2 pos : Pos} {C B : Addr}
theorem pe_clinit {pl : Sem Bool} (b : ErrB X.K X.mg x B) (hg : Gl X x) (ha : PA X (e :: es) ta) (hdb : (x == ("__debug__" : Str)) = false := by decide)
    (hc : eval (.Call (.Attribute (.Name x p1) "__init__" p2) (e :: es) [] pos) X.env = (do
      let ov ← eval (.Name x p1) X.env
      standAt p2.atName
      let (f, first) ← holding [ov] (getMethod ov "__init__" pl)
      callWith pos f first (backTo pos (starEach (e :: es) X.env)) (backToKw pos (keywordEach [] X.env))) := by rfl)
    (he : starEach (e :: es) X.env = (false, eval e X.env) :: starEach es X.env := by rfl) (hpl : (backTo pos (starEach es X.env)).any (·.1) = false := by rfl) :
    PE X (.Call (.Attribute (.Name x p1) "__init__" p2) (e :: es) [] pos) (tVeI X.K ta) := by
  refine ⟨fun pins s σ H Q I h => ?_⟩
  refine PySem.W.methodCall_KW (ld_glob I hg b.g ?_ hdb) hc
  refine PySem.W.method_cls I.kIn b.sp (PySem.W.cls_value I.kIn b.rd b.at_ (by decide +kernel) ?_)
  show wpAny _ _ (callWith pos (Value.builtin "ValueError.__init__") [] (backTo pos (starEach (e :: es) X.env)) []) _ _ _
  refine PyProof.Rows.callWith_method1 (thn (ha.run pos pins _ σ H _ (I.tok _) h) fun us s1 ⟨vs, H1, I1, r1, a, C, ws, ev, hl, T, ea, q⟩ => ?_) he hpl
  subst ev
  cases r1 with
  | @cons _ u0 _ ur ra rw' =>
    obtain rfl : u0 = Value.ref a := ra
    have hlen : ur.length ≤ sizeLine := by
      rw [← Paired.length rw', sizeLine_eq]
      omega
    exact oinit_ok T I1 ea hlen fun s' J => ⟨.non, H1, J, rfl, q⟩
end
structure ErrI (P : Program) (w : World) (K : PySem.W.Frag) (mg : Str → Option Value) (base : Heap) (x : Str) (C : Addr) (k : Nat) (ps : List Str) (f : Str) : Prop where
  T : OexC K C
  g : mg x = some (.ref C)
  ex : ∃ (fI : Addr) (fd : FuncData), PySem.W.findIn K (.ref C) "__init__" = some (some (.ref fI)) ∧ PySem.W.typeIn K (.ref fI) = some (.type "function") ∧ FnOk P w K mg base CX0 k fI fd ps (sp_xinit C f) ∧ Binds K fd ps []
section
variable {X : Cx} {e : Expr} {ta : TA} {x f : Str} {p pos pos2 : Pos} {C : Addr} {k : Nat} {ps : List Str} {W : WX}
theorem ps_raiseI (c : ErrI X.prog X.w X.K X.mg X.base x C k ps f) (hr : Room (k + 1) X.A) (hc : X.calm = true) (tk : Takes X W) (hg : Gl X x) (ha : PA X [e] ta) (hdb : (x == ("__debug__" : Str)) = false := by decide)
    (he : starEach (e :: []) X.env = (false, eval e X.env) :: starEach [] X.env := by rfl) (hpl : (backTo pos (starEach [] X.env)).any (·.1) = false := by rfl) :
    PS X (.Raise (some (.Call (.Name x p) [e] [] pos)) none pos2) (fun _ σ H => tMkO C (sp_xinit C f) [] ta σ H fun cls d H' => W cls d σ H') := by
  obtain ⟨fI, fd, h1, h2, F, hb⟩ := c.ex
  exact ps_raise hc tk (pmk_oex c.T h1 h2 F hr hb .nil (fun _ _ _ _ _ _ _ z => False.elim z) hg c.g ha hdb he hpl)
end
section
variable {K : PySem.W.Frag} {σ : L2.St} {H : Hp} {C : Addr} {f : Str} {v : V} {Q : XK} {sp : Sp} {tA : TA}
theorem s_mkO0 {dvs : List V} (h : tA σ H fun vs H1 => vs.length ≤ 1000 ∧ ∀ a, H1 a = none → sp (.ref a :: (vs ++ dvs)) (upd H1 a (exo a C none))
  (fun v H2 => v = .non ∧ ∃ (d : Addr) (fs : List (Str × V)), H2 a = some (exo a C (some d)) ∧ H2 d = some (exd d fs) ∧ H1 d = none ∧ Q (.ref C) (some d) (upd (del H2 a) d (.xd fs))) (fun _ _ _ => False)) : tMkO C sp dvs tA σ H Q := h
theorem s_mkO (q : ∀ d, H d = none → Q (.ref C) (some d) (upd H d (.xd [(f, v)]))) : [v].length ≤ 1000 ∧ ∀ a, H a = none → sp_xinit C f (.ref a :: ([v] ++ [])) (upd H a (exo a C none))
  (fun v H2 => v = .non ∧ ∃ (d : Addr) (fs : List (Str × V)), H2 a = some (exo a C (some d)) ∧ H2 d = some (exd d fs) ∧ H d = none ∧ Q (.ref C) (some d) (upd (del H2 a) d (.xd fs))) (fun _ _ _ => False) := by
  refine ⟨by simp, fun a ha => ⟨a, v, rfl, upd_same, fun dx hd ne => ⟨rfl, dx, [(f, v)], upd_same, ?_, ?_, ?_⟩⟩⟩
  · rw [upd_ne ne, upd_same]
  · rw [upd_ne ne] at hd
    exact hd
  · rw [upd_ne ne] at hd
    have e : upd (del (upd (upd (upd H a (exo a C none)) dx (exd dx [(f, v)])) a (exo a C (some dx))) a) dx (.xd [(f, v)]) = upd H dx (.xd [(f, v)]) := by
      funext b
      by_cases hb : b = dx
      · subst hb
        rw [upd_same, upd_same]
      · rw [upd_ne hb, upd_ne hb]
        by_cases ha' : b = a
        · subst ha'
          rw [del_same, ha]
        · rw [del_ne ha', upd_ne ha', upd_ne hb, upd_ne ha']
    rw [e]
    exact q dx hd
end
section
variable {K : PySem.W.Frag} {σ : L2.St} {H : Hp} {Q : VK} {G : Ends} {ta : TA} {to te : TE} {f : Str}
theorem s_veI (h : ta σ H fun vs H1 => ∃ (a C : Addr) (ws : List V), vs = .ref a :: ws ∧ ws.length ≤ 1000 ∧ OexC K C ∧ H1 a = some (exo a C none) ∧ Q .non H1) : tVeI K ta σ H Q := h
theorem s_ost (h : te σ H fun y H1 => to σ H1 fun x H2 => ∃ a C : Addr, x = .ref a ∧ OexC K C ∧ PySem.W.findIn K (.ref C) f = some none ∧
  ((H2 a = some (exo a C none) ∧ ∀ dx, H2 dx = none → dx ≠ a → G.nx σ (upd (upd H2 dx (exd dx [(f, y)])) a (exo a C (some dx)))) ∨
    ∃ (dx : Addr) (fs : List (Str × V)), H2 a = some (exo a C (some dx)) ∧ H2 dx = some (exd dx fs) ∧ fs.length ≤ 900 ∧ G.nx σ (upd H2 dx (exd dx ((f, y) :: fs))))) : tOst K f to te G σ H := h
end
/-- e.f, e the error that the suite holds -/
def tXf (K : PySem.W.Frag) (a : Addr) (cls : Value) (d : Option Addr) (f : Str) (te : TE) : TE := fun σ H Q => te σ H fun x H1 => x = .ref a ∧ ∃ (C dd : Addr) (fs : List (Str × V)) (v : V), cls = .ref C ∧ d = some dd ∧ H1 dd = some (.xd fs) ∧ fs.lookup f = some v ∧
  ExcC K C ∧ PySem.W.findIn K (.ref C) f = some none ∧ Q v H1
theorem s_xf {K : PySem.W.Frag} {σ : L2.St} {H : Hp} {Q : VK} {a : Addr} {cls : Value} {d : Option Addr} {f : Str} {te : TE} (h : te σ H fun x H1 => x = .ref a ∧ ∃ (C dd : Addr) (fs : List (Str × V)) (v : V), cls = .ref C ∧ d = some dd ∧ H1 dd = some (.xd fs) ∧ fs.lookup f = some v ∧
  ExcC K C ∧ PySem.W.findIn K (.ref C) f = some none ∧ Q v H1) : tXf K a cls d f te σ H Q := h
theorem pe_xfld {X : Cx} {f : Str} {a : Addr} {oe : Obj} {cls : Value} {d : Option Addr} {pn : List (Addr × Obj)} {e : Expr} {te : TE} {pos : Pos} (hz : Zc cls d oe) (hf : ∃ vs, oe.data = .fields vs) (he : PE (X.suite a ((a, oe) :: pn)) e te)
    (hb : attributeBase e f X.env (eval e X.env) = eval e X.env := by rfl) :
    PE (X.suite a ((a, oe) :: pn)) (.Attribute e f pos) (tXf X.K a cls d f te) := by
  refine ⟨fun pins s σ H Q I h => ?_⟩
  refine attr_of hb (thn (he.run pins s σ H _ I h) fun u s1 hh => ?_)
  obtain ⟨x, H1, I1, rx, ex, C, dd, fs, v, ec, ed, ea, l, T, hno, q⟩ := hh
  subst ex
  obtain rfl : u = Value.ref a := rx
  subst ec
  subst ed
  obtain ⟨ha, _⟩ := I1.pin (a, oe) (List.mem_append_left _ List.mem_cons_self)
  obtain ⟨vs, hd⟩ := hf
  have hx : ObjOk X.prog X.w H1 s1.heap dd (.xd fs) := I1.hok dd _ ea
  obtain ⟨mA, hns, hr⟩ := hx
  obtain ⟨od, ho, hl⟩ := lookIn_ns hns
  obtain ⟨u, hu, ru⟩ := RelO.some_of (v := v) (o := mA f) (by rw [← l]; exact hr f)
  have J : PySem.W.InstAt s1.heap a oe C (some od) := ⟨ha, hz.1, by unfold PySem.W.notCls; rw [hd] <;> rfl, by rw [hz.2]; exact ho⟩
  exact HandSPX.exc_get I1.kIn J T.hg T.hk T.hs (PySem.W.findObj_own T.hd hno rfl (by rw [hl, hu])) (handed_of ru) ⟨v, H1, I1.tok _, ru, q⟩
/-! ### isinstance of the error that a suite holds -/
def isOne (K : PySem.W.Frag) (D : Addr) (c : V) (b : Bool) : Prop := ∃ cv, (∀ u, RelV c u → u = cv) ∧ PySem.W.kitOne K (.ref D) cv = some b
def rIsX (K : PySem.W.Frag) (a : Addr) (cls : Value) (d : Option Addr) : List V → Hp → VK → Prop := fun xs H Q => ∃ (D : Addr) (c : V) (b : Bool), xs = [.ref a, c] ∧ cls = .ref D ∧ ExcC K D ∧
  (d = none ∨ ∃ dd fs, d = some dd ∧ H dd = some (.xd fs)) ∧
  (isOne K D c b ∨ ∃ tp vs, ∃ cvs : List Value, c = .ref tp ∧ SqT K H tp vs ∧ (∀ us, Vals vs us → us = cvs) ∧ PySem.W.kitAny K (.ref D) cvs = some b) ∧ Q (.bl b) H
theorem call_isX {X : Cx} {a : Addr} {oe : Obj} {cls : Value} {d : Option Addr} {pn : List (Addr × Obj)} (hz : Zc cls d oe) (hf : ∃ vs, oe.data = .fields vs) : CallR (X.suite a ((a, oe) :: pn)) (.builtin "isinstance") (rIsX X.K a cls d) := by
  intro pins s σ H xs us Q I r h
  obtain ⟨D, c, b, rfl, rfl, C, hd, hc, q⟩ := h
  cases r with
  | cons rx rr =>
    cases rr with
    | cons rt rr =>
      cases rr
      cases rx
      obtain ⟨hget, _⟩ := I.pin (a, oe) (List.mem_append.mpr (.inl List.mem_cons_self))
      obtain ⟨vs, hv⟩ := hf
      have J : ∃ od, PySem.W.InstAt s.heap a oe D od := by
        rcases hd with rfl | ⟨dd, fs, rfl, hx⟩
        · obtain ⟨oc, od, oda, osl⟩ := oe
          obtain ⟨h1, h2⟩ := hz
          dsimp only at h1 h2 hv
          subst h1 h2 hv
          exact ⟨none, hget, rfl, rfl, trivial⟩
        · have hx' := I.hok dd _ hx
          obtain ⟨mA, hns, hr⟩ := hx'
          obtain ⟨od, ho, hl⟩ := lookIn_ns hns
          exact ⟨some od, hget, hz.1, by unfold PySem.W.notCls; rw [hv] <;> rfl, by rw [hz.2]; exact ho⟩
      obtain ⟨od, J⟩ := J
      have Z := PySem.W.kitx_exc (K := X.K) (x := a) (ox := oe) (od := od) (C := D) (by obtain ⟨cd, hc, _⟩ := PySem.W.any_some C.hd; rw [hc]; rfl) C.hg C.hk C.hs C.ha C.hn C.ht C.hm
      rcases hc with ⟨cv, hcv, e⟩ | ⟨tp, ts, cvs, rfl, hq, hcs, e⟩
      · have ec := hcv _ rt
        subst ec
        exact PySem.W.kia_one Z I.kIn J e (fun z => nomatch z) fun tk => ⟨.bl b, H, I.kept (t' := tk) fun _ _ z => z, rfl, q⟩
      · cases rt
        obtain ⟨its, rv, ⟨o, ho, hc, n, hd'⟩, _⟩ := I.tuple hq
        have ec := hcs _ rv
        subst ec
        obtain ⟨oc, od', oda, osl⟩ := o
        dsimp only at hc hd'
        subst hc hd'
        exact PySem.W.kia_tup Z I.kIn J ho e (fun z => nomatch z) fun tk => ⟨.bl b, H, I.kept (t' := tk) fun _ _ z => z, rfl, q⟩
section
variable {K : PySem.W.Frag} {H : Hp} {F : List (V × D)} {M : List ME} {Q : VK} {v : V} {a C D : Addr} {b : Bool}
theorem isOne_ref (h : PySem.W.kitOne K (.ref D) (.ref C) = some b) : isOne K D (.ref C) b := ⟨.ref C, fun u r => r, h⟩
theorem isOne_ty {n : String} (h : PySem.W.kitOne K (.ref D) (.type n) = some b) : isOne K D (.ty n) b := ⟨.type n, fun u r => r, h⟩
theorem n_isX {c : V} (C : ExcC K D) (h : isOne K D c b) (q : Q (.bl b) H) : rIsX K a (.ref D) none [.ref a, c] H Q := ⟨D, c, b, rfl, rfl, C, .inl rfl, .inl h, q⟩
theorem n_isXd {c : V} {dd : Addr} {fs : List (Str × V)} (C : ExcC K D) (hd : H dd = some (.xd fs)) (h : isOne K D c b) (q : Q (.bl b) H) : rIsX K a (.ref D) (some dd) [.ref a, c] H Q := ⟨D, c, b, rfl, rfl, C, .inr ⟨dd, fs, rfl, hd⟩, .inl h, q⟩
theorem isA_refs {I : Hp} : ∀ {cs : List Addr} {vs : List V}, IsA I vs (cs.map Fs.D.ref) → vs = cs.map V.ref
  | [], _, h => by cases h; rfl
  | c :: cs, _, h => by
    cases h with
    | cons h1 h2 =>
      cases h1
      rw [isA_refs h2]
      rfl
theorem vals_refs : ∀ {cs : List Addr} {us : List Value}, Vals (cs.map V.ref) us → us = cs.map Value.ref
  | [], _, h => by cases h; rfl
  | c :: cs, _, h => by
    cases h with
    | cons h1 h2 =>
      have e : _ = Value.ref c := h1
      rw [vals_refs h2, e]
      rfl
theorem n_isXT {cs : List Addr} (w : Wf F H M) (ht : Rk F M v (.tup (cs.map Fs.D.ref))) (C : ExcC K D) (h : PySem.W.kitAny K (.ref D) (cs.map Value.ref) = some b) (q : Q (.bl b) H) : rIsX K a (.ref D) none [.ref a, v] H Q := by
  obtain ⟨I, Mc, w, ac, hF⟩ := w.ex
  obtain ⟨p, vs, rfl, hp, ha⟩ := ht.tup w ac hF
  have e := isA_refs ha
  subst e
  exact ⟨D, .ref p, b, rfl, rfl, C, .inl rfl, .inr ⟨p, _, _, rfl, .inl (.inl hp), fun us h => vals_refs h, h⟩, q⟩
theorem s_isXT {I : Hp} {M : List (Addr × HO)} {cs : List Addr} (w : W I H M) (ht : Is I v (.tup (cs.map Fs.D.ref))) (C : ExcC K D) (h : PySem.W.kitAny K (.ref D) (cs.map Value.ref) = some b) (q : Q (.bl b) H) : rIsX K a (.ref D) none [.ref a, v] H Q := by
  obtain ⟨p, vs, rfl, hp, ha⟩ := ht.tup_ex
  have e := isA_refs ha
  subst e
  exact ⟨D, .ref p, b, rfl, rfl, C, .inl rfl, .inr ⟨p, _, _, rfl, .inl (.inl (w.imm _ _ hp)), fun us h => vals_refs h, h⟩, q⟩
theorem isA_ofRefs {I : Hp} : ∀ (cs : List Addr), IsA I (cs.map V.ref) (cs.map Fs.D.ref)
  | [] => .nil
  | c :: cs => .cons (.ref c) (isA_ofRefs cs)
theorem kitAny_no {t : Value} : ∀ {cs : List Value}, (∀ c ∈ cs, PySem.W.kitOne K t c = some false) → PySem.W.kitAny K t cs = some false
  | [], _ => rfl
  | c :: cs, h => by
    unfold PySem.W.kitAny
    rw [h c List.mem_cons_self]
    exact kitAny_no fun d hd => h d (List.mem_cons_of_mem _ hd)
end
/-! facts of the classes -/
theorem kit_sub {K : PySem.W.Frag} {C D : Addr} (ic : PySem.W.isClsIn K C = true) (et : PySem.W.typeIn K (.ref C) = some (.type "type")) (sD : PySem.W.subIn K (.ref D) (.ref D) = some true) {b : Bool} (h : PySem.W.subIn K (.ref D) (.ref C) = some b) : PySem.W.kitOne K (.ref D) (.ref C) = some b := by
  have e2 : ((PySem.W.clsIn K C).isSome && PySem.W.typeIn K (.ref C) == some (.type "type")) = true := by
    have h2' : (PySem.W.clsIn K C).isSome = true := ic
    rw [h2', et] <;> rfl
  show (if (Value.ref D == Value.ref C) = true then some true else PySem.W.kitCls K (.ref D) (.ref C)) = some b
  by_cases q : D = C
  · subst q
    rw [if_pos (beq_self_eq_true _), ← h, sD]
  · rw [if_neg (fun z => q (Value.ref.inj (beq_iff_eq.mp z)))]
    show (if ((PySem.W.clsIn K C).isSome && PySem.W.typeIn K (.ref C) == some (.type "type")) = true then PySem.W.subIn K (.ref D) (.ref C) else none) = some b
    rw [if_pos e2]
    exact h
theorem kit_subT {K : PySem.W.Frag} {D : Addr} {n : String} (hk : PySem.W.kitMeta n = true) {b : Bool} (h : PySem.W.subIn K (.ref D) (.type n) = some b) : PySem.W.kitOne K (.ref D) (.type n) = some b := by
  have e : ¬ (Value.ref D == Value.type n) = true := fun h => by cases (beq_iff_eq.mp h)
  show (if (Value.ref D == Value.type n) = true then some true else PySem.W.kitCls K (.ref D) (.type n)) = some b
  rw [if_neg e]
  show (if PySem.W.kitMeta n = true then PySem.W.subIn K (.ref D) (.type n) else none) = some b
  rw [if_pos hk]
  exact h
theorem exm_sub {K : PySem.W.Frag} {C D : Addr} (ic : PySem.W.isClsIn K C = true) (et : PySem.W.typeIn K (.ref C) = some (.type "type")) (eb : PySem.W.subIn K (.ref C) (.type "BaseException") = some true) {b : Bool} (h : PySem.W.subIn K (.ref D) (.ref C) = some b) : PySem.W.exmOne K (.ref D) (.ref C) = some b := by
  have e2 : ((PySem.W.clsIn K C).isSome && PySem.W.typeIn K (.ref C) == some (.type "type")) = true := by
    have h2' : (PySem.W.clsIn K C).isSome = true := ic
    rw [h2', et] <;> rfl
  have e1 : (PySem.W.subIn K (.ref C) (.type "BaseException") == some true) = true := by rw [eb] <;> rfl
  show (if (PySem.W.subIn K (.ref C) (.type "BaseException") == some true) = true then (if ((PySem.W.clsIn K C).isSome && PySem.W.typeIn K (.ref C) == some (.type "type")) = true then PySem.W.subIn K (.ref D) (.ref C) else none) else none) = some b
  rw [if_pos e1, if_pos e2]
  exact h
/-! ### what lies on the heap as it is; lists of truths -/
section
variable {K : PySem.W.Frag} {H : Hp} {F : List (V × D)} {M : List ME} {Q : VK} {x y : V} {p : Addr} {o : HO}
theorem Wf.newRaw (w : Wf F H M) (hd : H p = none) (hn : ∀ vs, o ≠ .tup vs := by intro _ e; cases e) : Wf F (upd H p o) (.raw p o :: M) := by
  obtain ⟨I, Mc, w, ac, hF⟩ := w.ex
  exact ⟨I, (p, o) :: Mc, w.newM hd, .cons (.raw hn) ac, hF⟩
theorem Wf.rawAt (w : Wf F H M) (h : .raw p o ∈ M) : H p = some o := by
  obtain ⟨I, Mc, w, ac, hF⟩ := w.ex
  obtain ⟨m, hm, c⟩ := ac.mem h
  cases c
  exact (w.mu _ hm).1
theorem isA_bools {I : Hp} : ∀ {bs : List Bool} {vs : List V}, IsA I vs (bs.map D.bl) → vs = bs.map V.bl
  | [], _, h => by cases h; rfl
  | c :: cs, _, h => by
    cases h with
    | cons h1 h2 =>
      cases h1
      rw [isA_bools h2]
      rfl
theorem dp_bools {K : PySem.W.Frag} : ∀ (bs : List Bool), DpAll K H (bs.map V.bl) (D.pds (bs.map D.bl))
  | [] => .nil
  | b :: bs => .cons (.bl b) (dp_bools bs)
theorem sh_bools (bs : List Bool) : SeqAt.shaped (D.pd (.lst (bs.map D.bl))) = true := by
  obtain ⟨h1, h2⟩ := pds_can (ds := bs.map D.bl) (k := 1) fun d hd => by
    obtain ⟨b, _, rfl⟩ := List.mem_map.mp hd
    exact ⟨by simp [D.pd, PyData.canLay0], by simp [D.pd, PyData.depth]⟩
  unfold SeqAt.shaped
  rw [show (D.pd (.lst (bs.map D.bl))).canLay0 = true by simp [D.pd, PyData.canLay0, h1], decide_eq_true (by simp only [D.pd, PyData.depth]; omega)]
  rfl
theorem eqv_bools (bs cs : List Bool) : PyData.eqv (D.pd (.lst (bs.map D.bl))) (D.pd (.lst (cs.map D.bl))) = true ↔ bs = cs := by
  simp only [D.pd, PyData.eqv]
  rw [pds_eqv (P := fun e => ∃ b, e = D.bl b)]
  · constructor
    · exact fun h => (List.map_inj_right (fun a b e => by injection e)).mp h
    · exact fun h => by rw [h]
  · intro d hd e he
    obtain ⟨b, _, rfl⟩ := List.mem_map.mp hd
    obtain ⟨c, rfl⟩ := he
    simp [D.pd, PyData.eqv]
  · intro e he
    obtain ⟨c, _, rfl⟩ := List.mem_map.mp he
    exact ⟨c, rfl⟩
theorem Wf.bools {bs : List Bool} (w : Wf F H M) (h : Rk F M x (.lst (bs.map D.bl))) : Dp K H x (D.pd (.lst (bs.map D.bl))) := by
  obtain ⟨I, Mc, w, ac, hF⟩ := w.ex
  obtain ⟨p, vs, rfl, hp, ha⟩ := h.lst w ac hF
  have e := isA_bools ha
  subst e
  exact .lst (.inl (.inl hp)) (dp_bools bs)
theorem n_neB {bs cs : List Bool} (w : Wf F H M) (hx : Rk F M x (.lst (bs.map D.bl))) (hy : Rk F M y (.lst (cs.map D.bl))) (q : Q (.bl (!decide (bs = cs))) H) : rNeU K x y H Q :=
  .inr ⟨_, _, w.bools hx, w.bools hy, sh_bools bs, sh_bools cs, by
    have h2 : PyData.eqv (D.pd (.lst (bs.map D.bl))) (D.pd (.lst (cs.map D.bl))) = decide (bs = cs) := by rw [Bool.eq_iff_iff, eqv_bools, decide_eq_true_iff]
    rw [h2]; exact q⟩
end
end Fs

namespace Fs
open PySem PySem.Spec PyProof.Rows L2
/-! ### a class whose __init__ may raise -/
structure MakX (P : Program) (w : World) (K : PySem.W.Frag) (mg : Str → Option Value) (base : Heap) (x : Str) (C : Addr) (k : Nat) (ps : List Str) (dvs : List V) (sp : Sp) : Prop where
  ex : ∃ (f : Addr) (fd : FuncData) (ds : List Value), Mk K C f ∧ FnOk P w K mg base (L2.CX P w) k f fd ps sp ∧ mg x = some (.ref C) ∧ Binds K fd ps ds ∧ Vals dvs ds
def MakeXQ (C : Addr) (sp : Sp) (E : XK) (Q : VK) (vs : List V) (H1 : Hp) : Prop := ∀ o d, H1 o = none → H1 d = none → d ≠ o → sp (.ref o :: vs) (upd (upd H1 d (.own o)) o (.ins C d [])) (fun v H2 => v = .non ∧ Q (.ref o) H2) E
def tMakeX (C : Addr) (sp : Sp) (dvs : List V) (W : WX) (t : TA) : TE := fun σ H Q => t σ H fun vs H1 => MakeXQ C sp (WE W σ) Q (vs ++ dvs) H1
theorem s_makeX {C : Addr} {sp : Sp} {dvs : List V} {W : WX} {t : TA} {σ : L2.St} {H : Hp} {Q : VK} (h : t σ H fun vs H1 => MakeXQ C sp (WE W σ) Q (vs ++ dvs) H1) : tMakeX C sp dvs W t σ H Q := h
section
variable {X : Cx} {x : Str} {C : Addr} {p pos : Pos} {e : Expr} {es : List Expr} {t : TA} {k : Nat} {ps : List Str} {dvs : List V} {sp : Sp} {W : WX}
theorem run_makeX {pins : List (Addr × Obj)} {σ : L2.St} {H : Hp} {s : Shared} {Q : VK} {us ds : List Value} {vs : List V} {f : Addr} {fd : FuncData} (m : Mk X.K C f) (ok : FnOk X.prog X.w X.K X.mg X.base (L2.CX X.prog X.w) k f fd ps sp) (room : Room (k + 1) X.A)
    (bd : Binds X.K fd ps ds) (dv : Vals dvs ds) (tk : Takes X W) (J : Inv X pins σ H s) (rv : Vals vs us) (q : MakeXQ C sp (WE W σ) Q (vs ++ dvs) H) : wpAny (model X.prog X.w) X.A (call (.ref C) us) (EP X pins σ Q) X.xe s := by
  have q0 := q (s.heap.objs.size + 1) s.heap.objs.size (J.hok.fresh (Nat.le_succ _)) (J.hok.fresh (Nat.le_refl _)) (Nat.ne_of_lt (Nat.lt_succ_self _))
  have J2 := Inv.made (C := C) J
  have rr : Vals (V.ref (s.heap.objs.size + 1) :: (vs ++ dvs)) (Value.ref (s.heap.objs.size + 1) :: (us ++ ds)) := .cons rfl (rv.append dv)
  have hlen : (Value.ref (s.heap.objs.size + 1) :: us ++ ds).length = ps.length := rr.length.symm.trans (ok.len _ _ _ _ q0)
  have run := ok.run (X.A.under (.builtin "type.__call__" ⟨.ref C :: us, []⟩)) X.stack _ _ ⟨Value.ref (s.heap.objs.size + 1) :: us, []⟩ _ _ _ _ (room.make C us []) (J2.env0.make C us []) (bd _ (Value.ref (s.heap.objs.size + 1) :: us) J2.kIn hlen) rr q0
  refine wpAny_call (make_map (f := f) J.kIn m.makes m.init (beq_iff_eq.mp m.fn) (codeAny_mono run fun r s' z => ?_))
  match r, z with
  | .error er, z => exact tk er s' (XE.of_call J2 (fun _ _ _ y => y) z)
  | .ok (.ret u), z =>
    obtain ⟨v, H', J3, r3, e3, q3⟩ := J2.after z
    subst e3
    exact ⟨r3, ⟨V.ref (s.heap.objs.size + 1), H', J3, rfl, q3⟩⟩
  | .ok .next, z => exact z.elim
  | .ok .brk, z => exact z.elim
  | .ok .cont, z => exact z.elim
theorem pe_mkX (c : MakX X.prog X.w X.K X.mg X.base x C k ps dvs sp) (hr : Room (k + 1) X.A) (hg : Gl X x) (tk : Takes X W) (ha : PA X (e :: es) t) (hdb : (x == ("__debug__" : Str)) = false := by decide)
    (he : starEach (e :: es) X.env = (false, eval e X.env) :: starEach es X.env := by rfl) (hpl : (backTo pos (starEach es X.env)).any (·.1) = false := by rfl) : PE X (.Call (.Name x p) (e :: es) [] pos) (tMakeX C sp dvs W t) := by
  obtain ⟨f, fd, ds, m, ok, g, bd, dv⟩ := c.ex
  exact ⟨fun pins s σ H Q J h => wpAny_Call_Name_kw (ld_glob J hg g (PySem.W.callWith_K (h₀ := X.base) J.ok.mod.kin m.kp (thn (ha.run pos pins s σ H _ J h) fun us s1 ⟨vs, H1, J1, rv, q⟩ => ⟨J1.kIn, run_makeX m ok hr bd dv tk J1 rv q⟩) he hpl) hdb)⟩
end
section
variable {K : PySem.W.Frag} {H : Hp} {F : List (V × D)} {M M' : List ME} {Q : VK} {v : V} {p C : Addr} {d : D} {vs : List V} {sp : Sp} {E : XK}
/-- the new instance, its dict aside -/
theorem n_makeX (w : Wf F H M) (q : ∀ o H', Wf F H' (.mi o C [] :: M) → sp (.ref o :: vs) H' (fun v H2 => v = .non ∧ Q (.ref o) H2) E) : MakeXQ C sp E Q vs H := fun o dx ho hd ne => by
  obtain ⟨I, Mc, w, ac, hF⟩ := w.ex
  have w1 : W I (upd H dx (.own o)) Mc := w.more (same_new hd)
  have h1 : upd H dx (.own o) o = none := by rw [upd_ne ne.symm]; exact ho
  exact q o _ ⟨I, (o, .ins C dx []) :: Mc, w1.newM h1, .cons (.mi .nil) ac, hF⟩
theorem n_isXTd {a D dd : Addr} {b : Bool} {fs : List (Str × V)} {cs : List Addr} (w : Wf F H M) (ht : Rk F M v (.tup (cs.map Fs.D.ref))) (C : ExcC K D) (hd : H dd = some (.xd fs)) (h : PySem.W.kitAny K (.ref D) (cs.map Value.ref) = some b) (q : Q (.bl b) H) : rIsX K a (.ref D) (some dd) [.ref a, v] H Q := by
  obtain ⟨I, Mc, w, ac, hF⟩ := w.ex
  obtain ⟨p, vs, rfl, hp, ha⟩ := ht.tup w ac hF
  have e := isA_refs ha
  subst e
  exact ⟨D, .ref p, b, rfl, rfl, C, .inr ⟨dd, fs, rfl, hd⟩, .inr ⟨p, _, _, rfl, .inl (.inl hp), fun us h => vals_refs h, h⟩, q⟩
theorem knA_refs {F : List (V × Fs.D)} : ∀ (cs : List Addr), KnA F (cs.map V.ref) (cs.map Fs.D.ref)
  | [] => .nil
  | c :: cs => .cons (.ref c) (knA_refs cs)
theorem Wf.frzK {kvs : List (Key × D)} (w : Wf F H M) (r : Rem M (.dk p kvs) M') : Wf ((.ref p, .dict) :: F) H M' := by
  obtain ⟨I, Mc, w, a, hF⟩ := w.ex
  obtain ⟨M1, m, M2, rfl, h1, h2⟩ := a.rem r
  cases h1 with
  | dk b =>
    refine ⟨_, _, w.frz, h2.mono w.frzS, fun f hf => ?_⟩
    rcases List.mem_cons.mp hf with rfl | hf
    · exact .dct upd_same
    · exact (hF f hf).mono w.frzS
end
theorem putD_new {f : Str} {d : D} : ∀ {fs : List (Str × D)}, f ∉ fs.map (·.1) → putD f d fs = fs ++ [(f, d)]
  | [], _ => rfl
  | (g, x) :: r, h => by
    have e1 : ¬ g = f := fun e => h (by rw [e]; exact List.mem_cons_self)
    have e2 : f ∉ r.map (·.1) := fun e => h (List.mem_cons_of_mem _ e)
    unfold putD
    rw [if_neg e1, putD_new e2]
    rfl
/-! ### == of two lists of the same values, of two empty dicts -/
def plainV : V → Bool
  | .non => true | .bl _ => true | .int _ => true | .str _ => true | .ref _ => true
  | _ => false
theorem eqAt_id {A : Around} {s : Shared} {v : V} {u u' : Value} (r : RelV v u) (r' : RelV v u') (f : plainV v = true) : SeqAt.EqAt A s u u' true := by
  cases v with
  | ref a =>
    cases (show u = Value.ref a from r)
    cases (show u' = Value.ref a from r')
    exact SeqAt.EqAt.same _
  | non => exact eqAt_same r r' rfl
  | bl b => exact eqAt_same r r' rfl
  | int i => exact eqAt_same r r' rfl
  | str x => exact eqAt_same r r' rfl
  | _ => cases f
def rEqId (K : PySem.W.Frag) : R2 := fun x y H Q => ∃ a b xs, x = .ref a ∧ y = .ref b ∧ SqL K H a xs ∧ SqL K H b xs ∧ (∀ v ∈ xs, plainV v = true) ∧ Q (.bl true) H
def rEqU2 (K : PySem.W.Frag) : R2 := fun x y H Q => rEqU K x y H Q ∨ (rEqId K x y H Q ∨ rEqDA x y H Q)
section
variable {X : Cx}
theorem op_eqId (hu : X.A.units + 64 < cLine) : OpR X (compareOp .Eq) (rEqId X.K) := by
  intro pins s σ H x y v u Q I rx ry h
  obtain ⟨a, b, xs, rfl, rfl, ha, hb, hf, q⟩ := h
  obtain rfl : v = Value.ref a := rx
  obtain rfl : u = Value.ref b := ry
  obtain ⟨it, ra, ⟨o, n, ho, hc, _, hd⟩, _⟩ := I.list ha
  obtain ⟨jt, rb, ⟨o2, n2, ho2, hc2, _, hd2⟩, _⟩ := I.list hb
  have l1 := ra.length
  have l2 := rb.length
  have hsz : it.toArray.size = jt.toArray.size := by simp; omega
  refine SeqAt.eq_listAt (e := fun _ => true) ⟨o, ho, hc, n, hd⟩ ⟨o2, ho2, hc2, n2, hd2⟩ hsz (by omega) (fun j h1 h2 => ?_) ?_
  · have hj : j < xs.length := by
      simp at h1
      omega
    have hx : xs[j]? = some xs[j] := List.getElem?_eq_getElem hj
    obtain ⟨u1, e1, r1⟩ := ra.get hx
    obtain ⟨u2, e2, r2⟩ := rb.get hx
    have q1 : it.toArray[j] = u1 := by
      have := List.getElem?_eq_some_iff.mp e1
      simpa using this.2
    have q2 : jt.toArray[j] = u2 := by
      have := List.getElem?_eq_some_iff.mp e2
      simpa using this.2
    rw [q1, q2]
    exact eqAt_id r1 r2 (hf _ (List.getElem_mem hj))
  · have e : (List.range it.toArray.size).all (fun _ => true) = true := by simp
    rw [e]
    exact ⟨.bl true, H, I, rfl, q⟩
theorem uo_eq2 (hu : X.A.units + 64 < cLine) : OpR X (compareOp .Eq) (rEqU2 X.K) := opOr (uo_eq hu) (opOr (op_eqId hu) (op_eq_dictA (by omega)))
end
theorem k_eq2 {X : Cx} {K : PySem.W.Frag} (h : X.K = K) (hu : X.A.units + 64 < cLine) : OpR X (compareOp .Eq) (rEqU2 K) := h ▸ uo_eq2 hu
/-- a thing of which there is but one value -/
def rigid : D → Option V
  | .non => some .non
  | .bl b => some (.bl b)
  | .int i => some (.int i)
  | .str x => some (.str x)
  | .ref a => some (.ref a)
  | _ => none
theorem Is.rigid {I : Hp} {v u : V} {d : D} (h : Is I v d) (e : rigid d = some u) : v = u := by
  cases h <;> first | (cases e; rfl) | cases e
theorem IsA.rigid {I : Hp} : ∀ {ds : List D} {vs us : List V}, IsA I vs ds → ds.map Fs.rigid = us.map some → vs = us
  | [], _, [], h, _ => by cases h; rfl
  | [], _, _ :: _, _, e => by cases e
  | d :: ds, _, [], _, e => by cases e
  | d :: ds, _, u :: us, h, e => by
    cases h with
    | cons h1 h2 =>
      injection e with e1 e2
      rw [h1.rigid e1, IsA.rigid h2 e2]
theorem rigid_plain {d : D} {v : V} (e : rigid d = some v) : plainV v = true := by
  cases d <;> first | (cases e; rfl) | cases e
section
variable {K : PySem.W.Frag} {H : Hp} {F : List (V × D)} {M : List ME} {Q : VK} {x y : V} {ds : List D}
theorem n_eqId (w : Wf F H M) (hx : Rk F M x (.lst ds)) (hy : Rk F M y (.lst ds)) (hr : ∀ d ∈ ds, ∃ v, rigid d = some v) (q : Q (.bl true) H) : rEqU2 K x y H Q := by
  obtain ⟨I, Mc, w, a, hF⟩ := w.ex
  obtain ⟨p, vs, rfl, hp, h1⟩ := hx.lst w a hF
  obtain ⟨p', vs', rfl, hp', h2⟩ := hy.lst w a hF
  have ex : ∃ us : List V, ds.map rigid = us.map some := by
    clear hx hy h1 h2
    induction ds with
    | nil => exact ⟨[], rfl⟩
    | cons d ds ih =>
      obtain ⟨us, e⟩ := ih fun d hd => hr d (List.mem_cons_of_mem _ hd)
      obtain ⟨v, ev⟩ := hr d List.mem_cons_self
      exact ⟨v :: us, by rw [List.map_cons, List.map_cons, e, ev]⟩
  obtain ⟨us, e⟩ := ex
  have e1 := h1.rigid e
  have e2 := h2.rigid e
  subst e1
  subst e2
  refine .inr (.inl ⟨p, p', _, rfl, rfl, .inl (.inl hp), .inl (.inl hp'), fun v hv => ?_, q⟩)
  have : some v ∈ ds.map rigid := by rw [e]; exact List.mem_map_of_mem hv
  obtain ⟨d, _, hd⟩ := List.mem_map.mp this
  exact rigid_plain hd
theorem n_eqDict {a : Addr} (w : Wf F H M) (h : .raw a (.dK []) ∈ M) (q : Q (.bl true) H) : rEqU2 K (.ref a) (.ref a) H Q :=
  .inr (.inr ⟨a, a, [], [], rfl, rfl, w.rawAt h, w.rawAt h, rfl, fun _ h => (nomatch h), q⟩)
theorem n_eqTD {d : D} (w : Wf F H M) (hx : Rk F M x d) (hy : Rk F M y d) (n : NB 60 d) (q : Q (.bl true) H) : rEqU2 K x y H Q := .inl (n_eqT w hx hy n q)
end
/-- a thing of a known kind: by itself, or by a fact of the dict that it is -/
def TyF (F : List (V × D)) (d : D) : Prop := Ty d ∨ ∃ a, d = .ref a ∧ (V.ref a, D.dict) ∈ F
theorem TyF.more {F : List (V × D)} {d : D} {f : V × D} (h : TyF F d) : TyF (f :: F) d := h.elim .inl fun ⟨a, e, m⟩ => .inr ⟨a, e, List.mem_cons_of_mem _ m⟩
theorem Ty.rk {F : List (V × D)} {M : List ME} {v : V} {d : D} (t : Ty d) (h : Kn F v d) : Rk F M v d := Rk.of h fun q => by
  obtain ⟨a, e⟩ := t
  rcases q with ⟨n, rfl⟩ | ⟨n, rfl⟩ <;> cases e
theorem TyF.go {F : List (V × D)} {H : Hp} {M : List ME} {v : V} {d : D} (w : Wf F H M) (h : Kn F v d) (t : TyF F d) : ∃ e, Ty e ∧ Rk F M v e ∧ e.whole = d.whole := by
  rcases t with t | ⟨a, rfl, m⟩
  · exact ⟨d, t, t.rk h, rfl⟩
  · obtain ⟨I, Mc, w, ac, hF⟩ := w.ex
    have e : v = .ref a := (h.is hF).ref_eq
    subst e
    exact ⟨.dict, ⟨_, rfl⟩, .mem m, rfl⟩
end Fs

namespace Fs
open PySem PySem.Spec PyProof.Rows L2
/-- a tuple that the written part holds -/
theorem sqT_of {K : PySem.W.Frag} {H : Hp} {a : Addr} {td : Option Addr} {its : List Value} {n : Nat} {sl : Array (Option Value)} {xs : List V} (l : K.lookup a = some ⟨.type "tuple", td, .seq its.toArray n, sl⟩) (r : Vals xs its) (hz : its.length ≤ 1000) : SqT K H a xs :=
  .inr ⟨_, _, _, l, rfl, rfl, by rw [List.size_toArray, sizeLine_eq]; omega, by simpa using r⟩
section
variable {K : PySem.W.Frag} {H : Hp} {Q : VK} {x : V} {a : Addr} {xs : List V} {b : Bool}
theorem s_inT (h : SqT K H a xs) (f : flatV x = true) (g : xs.all flatV = true) (e : inV x xs = b) (q : Q (.bl b) H) : rIn K false x (.ref a) H Q := ⟨a, xs, rfl, .inr h, f, g, by rw [e]; exact q⟩
end
section
variable {K : PySem.W.Frag} {H : Hp} {F : List (V × D)} {M : List ME} {Q : VK} {v : V} {C a : Addr} {f : Str} {fs : List (Str × D)} {L : List Str} {ds : List D} {i : Int}
theorem n_fldr (w : Wf F H M) (h : Rk F M v (.obj C fs)) (hc : Cls K C) (hn : ∀ f ∈ L, NoAttr K C f) (hf : f ∈ L) (hd : fs.lookup f = some (.ref a)) (q : Q (.ref a) H) : FldQ K f Q v H := n_fld w h hc hn hf hd fun u w => by rw [w.ref0.1]; exact q
theorem n_ixTr (w : Wf F H M) (h : Rk F M v (.tup ds)) (hd : atI ds i = some (.ref a)) (q : Q (.ref a) H) : rIx K v (.int i) H Q := n_ixT w h hd fun u w => by rw [w.ref0.1]; exact q
theorem n_ixLr (w : Wf F H M) (h : Rk F M v (.lst ds)) (hd : atI ds i = some (.ref a)) (q : Q (.ref a) H) : rIx K v (.int i) H Q := n_ixL w h hd fun u w => by rw [w.ref0.1]; exact q
end
theorem k_slT {X : Cx} {K : PySem.W.Frag} (h : X.K = K) : SlR X (rSlT K) := h ▸ sl_tup
theorem n_slT {K : PySem.W.Frag} {H : Hp} {F : List (V × D)} {M : List ME} {Q : VK} {x : V} {ds : List D} {lo hi : Option Int} (w : Wf F H M) (h : Rk F M x (.tup ds)) (hn : ¬ (HT.sIx ds.length 0 lo = 0 ∧ HT.sIx ds.length ds.length hi = ds.length)) (q : ∀ p H', Wf ((.ref p, .tup (cutD ds lo hi)) :: F) H' M → Q (.ref p) H') : rSlT K x lo hi H Q := by
  obtain ⟨I, Mc, w0, ac, hF⟩ := w.ex
  obtain ⟨p, vs, rfl, hp, ha⟩ := h.tup w0 ac hF
  refine ⟨p, vs, rfl, .inl (.inl hp), by rw [ha.length]; exact hn, fun p' hp' => q p' _ (w.newT hp' fun I1 Mc1 w1 a1 hF1 => ?_)⟩
  obtain ⟨p2, vs2, e, hp2, ha2⟩ := h.tup w1 a1 hF1
  cases e
  rw [hp] at hp2
  cases hp2
  exact ha2.cut lo hi
section
variable {K : PySem.W.Frag} {H : Hp} {F : List (V × D)} {M : List ME} {Q : VK} {r : V} {p : Addr} {l : Int} {ds : List D}
/-- a tuple of a number and a list that may be changed, as it is now -/
theorem Wf.deep2 (w : Wf F H M) (h : Rk F M r (.tup [.int l, .ref p])) (hm : ME.ml p ds ∈ M) : Is H r (.tup [.int l, .lst ds]) := by
  obtain ⟨I, Mc, w, ac, hF⟩ := w.ex
  obtain ⟨t, vs, rfl, ht, ha⟩ := h.tup w ac hF
  have hl : Is H (.ref p) (.lst ds) := (Rk.ml (F := F) hm).rd w ac hF
  cases ha with
  | cons h1 ha =>
    cases ha with
    | cons h2 ha =>
      cases ha
      cases h1
      cases h2
      exact .tup ht (.cons (.int l) (.cons hl .nil))
/-- .. and for good -/
theorem Wf.upT (w : Wf F H M) (h : Kn F r (.tup [.int l, .ref p])) (h2 : Kn F (.ref p) (.lst ds)) : Wf ((r, .tup [.int l, .lst ds]) :: F) H M := by
  obtain ⟨I, Mc, w, ac, hF⟩ := w.ex
  have e := h.is hF
  have e2 := h2.is hF
  refine ⟨I, Mc, w, ac, fun f hf => ?_⟩
  rcases List.mem_cons.mp hf with rfl | hf
  · cases e with
    | tup ht ha =>
      cases ha with
      | cons h1 ha =>
        cases ha with
        | cons h2 ha =>
          cases ha
          cases h1
          cases h2
          exact .tup ht (.cons (.int l) (.cons e2 .nil))
  · exact hF f hf
end
end Fs

namespace Fs
open PySem PySem.Spec PyProof.Rows L2
theorem k_all {X : Cx} {K : PySem.W.Frag} (h : X.K = K) (hc : X.calm = true) : CallR X (.builtin "all") (rAll K) := h ▸ cr_all hc
theorem k_any {X : Cx} {K : PySem.W.Frag} (h : X.K = K) (hc : X.calm = true) : CallR X (.builtin "any") (rAny K) := h ▸ cr_any hc
section
variable {K : PySem.W.Frag} {H : Hp} {F : List (V × D)} {M M' : List ME} {Q : VK} {v : V} {p : Addr} {ds : List D} {bs : List Bool} {b : Bool}
theorem IsA.bls {I : Hp} : ∀ {bs : List Bool} {vs : List V}, IsA I vs (bs.map D.bl) → vs = bs.map V.bl
  | [], _, .nil => rfl
  | _ :: _, _, .cons h a => by
    cases h
    rw [IsA.bls a]
    rfl
theorem n_all (w : Wf F H M) (h : Rk F M v (.lst (bs.map D.bl))) (hb : bs.all id = b) (q : Q (.bl b) H) : rAll K [v] H Q := by
  obtain ⟨I, Mc, w, a, hF⟩ := w.ex
  obtain ⟨p, vs, rfl, hp, c⟩ := h.lst w a hF
  have e := c.bls
  subst e
  exact ⟨p, bs, rfl, .inl (.inl hp), by rw [hb]; exact q⟩
theorem n_any (w : Wf F H M) (h : Rk F M v (.lst (bs.map D.bl))) (hb : bs.any id = b) (q : Q (.bl b) H) : rAny K [v] H Q := by
  obtain ⟨I, Mc, w, a, hF⟩ := w.ex
  obtain ⟨p, vs, rfl, hp, c⟩ := h.lst w a hF
  have e := c.bls
  subst e
  exact ⟨p, bs, rfl, .inl (.inl hp), by rw [hb]; exact q⟩
theorem IsA.dropLast {I : Hp} : ∀ {vs : List V} {ds : List D}, IsA I vs ds → IsA I vs.dropLast ds.dropLast
  | _, _, .nil => .nil
  | _, _, .cons _ .nil => .nil
  | _, _, .cons h (.cons h' a) => .cons h (IsA.dropLast (.cons h' a))
theorem n_pop (w : Wf F H M) (f : Foc M (.ml p ds) M' (.ml p ds.dropLast)) (hz : 0 < ds.length) (q : ∀ y H', Wf F H' M' → Q y H') : rPop (.ref p) [] H Q := by
  obtain ⟨I, Mc, w, a, hF⟩ := w.ex
  obtain ⟨M1, m, M2, rfl, h3, h4⟩ := a.foc f
  cases h3 with
  | @ml _ vs _ b =>
    have h2 : vs.length - 1 < vs.length := by have := b.length; omega
    exact ⟨p, vs, _, rfl, rfl, w.at, List.getElem?_eq_getElem h2, q _ _ ⟨I, _, w.put, h4 I _ (Same.refl _) (.ml b.dropLast), hF⟩⟩
end
end Fs

namespace Fs
open PySem PySem.Spec PyProof.Rows L2
/-! ### a method that may raise -/
structure MetX (P : Program) (w : World) (K : PySem.W.Frag) (mg : Str → Option Value) (base : Heap) (m : Str) (C : Addr) (k : Nat) (ps : List Str) (sp : Sp) : Prop where
  ex : ∃ (f : Addr) (fd : FuncData), Cls K C ∧ Meth K C m f ∧ FnOk P w K mg base (L2.CX P w) k f fd ps sp ∧ Binds K fd ps []
def tMethX (C : Addr) (m : Str) (sp : Sp) (W : WX) (ta : TE) (t : TA) : TE := fun σ H Q => ta σ H fun x H1 => MethQ C m x H1 (t σ H1 fun vs H2 => sp (x :: vs) H2 Q (WE W σ))
theorem s_methX {C : Addr} {m : Str} {sp : Sp} {W : WX} {ta : TE} {t : TA} {σ : L2.St} {H : Hp} {Q : VK} (h : ta σ H fun x H1 => MethQ C m x H1 (t σ H1 fun vs H2 => sp (x :: vs) H2 Q (WE W σ))) : tMethX C m sp W ta t σ H Q := h
section
variable {X : Cx} {m : Str} {C : Addr} {pos apos : Pos} {e o : Expr} {es : List Expr} {ta : TE} {t : TA} {k : Nat} {ps : List Str} {sp : Sp} {W : WX}
theorem pe_metX {pl : Sem Bool} (he : PE X o ta) (c : MetX X.prog X.w X.K X.mg X.base m C k ps sp) (hr : Room k X.A) (tk : Takes X W) (ha : PA X (e :: es) t)
    (hst : starEach (e :: es) X.env = (false, eval e X.env) :: starEach es X.env := by rfl) (hpl : (backTo pos (starEach es X.env)).any (·.1) = false := by rfl)
    (ht : eval (.Call (.Attribute o m apos) (e :: es) [] pos) X.env = (do
      let ov ← eval o X.env
      standAt apos.atName
      let (f, first) ← holding [ov] (getMethod ov m pl)
      callWith pos f first (backTo pos (starEach (e :: es) X.env)) (backToKw pos (keywordEach [] X.env))) := by rfl) :
    PE X (.Call (.Attribute o m apos) (e :: es) [] pos) (tMethX C m sp W ta t) := by
  obtain ⟨f, fd, cl, hm, F, hb⟩ := c.ex
  refine ⟨fun pins s σ H Q I h => ?_⟩
  refine PySem.W.methodCall_KW (pl := pl) (thn (he.run pins s σ H _ I h) fun u s1 ⟨x, H1, I1, rx, a, dx, fs, ex, ea, l, q⟩ => ?_) ht
  subst ex
  obtain rfl : u = Value.ref a := rx
  refine getmeth_ok I1 ea cl hm l ?_
  refine PySem.W.callWith_K (first := [.ref a]) (h₀ := X.base) I.ok.mod.kin hm.kp (thn (ha.run pos pins s1 σ H1 _ I1 q) fun us s2 ⟨vs, H2, I2, r, q2⟩ => ⟨I2.kIn, ?_⟩) hst hpl
  exact run_fnS (us := .ref a :: us) (vs := .ref a :: vs) F hr hb (passAt tk σ) I2 (.cons rfl r) q2
end
end Fs

namespace Fs
open PySem PySem.Spec PyProof.Rows L2
/-! ### a dict whose keys are tuples of ints, texts and None -/
def lfV : Leaf → V
  | .none => .non
  | .num i => .int i
  | .text x => .str x
def lfD : Leaf → D
  | .none => .non
  | .num i => .int i
  | .text x => .str x
theorem lfV_is {k : Leaf} {u : Value} (r : RelV (lfV k) u) : Leaf.isOf k u = true := by
  cases k with
  | none =>
    have e : u = Value.none := r
    subst e
    rfl
  | num i =>
    obtain ⟨t, e⟩ := (show ∃ t, u = Value.int i t from r)
    subst e
    exact decide_eq_true rfl
  | text x =>
    obtain ⟨t, e⟩ := (show ∃ t, u = Value.str x t from r)
    subst e
    simp [Leaf.isOf, Value.isStrOf]
theorem itemsL {P : Program} {w : World} : ∀ {ks : List Leaf} {us : List Value}, Vals (ks.map lfV) us → ItemsAre (leafKind P w) ks us
  | [], _, r => by rw [List.map_nil] at r; cases r; exact .nil
  | k :: ks, _, r => by
    rw [List.map_cons] at r
    cases r with
    | cons h t => exact .cons (lfV_is h) (itemsL t)
abbrev NE := List Leaf × Addr × V
abbrev NR (p : NE) (q : List Leaf × Addr × Value) : Prop := p.1 = q.1 ∧ p.2.1 = q.2.1 ∧ RelV p.2.2 q.2.2
def NDok (P : Program) (w : World) (a : Addr) (xs : List NE) (h : Heap) : Prop :=
  xs.length ≤ sizeLine ∧ (a == sysModules) = false ∧ ∃ ys : List (List Leaf × Addr × Value), Paired NR xs ys ∧
    ∃ o es ep, h.get? a = some o ∧ o.ExactDict ∧ o.data = .dict es ep ∧ es.toList = ys.map (entryOfKey (tupleKind (leafKind P w))) ∧ (ys.map (·.1)).Nodup
def ndO (P : Program) (w : World) (a : Addr) (xs : List NE) : HO := .ext (NDok P w a xs)
def KeysAt (H : Hp) (xs : List NE) : Prop := ∀ x ∈ xs, H x.2.1 = some (.tup (x.1.map lfV))
def getN (xs : List NE) (k : List Leaf) : Option V := (xs.find? fun x => decide (x.1 = k)).map (·.2.2)
def putN (xs : List NE) (k : List Leaf) (b : Addr) (v : V) : List NE := if (getN xs k).isSome then xs.map (fun x => if x.1 = k then (x.1, x.2.1, v) else x) else xs ++ [(k, b, v)]
theorem nr_get {xs : List NE} {ys : List (List Leaf × Addr × Value)} (r : Paired NR xs ys) (k : List Leaf) : RelO (getN xs k) ((atKey ys k).map (·.2)) := by
  induction r with
  | nil => exact True.intro
  | @cons p q ps qs h t ih =>
    obtain ⟨h1, _, h2⟩ := h
    by_cases e : p.1 = k
    · have e' : q.1 = k := h1.symm.trans e
      have b : atKey (q :: qs) k = some q.2 := by simp [atKey, List.find?_cons, e']
      have c : getN (p :: ps) k = some p.2.2 := by simp [getN, List.find?_cons, e]
      rw [c, b]; exact h2
    · have e' : ¬ q.1 = k := fun z => e (h1.trans z)
      have b : atKey (q :: qs) k = atKey qs k := by simp [atKey, List.find?_cons, e']
      have c : getN (p :: ps) k = getN ps k := by simp [getN, List.find?_cons, e]
      rw [c, b]; exact ih
theorem nr_repl {xs : List NE} {ys : List (List Leaf × Addr × Value)} (r : Paired NR xs ys) (k : List Leaf) {y : V} {u : Value} (ry : RelV y u) :
    Paired NR (xs.map fun x => if x.1 = k then (x.1, x.2.1, y) else x) (ys.map (putAt k u)) := by
  induction r with
  | nil => exact .nil
  | @cons p q ps qs h t ih =>
    rw [List.map_cons, List.map_cons]
    refine .cons ?_ ih
    obtain ⟨h1, h2, h3⟩ := h
    unfold putAt
    by_cases e : p.1 = k
    · rw [if_pos e, if_pos (h1.symm.trans e)]; exact ⟨h1, h2, ry⟩
    · rw [if_neg e, if_neg (fun z => e (h1.trans z))]; exact ⟨h1, h2, h3⟩
theorem nr_put {xs : List NE} {ys : List (List Leaf × Addr × Value)} (r : Paired NR xs ys) (k : List Leaf) (b : Addr) {y : V} {u : Value} (ry : RelV y u) : Paired NR (putN xs k b y) (storedH ys k b u) := by
  have e : (getN xs k).isSome = (atKey ys k).isSome := by rw [(nr_get r k).isSome_eq, Option.isSome_map]
  unfold putN storedH
  rw [e]
  by_cases q : (atKey ys k).isSome = true
  · rw [if_pos q, if_pos q]; exact nr_repl r k ry
  · rw [if_neg q, if_neg q]; exact Paired.snoc r ⟨rfl, rfl, ry⟩
theorem putN_len (xs : List NE) (k : List Leaf) (b : Addr) (v : V) : (putN xs k b v).length ≤ xs.length + 1 := by
  unfold putN
  split
  · rw [List.length_map]; omega
  · rw [List.length_append, List.length_singleton]; omega
section
variable {P : Program} {w : World} {H : Hp} {h : Heap} {a b : Addr} {xs : List NE}
theorem keyL_of {ks : List Leaf} (ok : HOk P w H h) (e : H a = some (.tup (ks.map lfV))) : (tupleKind (leafKind P w)).is h ks a := by
  obtain ⟨_, its, r, o, h1, h2, n, h3⟩ := (show ObjOk P w H h a (.tup (ks.map lfV)) from ok a _ e)
  exact ⟨o, its.toArray, n, h1, h2, h3, by simpa using itemsL r⟩
theorem nd_rd (ok : HOk P w H h) (e : H a = some (ndO P w a xs)) (hk : KeysAt H xs) : xs.length ≤ sizeLine ∧ (a == sysModules) = false ∧ ∃ ys, Paired NR xs ys ∧ h.DictOfH (tupleKind (leafKind P w)) a ys := by
  obtain ⟨⟨z, y, ys, r, o, es, ep, h1, h2, h3, h4, h5⟩, _⟩ := (show ObjOk P w H h a (.ext (NDok P w a xs)) from ok a _ e)
  refine ⟨z, y, ys, r, o, es, ep, h1, h2, h3, h4, fun x hx => ?_, h5⟩
  have all : ∀ {l : List NE} {m : List (List Leaf × Addr × Value)}, Paired NR l m → (∀ x ∈ l, H x.2.1 = some (.tup (x.1.map lfV))) → ∀ x ∈ m, (tupleKind (leafKind P w)).is h x.1 x.2.1 := by
    intro l m q
    induction q with
    | nil => intro _ x hx; exact nomatch hx
    | @cons p q ps qs hq t ih =>
      intro hh x hx
      rcases List.mem_cons.mp hx with e | hx
      · subst e
        have := hh p List.mem_cons_self
        rw [hq.1, hq.2.1] at this
        exact keyL_of ok this
      · exact ih (fun x hx => hh x (List.mem_cons_of_mem _ hx)) x hx
  exact all r hk x hx
theorem nd_new {H' : Hp} {h' : Heap} {ys : List (List Leaf × Addr × Value)} (z : xs.length ≤ sizeLine) (y : (a == sysModules) = false) (r : Paired NR xs ys) (dd : h'.DictOfH (tupleKind (leafKind P w)) a ys) : ObjOk P w H' h' a (ndO P w a xs) := by
  obtain ⟨o, es, ep, h1, h2, h3, h4, _, h5⟩ := dd
  refine ⟨⟨z, y, ys, r, o, es, ep, h1, h2, h3, h4, h5⟩, ⟨o, h1⟩, fun g1 g2 hg hs => ?_⟩
  obtain ⟨z, y, ys, r, o, es, ep, h1, h2⟩ := hg
  exact ⟨z, y, ys, r, o, es, ep, hs o h1, h2⟩
end
/-- what the dict at a holds at y -/
def NGet (P : Program) (w : World) (H : Hp) (a : Addr) (y : V) (r : Option V) : Prop := ∃ xs k b, H a = some (ndO P w a xs) ∧ KeysAt H xs ∧ y = .ref b ∧ H b = some (.tup (k.map lfV)) ∧ r = getN xs k
def NPut (P : Program) (w : World) (H : Hp) (a : Addr) (y v : V) (H' : Hp) : Prop := ∃ xs k b, H a = some (ndO P w a xs) ∧ KeysAt H xs ∧ y = .ref b ∧ H b = some (.tup (k.map lfV)) ∧ xs.length < sizeLine ∧ H' = upd H a (ndO P w a (putN xs k b v))
def NGetQ (P : Program) (w : World) (Q : VK) (x y : V) (H : Hp) : Prop := ∃ a v, x = .ref a ∧ NGet P w H a y (some v) ∧ Q v H
def NInQ (P : Program) (w : World) (R : Bool → Prop) (x y : V) (H : Hp) : Prop := ∃ a o, x = .ref a ∧ NGet P w H a y o ∧ R o.isSome
def NPutQ (P : Program) (w : World) (R : Hp → Prop) (x y v : V) (H : Hp) : Prop := ∃ a H4, x = .ref a ∧ NPut P w H a y v H4 ∧ R H4
def tNGet (P : Program) (w : World) (td ty : TE) : TE := fun σ H Q => td σ H fun x H1 => ty σ H1 fun y H2 => NGetQ P w Q x y H2
def tNNotIn (P : Program) (w : World) (ty td : TE) : TE := fun σ H Q => ty σ H fun y H1 => td σ H1 fun x H2 => NInQ P w (fun b => Q (.bl (!b)) H2) x y H2
def sNPut (P : Program) (w : World) (td ty tv : TE) : TS := fun D σ H => tv σ H fun v H1 => td σ H1 fun x H2 => ty σ H2 fun y H3 => NPutQ P w (fun H4 => D.nx σ H4) x y v H3
def tNNew (P : Program) (w : World) : TE := fun _ H Q => ∀ p, H p = none → Q (.ref p) (upd H p (ndO P w p []))
section
variable {X : Cx} {o i value : Expr} {pos pos' : Pos} {td ty tv : TE} {P : Program} {w : World}
theorem pe_nget (hP : X.prog = P) (hw : X.w = w) (hu : X.A.units + 1 < cLine) (ho : PE X o td) (hi : PE X i ty) (hs : NoSl i) : PE X (.Subscript o i pos) (tNGet P w td ty) := by
  subst hP hw
  refine ⟨fun pins s σ H Q I h => ?_⟩
  refine subD_of PySem.F.slot_dict_getitem.lookup hs (thn (ho.run pins s σ H _ I h) fun u s1 ⟨x, H1, I1, rx, q1⟩ => thn (hi.run pins s1 σ H1 _ I1 q1) fun iv s2 ⟨y, H2, I2, ry, a, v, ex, g, q2⟩ => ?_)
  subst ex
  obtain rfl : u = Value.ref a := rx
  obtain ⟨xs, k, b, e, hk, ey, eb, l⟩ := g
  subst ey
  obtain rfl : iv = Value.ref b := ry
  obtain ⟨z, hd, ys, rel, dd⟩ := nd_rd I2.hok e hk
  refine ⟨dd.typeIs, ?_⟩
  obtain ⟨w', hw, rw'⟩ := RelO.some_of (v := v) (o := (atKey ys k).map (·.2)) (by rw [l]; exact nr_get rel k)
  obtain ⟨p, hp, hp2⟩ := Option.map_eq_some_iff.mp hw
  refine wpAny_getItem_heap (tupleKind_room_in1 hu) (keyL_of I2.hok eb) dd hp ?_
  rw [hp2]
  exact ⟨v, H2, I2.tok _, rw', q2⟩
theorem pc_nnotin (hP : X.prog = P) (hw : X.w = w) (hu : X.A.units + 1 < cLine) (hi : PE X i ty) (ho : PE X o td) : PC X .NotIn i o (tNNotIn P w ty td) := by
  subst hP hw
  refine ⟨fun pins s σ H Q I h => ?_⟩
  refine thn (hi.run pins s σ H _ I h) fun iv s1 ⟨y, H1, I1, ry, q1⟩ => thn (ho.run pins s1 σ H1 _ I1 q1) fun u s2 ⟨x, H2, I2, rx, a, ov, ex, g, q2⟩ => ?_
  subst ex
  obtain rfl : u = Value.ref a := rx
  obtain ⟨xs, k, b, e, hk, ey, eb, l⟩ := g
  subst ey
  obtain rfl : iv = Value.ref b := ry
  obtain ⟨z, hd, ys, rel, dd⟩ := nd_rd I2.hok e hk
  refine wpAny_notIn_heap (tupleKind_room_in1 hu) (keyL_of I2.hok eb) hd dd ?_
  have q := (nr_get rel k).isSome_eq
  rw [Option.isSome_map] at q
  rw [← q, ← l]
  exact ⟨.bl (!ov.isSome), H2, I2.tok _, rfl, q2⟩
theorem ps_nput (hP : X.prog = P) (hw : X.w = w) (hu : X.A.units + 1 < cLine) (ho : PE X o td) (hi : PE X i ty) (hv : PE X value tv) (hs : swapsWith value (some (.Subscript o i pos')) pos.line X.env = pure false) :
    PS X (.Assign [.Subscript o i pos'] value pos) (sNPut P w td ty tv) := by
  subst hP hw
  refine ⟨fun pins s σ H D I h => ?_⟩
  refine wpAny_Assign_Subscript (thn (hv.run pins s σ H _ I h) fun r s1 ⟨v, H1, I1, rv, q1⟩ => thn (ho.run pins s1 σ H1 _ I1 q1) fun u s2 ⟨x, H2, I2, rx, q2⟩ => thn (hi.run pins s2 σ H2 _ I2 q2) fun iv s3 ⟨y, H3, I3, ry, a, H4, ex, g, q3⟩ => ?_) hs
  subst ex
  obtain rfl : u = Value.ref a := rx
  obtain ⟨xs, k, b, e, hk, ey, eb, hl, rfl⟩ := g
  subst ey
  obtain rfl : iv = Value.ref b := ry
  obtain ⟨z, hd, ys, rel, dd⟩ := nd_rd I3.hok e hk
  have hz : ys.length ≤ sizeLine := by rw [← Paired.length rel]; exact z
  have hl2 : (putN xs k b v).length ≤ sizeLine := by have := putN_len xs k b v; omega
  refine wpAny_setItem_heap (hsz := hz) (tupleKind_room_in1 hu) (keyL_of I3.hok eb) dd fun h' dd' hs => ⟨σ, _, ?_, q3⟩
  have he : ∃ q, h'.get? a = some q := let ⟨q, _, _, hq, _⟩ := dd'; ⟨q, hq⟩
  exact d_write I3 (by rw [e]; exact True.intro) hs he (nd_new hl2 hd (nr_put rel k b rv) dd')
theorem pe_nnew (hP : X.prog = P) (hw : X.w = w) : PE X (.Dict [] [] pos) (tNNew P w) := by
  subst hP hw
  exact ⟨fun pins s σ H Q I h =>
    wpAny_Dict_empty ⟨.ref s.heap.objs.size, _, I.laid (a := s.heap.objs.size) (o := ndO X.prog X.w s.heap.objs.size []) (t' := s.toks) (fun _ _ q => Heap.get?_push_of_some _ q) (Nat.le_refl _)
      (nd_new (Nat.zero_le _) (beq_eq_false_iff_ne.mpr (Ne.symm (Nat.ne_of_lt I.big))) .nil ⟨_, #[], 0, Heap.get?_push_size _ rfl, ⟨rfl, rfl, rfl⟩, rfl, rfl, fun _ h => (nomatch h), List.nodup_nil⟩), rfl, h _ (I.hok.fresh (Nat.le_refl _))⟩⟩
end
theorem kit_self {K : PySem.W.Frag} {C : Addr} : PySem.W.kitOne K (.ref C) (.ref C) = some true := if_pos (beq_self_eq_true _)
section
variable {P : Program} {w : World} {K : PySem.W.Frag} {σ : L2.St} {H : Hp} {F : List (V × D)} {M M' : List ME} {Q : VK} {G : Ends} {v y : V} {p : Addr} {xs : List NE} {k : List Leaf}
theorem s_nget {td ty : TE} (h : td σ H fun x H1 => ty σ H1 fun y H2 => NGetQ P w Q x y H2) : tNGet P w td ty σ H Q := h
theorem s_nnotin {td ty : TE} (h : ty σ H fun y H1 => td σ H1 fun x H2 => NInQ P w (fun b => Q (.bl (!b)) H2) x y H2) : tNNotIn P w ty td σ H Q := h
theorem s_nput {td ty tv : TE} (h : tv σ H fun v H1 => td σ H1 fun x H2 => ty σ H2 fun y H3 => NPutQ P w (fun H4 => G.nx σ H4) x y v H3) : sNPut P w td ty tv G σ H := h
theorem s_nnew (ww : Wf F H M) (q : ∀ p H', Wf F H' (.raw p (ndO P w p []) :: M) → Q (.ref p) H') : tNNew P w σ H Q := fun p hp => q p _ (ww.newRaw hp)
/-- all keys of the dict are known -/
def KnK (F : List (V × D)) (xs : List NE) : Prop := ∀ x ∈ xs, Kn F (.ref x.2.1) (.tup (x.1.map lfD))
theorem isA_leafs {I : Hp} : ∀ {k : List Leaf} {vs : List V}, IsA I vs (k.map lfD) → vs = k.map lfV
  | [], _, h => by cases h; rfl
  | c :: cs, _, h => by
    cases h with
    | cons h1 h2 =>
      rw [isA_leafs h2]
      cases c <;> cases h1 <;> rfl
theorem Wf.keyL (ww : Wf F H M) (h : Rk F M y (.tup (k.map lfD))) : ∃ b, y = .ref b ∧ H b = some (.tup (k.map lfV)) := by
  obtain ⟨I, Mc, ww, a, hF⟩ := ww.ex
  obtain ⟨p, vs, rfl, hp, b⟩ := h.tup ww a hF
  exact ⟨p, rfl, by rw [hp, isA_leafs b]⟩
theorem Kn.rkT {ds : List D} (h : Kn F v (.tup ds)) : Rk F M v (.tup ds) := Rk.of h fun q => by rcases q with ⟨n, e⟩ | ⟨n, e⟩ <;> cases e
theorem KnK.at (ww : Wf F H M) (h : KnK F xs) : KeysAt H xs := fun x hx => by
  obtain ⟨b, e, hb⟩ := ww.keyL (M := M) (h x hx).rkT
  cases e
  exact hb
theorem n_nget {v : V} (ww : Wf F H M) (h : .raw p (ndO P w p xs) ∈ M) (hk : KnK F xs) (hy : Rk F M y (.tup (k.map lfD))) (hg : getN xs k = some v) (q : Q v H) : NGetQ P w Q (.ref p) y H := by
  obtain ⟨b, rfl, hb⟩ := ww.keyL hy
  exact ⟨p, v, rfl, ⟨xs, k, b, ww.rawAt h, hk.at ww, rfl, hb, hg.symm⟩, q⟩
theorem n_nin {R : Bool → Prop} (ww : Wf F H M) (h : .raw p (ndO P w p xs) ∈ M) (hk : KnK F xs) (hy : Rk F M y (.tup (k.map lfD))) (q : R (getN xs k).isSome) : NInQ P w R (.ref p) y H := by
  obtain ⟨b, rfl, hb⟩ := ww.keyL hy
  exact ⟨p, _, rfl, ⟨xs, k, b, ww.rawAt h, hk.at ww, rfl, hb, rfl⟩, q⟩
theorem n_nput {R : Hp → Prop} {M2 : HO → List ME} (ww : Wf F H M) (f : ∀ o', Foc M (.raw p (ndO P w p xs)) (M2 o') (.raw p o')) (hk : KnK F xs) (hy : Rk F M y (.tup (k.map lfD))) (hl : xs.length ≤ 100000) (q : ∀ b H', y = .ref b → Wf F H' (M2 (ndO P w p (putN xs k b v))) → R H') : NPutQ P w R (.ref p) y v H := by
  obtain ⟨b, rfl, hb⟩ := ww.keyL hy
  have h : .raw p (ndO P w p xs) ∈ M := (f (.lst [])).mem
  refine ⟨p, _, rfl, ⟨xs, k, b, ww.rawAt h, hk.at ww, rfl, hb, Nat.lt_of_le_of_lt hl (by decide), rfl⟩, q b _ rfl ?_⟩
  exact ww.put (f _) fun I m hF c => by cases c; exact ⟨rfl, .raw fun _ e => nomatch e⟩
end
/-! ### a list that may be changed, handed to a def of the elder form -/
theorem Rem.of {M : List ME} {e : ME} (h : e ∈ M) : ∃ M', Rem M e M' := by
  induction M with
  | nil => cases h
  | cons x M ih =>
    rcases List.mem_cons.mp h with rfl | h
    · exact ⟨M, .here⟩
    · obtain ⟨M', r⟩ := ih h
      exact ⟨x :: M', .there r⟩
theorem Wf.oldL {F : List (V × D)} {H : Hp} {M M' : List ME} {p : Addr} {ds : List D} (w : Wf F H M) (r : Rem M (.ml p ds) M') : ∃ I Mc, W I H Mc ∧ Is I (.ref p) (.lst ds) ∧ (∀ v d, Kn F v d → Is I v d) ∧ (∀ J H', Same I J → W J H' Mc → Wf F H' M) ∧ ∀ J H' u a b, Same I J → W J H' Mc → Is J u (.tup [.int a, .int b]) → Wf ((u, .tup [.int a, .int b]) :: F) H' M := by
  obtain ⟨I, Mc, w, ac, hF⟩ := w.ex
  obtain ⟨M1, m, M2, rfl, h1, h2⟩ := ac.rem r
  cases h1 with
  | @ml _ vs _ b =>
    have hI : I p = none := (w.mu _ (List.mem_append_right _ List.mem_cons_self)).2
    have go : ∀ J H', Same (upd I p (.lst vs)) J → W J H' (M1 ++ M2) → Same I (fun x => if x = p then none else J x) ∧ W (fun x => if x = p then none else J x) H' (M1 ++ (p, .lst vs) :: M2) := fun J H' s w' => by
      have hJ : J p = some (.lst vs) := s _ _ upd_same
      refine ⟨fun c x e => ?_, fun c x e => ?_, fun x hx => ?_, w.nd⟩
      · have ne : c ≠ p := fun q => by rw [q, hI] at e; cases e
        show (if c = p then none else J c) = some x
        rw [if_neg ne]
        exact s _ _ (by rw [upd_ne ne]; exact e)
      · have e' : (if c = p then none else J c) = some x := e
        by_cases ne : c = p
        · rw [if_pos ne] at e'; cases e'
        · rw [if_neg ne] at e'
          exact w'.imm _ _ e'
      · rcases List.mem_append.mp hx with hx | hx
        · obtain ⟨q1, q2⟩ := w'.mu x (List.mem_append_left _ hx)
          exact ⟨q1, by show (if x.1 = p then none else J x.1) = none; rw [q2]; split <;> rfl⟩
        · rcases List.mem_cons.mp hx with rfl | hx
          · exact ⟨w'.imm _ _ hJ, if_pos rfl⟩
          · obtain ⟨q1, q2⟩ := w'.mu x (List.mem_append_right _ hx)
            exact ⟨q1, by show (if x.1 = p then none else J x.1) = none; rw [q2]; split <;> rfl⟩
    refine ⟨upd I p (.lst vs), M1 ++ M2, w.frz, .lst upd_same (b.mono w.frzS), fun v d h => (h.is hF).mono w.frzS, fun J H' s w' => ?_, fun J H' u x y s w' hu => ?_⟩
    · obtain ⟨g1, g2⟩ := go J H' s w'
      exact ⟨_, _, g2, ac.mono g1, fun f hf => (hF f hf).mono g1⟩
    · obtain ⟨g1, g2⟩ := go J H' s w'
      refine ⟨_, _, g2, ac.mono g1, fun f hf => ?_⟩
      rcases List.mem_cons.mp hf with rfl | hf
      · have hJ : J p = some (.lst vs) := s _ _ upd_same
        obtain ⟨q, us, e, hq, hh⟩ := hu.tup_ex
        subst e
        have ne : q ≠ p := fun z => by rw [z, hJ] at hq; cases hq
        refine .tup (show (if q = p then none else J q) = some (.tup us) by rw [if_neg ne]; exact hq) ?_
        cases hh with
        | cons k1 hh =>
          cases hh with
          | cons k2 hh =>
            cases hh
            cases k1
            cases k2
            exact .cons (.int _) (.cons (.int _) .nil)
      · exact (hF f hf).mono g1
/-- .. or for good -/
theorem Wf.oldR {F : List (V × D)} {H : Hp} {M : List ME} {v : V} {ds : List D} (w : Wf F H M) (h : Rk F M v (.lst ds)) : ∃ I Mc, W I H Mc ∧ Is I v (.lst ds) ∧ (∀ v d, Kn F v d → Is I v d) ∧ (∀ J H', Same I J → W J H' Mc → Wf F H' M) ∧ ∀ J H' u a b, Same I J → W J H' Mc → Is J u (.tup [.int a, .int b]) → Wf ((u, .tup [.int a, .int b]) :: F) H' M := by
  cases h with
  | mem h =>
    obtain ⟨I, Mc, w, is, k1, k2⟩ := w.old
    exact ⟨I, Mc, w, is _ _ (.mem h), is, k1, fun J H' u a b s w' hu => k2 J H' u _ s w' hu⟩
  | ml h =>
    obtain ⟨M', r⟩ := Rem.of h
    exact w.oldL r
end Fs

namespace Fs
open PySem PySem.Spec PyProof.Rows L2
theorem s_rng2 {σ : L2.St} {H : Hp} {ta : TA} {R : It → Hp → Prop} (h : ta σ H fun vs H1 => ∃ i j : Int, vs = [.int i, .int j] ∧ (-(2 ^ 62) ≤ i ∧ i < 2 ^ 62 ∧ -(2 ^ 62) ≤ j ∧ j < 2 ^ 62) ∧ R (Itr i (j - i).toNat) H1) : iRng2 ta σ H R := h
theorem s_rng2' {P : Int → Int → Prop} {i j : Int} (h1 : -(2 ^ 62) ≤ i) (h2 : i < 2 ^ 62) (h3 : -(2 ^ 62) ≤ j) (h4 : j < 2 ^ 62) (h : P i j) : ∃ i' j' : Int, [V.int i, V.int j] = [.int i', .int j'] ∧ (-(2 ^ 62) ≤ i' ∧ i' < 2 ^ 62 ∧ -(2 ^ 62) ≤ j' ∧ j' < 2 ^ 62) ∧ P i' j' := ⟨i, j, rfl, ⟨h1, h2, h3, h4⟩, h⟩
section
variable {K : PySem.W.Frag} {σ : L2.St} {H : Hp} {F : List (V × D)} {M M' : List ME} {Q : VK} {G : Ends} {v u x y : V} {ds es : List D} {g : TG} {tb : TS} {te : TE} {tt : TT} {a b : Addr} {J : It} {n : Nat} {f : Nat → D} {OK : List (V × D) → List ME → Prop}
/-- any comprehension, what is known and what may be changed goes along -/
theorem n_lcK {xs : List Nat} (S : Src J n f OK) (w : Wf F H M) (R : Nat → List D → List (V × D) → List ME → Prop) (okm : ∀ i D acc F M, R i acc F M → OK F (.ml D acc :: M)) (h0 : R 0 [] F M) (hn : n ≤ 100000)
    (step : ∀ i x D acc H0 F M (Ap : VK) (Sk : Hp → Prop), i < n → R i acc F M → Wf ((x, f i) :: F) H0 (.ml D acc :: M) → (∀ y d H4 F' M', Wf ((y, d) :: F') H4 (.ml D acc :: M') → R (i + 1) (acc ++ [d]) F' M' → Ap y H4) → (∀ H3 F' M', Wf F' H3 (.ml D acc :: M') → R (i + 1) acc F' M' → Sk H3) →
      g x (wipe σ xs) H0 fun σ2 H2 => wipe σ2 xs = wipe σ xs ∧ tt σ2 H2 fun b H3 => if b = true then te σ2 H3 Ap else Sk H3)
    (q : ∀ p es H' F' M', R n es F' M' → Wf F' H' (.ml p es :: M') → Q (.ref p) H') : LcGo J g tt te xs σ Q H := by
  intro D nD
  have w0 : Wf F (upd H D (.lst [])) (.ml D [] :: M) := by
    obtain ⟨I, Mc, w, a, hF⟩ := w.ex
    exact ⟨I, _, w.newM nD, .cons (.ml .nil) a, hF⟩
  refine ⟨fun i m H => m = n - i ∧ i ≤ n ∧ ∃ acc F M, R i acc F M ∧ acc.length ≤ i ∧ Wf F H (.ml D acc :: M), ⟨n, rfl, Nat.zero_le _, [], F, M, h0, Nat.le_refl _, w0⟩, ?_⟩
  rintro i m H ⟨rfl, hi, acc, F, M, hR, hl, w⟩
  by_cases hlt : i < n
  · refine .inr ⟨S.go i H _ _ hlt (okm _ _ _ _ _ hR) w, fun H' => ∃ acc F M, R (i + 1) acc F M ∧ acc.length ≤ i + 1 ∧ Wf F H' (.ml D acc :: M), fun H' ⟨acc', F', M', h1, h2, h3⟩ => ⟨n - (i + 1), by omega, rfl, hlt, acc', F', M', h1, h2, h3⟩, fun x H' y => ?_⟩
    refine step i x D acc H' F M _ _ hlt hR (S.yld i H _ _ x H' hlt (okm _ _ _ _ _ hR) w y) (fun y d H4 F' M' w4 r => ?_) fun H3 F' M' w3 r => ⟨acc, F', M', r, by omega, w3⟩
    obtain ⟨vs, h1, h2⟩ := w4.lstAt List.mem_cons_self
    have w5 : Wf F' (upd H4 D (.lst (vs ++ [y]))) (.ml D (acc ++ [d]) :: M') := by
      obtain ⟨I, Mc, w, a, hF⟩ := w4.ex
      cases a with
      | cons h a =>
        cases h with
        | ml b =>
          have := w.at0
          rw [this] at h1
          cases h1
          exact ⟨I, _, w.put0, .cons (.ml (b.app (.one (hF _ List.mem_cons_self)))) a, fun f hf => hF f (List.mem_cons_of_mem _ hf)⟩
    exact ⟨vs, h1, by rw [h2]; exact Nat.lt_of_le_of_lt hl (Nat.lt_of_lt_of_le hlt (Nat.le_trans hn (by decide))), acc ++ [d], F', M', r, by rw [List.length_append]; exact Nat.add_le_add_right hl 1, w5⟩
  · have e : i = n := by omega
    subst e
    exact .inl ⟨S.stop H _ _ (okm _ _ _ _ _ hR) w, q D acc H F M hR w⟩
theorem n_lcKL {xs : List Nat} (w : Wf F H M) (R : Nat → List D → List (V × D) → List ME → Prop) (hv : ∀ i acc F M, R i acc F M → Rk F M v (.lst ds)) (h0 : R 0 [] F M) (hn : ds.length ≤ 100000)
    (step : ∀ i d x D acc H0 F M (Ap : VK) (Sk : Hp → Prop), ds[i]? = some d → R i acc F M → Wf ((x, d) :: F) H0 (.ml D acc :: M) → (∀ y d H4 F' M', Wf ((y, d) :: F') H4 (.ml D acc :: M') → R (i + 1) (acc ++ [d]) F' M' → Ap y H4) → (∀ H3 F' M', Wf F' H3 (.ml D acc :: M') → R (i + 1) acc F' M' → Sk H3) →
      g x (wipe σ xs) H0 fun σ2 H2 => wipe σ2 xs = wipe σ xs ∧ tt σ2 H2 fun b H3 => if b = true then te σ2 H3 Ap else Sk H3)
    (q : ∀ p es H' F' M', R ds.length es F' M' → Wf F' H' (.ml p es :: M') → Q (.ref p) H') : ∃ a, v = .ref a ∧ (∃ xs, SqL K H a xs) ∧ LcGo (Itl K a) g tt te xs σ Q H := by
  obtain ⟨I, Mc, p, vs, rfl, w1, ac, hF, hp, b⟩ := w.lstE (hv _ _ _ _ h0)
  refine ⟨p, rfl, ⟨vs, .inl (.inl hp)⟩, n_lcK src_list w R (fun i D acc F M h => (hv _ _ _ _ h).more) h0 hn (fun i x D acc H0 F M Ap Sk hi hR w k1 k2 => ?_) q⟩
  have e1 : ds[i]? = some ds[i] := List.getElem?_eq_getElem hi
  rw [getD_of e1] at w
  exact step i _ x D acc H0 F M Ap Sk e1 hR w k1 k2
end
/-! ### whether a number is among some -/
theorem k_in {X : Cx} {K : PySem.W.Frag} (h : X.K = K) : OpR X (compareOp .In) (rIn K false) := h ▸ op_in_seq
theorem k_notin {X : Cx} {K : PySem.W.Frag} (h : X.K = K) : OpR X (compareOp .NotIn) (rIn K true) := h ▸ op_notIn_seq
theorem inV_ints (n : Int) : ∀ ns : List Int, inV (.int n) (ns.map V.int) = decide (n ∈ ns)
  | [] => rfl
  | m :: ns => by
    have := inV_ints n ns
    unfold inV at this ⊢
    rw [List.map_cons, List.any_cons, this]
    have e : eqV (.int m) (.int n) = decide (n = m) := by
      show (m == n) = _
      by_cases h : n = m
      · subst h; simp
      · have h2 : m ≠ n := fun z => h z.symm
        simp [h, h2]
    rw [e]
    simp only [List.mem_cons, Bool.decide_or]
theorem flat_ints : ∀ ns : List Int, (ns.map V.int).all flatV = true
  | [] => rfl
  | _ :: ns => by rw [List.map_cons, List.all_cons, flat_ints ns]; rfl
section
variable {K : PySem.W.Frag} {H : Hp} {F : List (V × D)} {M : List ME} {Q : VK} {v : V}
theorem n_in {ns : List Int} {n : Int} (w : Wf F H M) (h : Rk F M v (.lst (ns.map D.int))) (q : Q (.bl (decide (n ∈ ns))) H) : rIn K false (.int n) v H Q := by
  obtain ⟨p, rfl, hp⟩ := w.ints h
  exact ⟨p, _, rfl, .inl (.inl (.inl hp)), rfl, flat_ints ns, by rw [inV_ints]; exact q⟩
theorem n_notin {ns : List Int} {n : Int} (w : Wf F H M) (h : Rk F M v (.lst (ns.map D.int))) (q : Q (.bl (!decide (n ∈ ns))) H) : rIn K true (.int n) v H Q := by
  obtain ⟨p, rfl, hp⟩ := w.ints h
  exact ⟨p, _, rfl, .inl (.inl (.inl hp)), rfl, flat_ints ns, by rw [inV_ints]; exact q⟩
end
def natD (n : Nat) : D := .int n
def nz (l : List Nat) : List Int := l.map fun e : Nat => (e : Int)
theorem natD_map (l : List Nat) : l.map natD = (nz l).map D.int := by unfold nz; rw [List.map_map]; rfl
theorem mem_nz {l : List Nat} {e : Nat} : (e : Int) ∈ nz l ↔ e ∈ l := by
  unfold nz
  rw [List.mem_map]
  constructor
  · rintro ⟨a, h, e⟩
    have : a = _ := Int.ofNat.inj e
    exact this ▸ h
  · exact fun h => ⟨e, h, rfl⟩
/-! ### list(d): the keys of a dict -/
def LdQ (Q : VK) (xs : List V) (H : Hp) : Prop := ∃ (a : Addr) (kvs : List (Key × V)), xs = [.ref a] ∧ Rd H a (.dK kvs) ∧ ∀ p, H p = none → Q (.ref p) (upd H p (.lst (kvs.map fun kv => kV kv.1)))
theorem k_listD {X : Cx} (hc : X.calm = true) : CallR X (.type "list") (fun xs H Q => LdQ Q xs H) := call_listD hc
theorem IsP.keys {I : Hp} : ∀ {vs : List (Key × V)} {ds : List (Key × D)}, IsP I vs ds → IsA I (vs.map fun kv => kV kv.1) (ds.map fun kv => keyD kv.1)
  | _, _, .nil => .nil
  | _, _, .cons (f := k) h a => .cons (by cases k with | inl i => exact .int i | inr i => exact .str i) (IsP.keys a)
theorem n_listD {H : Hp} {F : List (V × D)} {M : List ME} {Q : VK} {p : Addr} {kvs : List (Key × D)} (w : Wf F H M) (h : .dk p kvs ∈ M) (q : ∀ l H', Wf F H' (.ml l (kvs.map fun kv => keyD kv.1) :: M) → Q (.ref l) H') : LdQ Q [.ref p] H := by
  obtain ⟨I, Mc, vs, w, a, hF, hp, ha⟩ := w.dkAt h
  exact ⟨p, vs, rfl, .inl hp, fun l hl => q l _ ⟨I, _, w.newM hl, .cons (.ml ha.keys) a, hF⟩⟩
end Fs

namespace Fs
open PySem PySem.Spec PyProof.Rows L2
/-! ### sorted(d, reverse=True): the keys of d are pairs of ints -/
def pairAt (H : Hp) : V → Int × Int
  | .ref a => match H a with
    | some (.tup [.int i, .int j]) => (i, j)
    | _ => (0, 0)
  | _ => (0, 0)
def ndK (n : Int × Int) : List Key := [.inl n.1, .inl n.2]
def lexGe (a b : Int × Int) : Prop := b.1 < a.1 ∨ (a.1 = b.1 ∧ b.2 ≤ a.2)
def rSortRevT : List V → List V → Hp → VK → Prop := fun vs zs H Q => ∃ (d : Addr) (kvs : List (List Key × V)) (ns : List (Int × Int)), vs = [.ref d] ∧ zs = [.bl true] ∧ Rd H d (.dT kvs) ∧ kvs.map (·.1) = ns.map ndK ∧
  ∀ (ms : List (Int × Int)) (bs : List Addr) (p : Addr), ms.Perm ns → ms.Pairwise lexGe → bs.length = ms.length → (∀ (i : Nat) (b : Addr) (m : Int × Int), bs[i]? = some b → ms[i]? = some m → H b = some (.tup [.int m.1, .int m.2])) → H p = none → Q (.ref p) (upd H p (.lst (bs.map V.ref)))
theorem keyAcc {P : Program} {w : World} {es : Array DictEntry} {ks : List (List Key × Addr × Value)} {acc : Array Value} (he : es.toList = ks.map (entryOfKey (tupleKind (mixKind P w)))) (it : ItemsOf (fun i v => ∃ en : DictEntry, es[i]? = some en ∧ v = en.key) acc es.size) : acc.toList = (ks.map fun x => x.2.1).map Value.ref := by
  have l1 : acc.toList.length = ks.length := by
    rw [Array.length_toList, it.1, ← Array.length_toList, he, List.length_map]
  refine List.ext_getElem (by rw [l1, List.length_map, List.length_map]) fun j h1 h2 => ?_
  have hj : j < ks.length := by omega
  obtain ⟨en, q1, q2⟩ := it.2 j _ (by rw [← Array.getElem?_toList]; exact List.getElem?_eq_getElem h1)
  have q3 : es.toList[j]? = some en := by rw [Array.getElem?_toList]; exact q1
  rw [he, List.getElem?_map, List.getElem?_eq_getElem hj] at q3
  rw [q2, ← Option.some.inj q3, List.getElem_map, List.getElem_map]
  rfl
theorem kt_keys {H : Hp} {kvs : List (List Key × V)} {ks : List (List Key × Addr × Value)} (r : KT H kvs ks) : ∀ {ns : List (Int × Int)}, kvs.map (·.1) = ns.map ndK → (ks.map fun x => pairAt H (.ref x.2.1)) = ns ∧ ∀ x ∈ ks, ∃ n : Int × Int, H x.2.1 = some (.tup [.int n.1, .int n.2]) := by
  induction r with
  | nil =>
    intro ns e
    cases ns with
    | nil => exact ⟨rfl, fun _ h => (nomatch h)⟩
    | cons n ns => cases e
  | @cons p q ps qs h t ih =>
    intro ns e
    cases ns with
    | nil => cases e
    | cons n ns =>
      injection e with e1 e2
      obtain ⟨i1, i2⟩ := ih e2
      have h2 := h.2.1
      rw [show p.1 = ndK n from e1] at h2
      have h3 : H q.2.1 = some (.tup [.int n.1, .int n.2]) := h2
      refine ⟨?_, fun x hx => ?_⟩
      · rw [List.map_cons, i1]
        congr 1
        show (match H q.2.1 with | some (.tup [.int i, .int j]) => (i, j) | _ => (0, 0)) = n
        rw [h3]
      · rcases List.mem_cons.mp hx with rfl | hx
        · exact ⟨n, h3⟩
        · exact i2 x hx
section
variable {X : Cx}
theorem cr_sortedRevT (hc : X.calm = true) : CallRK X (.builtin "sorted") [Str.ofString "reverse"] rSortRevT := by
  intro pins s σ H vs zs us ws Q I r rz h
  obtain ⟨d, kvs, ns, rfl, rfl, hd, hk, q⟩ := h
  obtain rfl := Vals.ref1 r
  obtain ⟨w1, rfl, e1⟩ := vals1 rz
  obtain rfl : w1 = Value.bool true := e1
  obtain ⟨z, hs, ks, pr, o, es, ep, ho, hx, hdt, he, hn⟩ := (show ObjOk X.prog X.w H s.heap d (.dT kvs) from hd.ok I.hok)
  have lk : kvs.length = ks.length := Paired.length pr
  have le : es.size = ks.length := by rw [← Array.length_toList, he, List.length_map]
  refine call_function_entry_kw kind_sorted plain_sorted entry_sorted (args_sorted_rev _ _) ?_
  unfold Builtin.«sorted»
  refine wpAny_bind (m := checkCount "sorted" 1 1 _) (wpAny_pure ?_)
  refine wpAny_bind (PySem.W.kdu_collect (A := X.A.in1) (kdl_raw hs hx hdt) (I.ok.hd hc) ho (by omega) fun h' tk acc kp hacc => ?_)
  have ea := keyAcc he hacc
  have hsz : acc.toList.length = ks.length := by rw [ea]; simp
  obtain ⟨hns, hkey⟩ := kt_keys pr hk
  have hit : ∀ v ∈ acc.toList, ∃ b, v = Value.ref b ∧ ∃ n : Int × Int, H b = some (.tup [.int n.1, .int n.2]) := fun v hv => by
    rw [ea, List.map_map] at hv
    obtain ⟨x, hx, rfl⟩ := List.mem_map.mp hv
    exact ⟨_, rfl, hkey x hx⟩
  have hpa : ∀ b (n : Int × Int), H b = some (.tup [.int n.1, .int n.2]) → pairAt H (.ref b) = n := fun b n e => by
    show (match H b with | some (.tup [.int i, .int j]) => (i, j) | _ => (0, 0)) = n
    rw [e]
  refine wpAny_bind (wpAny_newList ?_ (by omega))
  have hoL : (h'.push (seqObj "list" acc.toList.toArray 0)).get? h'.objs.size = some (seqObj "list" acc.toList.toArray 0) := Heap.get?_push_size _ rfl
  refine wpAny_bind (wpAny_holding (wpAny_call_entry_kw slot_list_sort ⟨_, hoL, rfl⟩ entry_list_sort ?_ (args_list_sort_rev _ _)))
  refine SrtR.list_sort_ordR (SrtO.swo_lex fun u => pairAt H (backV u)) hoL (by omega) (fun h2 => ?_) fun out h1 h2 => ⟨_, rfl, ?_⟩
  · refine SrtO.pairs_sortableO (by omega) (fun v hv => ?_) fun o e => ?_
    · obtain ⟨b, rfl, n, hb⟩ := hit v hv
      obtain ⟨_, its2, r2, o2, ho2, hc2, n2, hd2⟩ := I.hok _ _ hb
      obtain ⟨u1, u2, rfl, ri, rj⟩ := vals2 r2
      obtain ⟨t1, rfl⟩ := ri
      obtain ⟨t2, rfl⟩ := rj
      rw [show pairAt H (backV (.ref b)) = n from hpa b n hb]
      exact ⟨b, o2, t1, t2, n2, rfl, Heap.get?_push_of_some _ (kp _ _ ho2), hc2, hd2⟩
    · have e' := Option.some.inj (e.symm.trans hoL)
      rw [e']
      intro c
      exact absurd (Value.type.inj c) (by decide)
  · refine wpAny_pure ⟨_, rfl, ?_⟩
    have h3 : ∀ u ∈ out, u ∈ acc.toList := fun u hu => List.mem_reverse.mp (h2.perm.mem_iff.mp hu)
    have hn1 : H h'.objs.size = none := (I.hok.kept kp).fresh (Nat.le_refl _)
    have hn2 : s.heap.get? h'.objs.size = none := by
      cases e : s.heap.get? h'.objs.size with
      | none => rfl
      | some u => exact absurd (Heap.lt_size (kp _ _ e)) (Nat.lt_irrefl _)
    obtain ⟨c, hfin⟩ := PyProof.Rows.sortedHeap_at (out := out.toArray.reverse) hoL
    have hlen : out.length = ks.length := by rw [h2.len]; simp [ea]
    have e0 : (if True then out.toArray.reverse else out.toArray) = out.reverse.toArray := by simp
    refine ⟨.ref _, upd H h'.objs.size (.lst ((out.reverse.map fun u => match u with | .ref a => a | _ => 0).map V.ref)), I.laidN (t' := tk) (fun b u e => ?_) hn2 hn1 ⟨?_, out.reverse, c, ?_, ?_⟩, rfl, q (out.reverse.map fun u => pairAt H (backV u)) (out.reverse.map fun u => match u with | .ref a => a | _ => 0) h'.objs.size ?_ ?_ (by simp) (fun i b m hb hm => ?_) hn1⟩
    · have hb := Heap.lt_size (kp _ _ e)
      rw [PyProof.Rows.sortedHeap_old (Nat.ne_of_lt hb) (by rw [size_push']; exact Nat.lt_succ_of_lt hb)]
      exact Heap.get?_push_of_some _ (kp _ _ e)
    · rw [List.length_map, List.length_map, List.length_reverse, hlen]; omega
    · rw [List.map_map]
      have : ∀ l : List Value, (∀ u ∈ l, ∃ b, u = Value.ref b) → Vals (l.map (V.ref ∘ fun u => match u with | .ref a => a | _ => 0)) l := fun l => by
        induction l with
        | nil => exact fun _ => .nil
        | cons u l ih =>
          intro hl
          obtain ⟨b, rfl⟩ := hl u List.mem_cons_self
          exact .cons rfl (ih fun v hv => hl v (List.mem_cons_of_mem _ hv))
      exact this _ fun u hu => by
        obtain ⟨b, e, _⟩ := hit u (h3 u (List.mem_reverse.mp hu))
        exact ⟨b, e⟩
    · simpa using hfin
    · have h4 : (out.reverse.map fun u => pairAt H (backV u)).Perm (acc.toList.map fun u => pairAt H (backV u)) := ((List.reverse_perm _).trans (h2.perm.trans (List.reverse_perm _))).map _
      have h5 : (acc.toList.map fun u => pairAt H (backV u)) = ns := by
        rw [ea, List.map_map, List.map_map, ← hns]
        rfl
      rw [h5] at h4
      exact h4
    · rw [List.pairwise_map, List.pairwise_reverse]
      refine h1.imp fun {u v} hh => ?_
      have := SrtO.lexB_no.mp hh
      unfold lexGe
      omega
    · rw [List.getElem?_map] at hb hm
      cases e : out.reverse[i]? with
      | none => rw [e] at hb; cases hb
      | some u =>
        rw [e] at hb hm
        obtain ⟨b', rfl, n, hb'⟩ := hit u (h3 u (List.mem_reverse.mp (List.mem_of_getElem? e)))
        cases hb
        have em : m = n := (Option.some.inj hm).symm.trans (hpa b' n hb')
        rw [em]
        exact hb'
end
/-! ### pairs known for good -/
inductive KnP (F : List (V × D)) {κ : Type} : List (κ × V) → List (κ × D) → Prop
  | nil : KnP F [] []
  | cons {f : κ} {v : V} {d : D} {vs : List (κ × V)} {ds : List (κ × D)} : Kn F v d → KnP F vs ds → KnP F ((f, v) :: vs) ((f, d) :: ds)
theorem Kn.sub {F F' : List (V × D)} {v : V} {d : D} (h : Kn F v d) (s : KS F F') : Kn F' v d := by
  cases h with
  | mem h => exact s _ h
  | int n => exact .int n
  | bl n => exact .bl n
  | str n => exact .str n
  | non => exact .non
  | ty n => exact .ty n
  | ref a => exact .ref a
theorem KnP.sub {F F' : List (V × D)} {κ : Type} (s : KS F F') : ∀ {vs : List (κ × V)} {ds : List (κ × D)}, KnP F vs ds → KnP F' vs ds
  | _, _, .nil => .nil
  | _, _, .cons h a => .cons (h.sub s) (KnP.sub s a)
theorem KnP.more {F : List (V × D)} {κ : Type} {f : V × D} {vs : List (κ × V)} {ds : List (κ × D)} (h : KnP F vs ds) : KnP (f :: F) vs ds := h.sub KS.refl.drop
theorem KnP.isP {I : Hp} {F : List (V × D)} {κ : Type} (hF : ∀ f ∈ F, Is I f.1 f.2) : ∀ {vs : List (κ × V)} {ds : List (κ × D)}, KnP F vs ds → IsP I vs ds
  | _, _, .nil => .nil
  | _, _, .cons h a => .cons (h.is hF) (KnP.isP hF a)
theorem KnP.length {F : List (V × D)} {κ : Type} : ∀ {vs : List (κ × V)} {ds : List (κ × D)}, KnP F vs ds → vs.length = ds.length
  | _, _, .nil => rfl
  | _, _, .cons _ a => by rw [List.length_cons, List.length_cons, KnP.length a]
theorem KnP.at {F : List (V × D)} {κ : Type} : ∀ {vs : List (κ × V)} {ds : List (κ × D)}, KnP F vs ds → ∀ {i : Nat} {k : κ} {u : V}, vs[i]? = some (k, u) → ∃ e, ds[i]? = some (k, e)
  | _, _, .nil, i, k, u, e => by simp at e
  | _, _, .cons _ a, 0, k, u, e => by cases e; exact ⟨_, rfl⟩
  | _, _, .cons _ a, i + 1, k, u, e => KnP.at a (i := i) e
theorem IsP.facts {I : Hp} {κ : Type} : ∀ {vs : List (κ × V)} {ds : List (κ × D)}, IsP I vs ds → ∃ F : List (V × D), (∀ f ∈ F, Is I f.1 f.2) ∧ KnP F vs ds
  | _, _, .nil => ⟨[], fun _ h => (nomatch h), .nil⟩
  | _, _, .cons (v := v) (d := d) h a => by
    obtain ⟨F, h1, h2⟩ := IsP.facts a
    refine ⟨(v, d) :: F, fun f hf => ?_, .cons (.mem List.mem_cons_self) h2.more⟩
    rcases List.mem_cons.mp hf with rfl | hf
    · exact h
    · exact h1 f hf
/-! ### a tuple that stands in the heap is known for good -/
theorem Cn.notT {I : Hp} {e : ME} {m : Addr × HO} (h : Cn I e m) : ∀ vs, m.2 ≠ .tup vs := by
  cases h with
  | raw hn => exact hn
  | ml _ => exact fun _ e => nomatch e
  | mi _ => exact fun _ e => nomatch e
  | bag hb =>
    obtain ⟨_, x, y, z, hb⟩ := hb
    have := hb.ob
    intro vs e
    rw [show _ = _ from this] at e
    cases e
  | dk _ => exact fun _ e => nomatch e
  | dt _ => exact fun _ e => nomatch e
  | cel _ => exact fun _ e => nomatch e
  | tb _ _ => exact fun _ e => nomatch e
theorem CnA.notT {I : Hp} {M : List ME} {Mc : List (Addr × HO)} (a : CnA I M Mc) : ∀ m ∈ Mc, ∀ vs, m.2 ≠ .tup vs := by
  induction a with
  | nil => exact fun _ h => nomatch h
  | cons h a ih =>
    intro m hm
    rcases List.mem_cons.mp hm with rfl | hm
    · exact h.notT
    · exact ih m hm
theorem Wf.tupN {F : List (V × D)} {H : Hp} {M : List ME} {q : Addr} {vs : List V} {ds : List D} (w : Wf F H M) (h : H q = some (.tup vs)) (hv : ∀ I, IsA I vs ds) : Wf ((.ref q, .tup ds) :: F) H M := by
  obtain ⟨I, Mc, w, a, hF⟩ := w.ex
  by_cases e : I q = none
  · have s : Same I (upd I q (.tup vs)) := fun b o hb => by
      have : b ≠ q := fun z => by rw [z, e] at hb; cases hb
      rw [upd_ne this]
      exact hb
    refine ⟨upd I q (.tup vs), Mc, ⟨fun b o hb => ?_, fun m hm => ⟨(w.mu m hm).1, ?_⟩, w.nd⟩, a.mono s, fun f hf => ?_⟩
    · by_cases hbq : b = q
      · subst hbq
        rw [upd_same] at hb
        rw [h, hb]
      · rw [upd_ne hbq] at hb
        exact w.imm b o hb
    · have : m.1 ≠ q := fun z => by
        have h1 := (w.mu m hm).1
        rw [z, h] at h1
        exact a.notT m hm vs (Option.some.inj h1).symm
      rw [upd_ne this]
      exact (w.mu m hm).2
    · rcases List.mem_cons.mp hf with rfl | hf
      · exact .tup upd_same (hv _)
      · exact (hF f hf).mono s
  · obtain ⟨o, ho⟩ := Option.ne_none_iff_exists'.mp e
    have h2 := w.imm q o ho
    rw [h] at h2
    cases h2
    exact ⟨I, Mc, w, a, fun f hf => by
      rcases List.mem_cons.mp hf with rfl | hf
      · exact .tup ho (hv _)
      · exact hF f hf⟩
theorem isA_key {I : Hp} : ∀ k : List Key, IsA I (k.map kV) (k.map keyD)
  | [] => .nil
  | k :: r => .cons (by cases k with | inl i => exact .int i | inr s => exact .str s) (isA_key r)
theorem Wf.keyN {F : List (V × D)} {H : Hp} {M : List ME} {q : Addr} {k : List Key} (w : Wf F H M) (h : H q = some (.tup (k.map kV))) : Wf ((.ref q, .tup (k.map keyD)) :: F) H M := w.tupN h fun I => isA_key k
/-! ### a dict with tuple keys that is walked -/
section
variable {K : PySem.W.Frag} {σ : L2.St} {H : Hp} {F : List (V × D)} {M M0 M' : List ME} {Q : VK} {G : Ends} {v x y : V} {p : Addr} {g : TG} {tb : TS} {td : TE} {kvs : List (List Key × D)} {vs : List (List Key × V)} {od : Obj} {d : D} {k : List Key}
theorem Wf.lockT (w : Wf F H M) (hr : Rem M (.dt p kvs) M0) : ∃ vs FX, H p = some (.dT vs) ∧ KS F FX ∧ KnP FX vs kvs ∧ ∀ od, Wf FX (upd H p (.frz od (.dT vs))) (.raw p (.frz od (.dT vs)) :: M0) := by
  obtain ⟨I, Mc, w, a, hF⟩ := w.ex
  obtain ⟨M1, m, M2, rfl, h3, h4⟩ := a.rem hr
  cases h3 with
  | @dt _ vs _ b =>
    obtain ⟨VF, q1, q2⟩ := b.facts
    refine ⟨vs, VF ++ F, w.at, fun f hf => .mem (List.mem_append_right _ hf), q2.sub fun f hf => .mem (List.mem_append_left _ hf), fun od => ?_⟩
    have w2 : W I (upd H p (.frz od (.dT vs))) (M1 ++ (p, .frz od (.dT vs)) :: M2) := w.put
    exact ⟨I, _, w2.perm List.perm_middle, .cons (.raw fun _ e => nomatch e) h4, fun f hf => (List.mem_append.mp hf).elim (q1 f) (hF f)⟩
theorem Wf.unlockT (w : Wf F H (.raw p (.frz od (.dT vs)) :: M)) (k : KnP F vs kvs) : H p = some (.frz od (.dT vs)) ∧ Wf F (upd H p (.dT vs)) (.dt p kvs :: M) := by
  refine ⟨w.rawAt List.mem_cons_self, ?_⟩
  obtain ⟨I, Mc, w, a, hF⟩ := w.ex
  cases a with
  | cons h a =>
    cases h with
    | raw _ => exact ⟨I, _, w.put0, .cons (.dt (k.isP hF)) a, hF⟩
/-- the heap of such a loop -/
def LIL (L : ME) (R : L2.St → List (V × D) → List ME → Prop) (σ : L2.St) (H : Hp) : Prop := ∃ F M, R σ F M ∧ Wf F H (L :: M)
/-- for k in d -/
theorem n_forKT (w : Wf F H M) (hr : Rem M (.dt p kvs) M0) (ht : ∀ H' (Q : VK), Q (.ref p) H' → td σ H' Q)
    (h : ∀ od vs FX, KS F FX → KnP FX vs kvs → ∃ R : Nat → L2.St → List (V × D) → List ME → Prop, (∀ i σ F' M', R i σ F' M' → KnP F' vs kvs) ∧ R 0 σ FX M0 ∧
      (∀ i k e x σ H F' M', kvs[i]? = some (k, e) → R i σ F' M' → Wf ((x, .tup (k.map keyD)) :: F') H (.raw p (.frz od (.dT vs)) :: M') →
        g x σ H fun σ2 H2 => tb { nx := LIL (.raw p (.frz od (.dT vs))) (R (i + 1)), ct := LIL (.raw p (.frz od (.dT vs))) (R (i + 1)), bk := fun σ' H' => H' p = some (.frz od (.dT vs)) ∧ G.nx σ' (upd H' p (.dT vs)), rt := fun v H' => H' p = some (.frz od (.dT vs)) ∧ G.rt v (upd H' p (.dT vs)) } σ2 H2) ∧
      ∀ σ H F' M', R kvs.length σ F' M' → Wf F' H (.dt p kvs :: M') → G.nx σ H) : tLock (tFor (iKeys td) g tb) G σ H := by
  obtain ⟨vs, FX, h1, h2, h3, h4⟩ := w.lockT hr
  refine ⟨p, .dT vs, h1, trivial, fun od => ?_⟩
  obtain ⟨R, r1, r2, r3, r4⟩ := h od vs FX h2 h3
  refine ht _ _ ⟨p, od, rfl, .inr ⟨vs, upd_same, ?_⟩⟩
  have hl := h3.length
  refine ⟨fun i m σ H => m = kvs.length - i ∧ i ≤ kvs.length ∧ LIL (.raw p (.frz od (.dT vs))) (R i) σ H, ⟨kvs.length, rfl, Nat.zero_le _, FX, M0, r2, h4 od⟩, ?_⟩
  rintro i m σ H ⟨rfl, hi, F', M', hR, w⟩
  have hat := w.rawAt List.mem_cons_self
  by_cases hlt : i < kvs.length
  · refine .inr ⟨⟨hat, by omega⟩, LIL (.raw p (.frz od (.dT vs))) (R (i + 1)), fun σ' H' z => ⟨kvs.length - (i + 1), by omega, rfl, hlt, z⟩, fun x H' y => ?_⟩
    obtain ⟨rfl, k, u, q, e1, rfl, hq⟩ := y
    obtain ⟨e, e2⟩ := h3.at e1
    exact r3 i k e _ σ _ F' M' e2 hR (w.keyN hq)
  · have e : i = kvs.length := by omega
    subst e
    obtain ⟨q1, q2⟩ := w.unlockT (r1 _ _ _ _ hR)
    exact .inl ⟨⟨hat, by omega⟩, q1, r4 σ _ F' M' hR q2⟩
/-- what such a dict holds -/
theorem KnP.get : ∀ {vs : List (List Key × V)} {kvs : List (List Key × D)}, KnP F vs kvs → ∀ {k : List Key} {d : D}, getP kvs k = some d → ∃ v, valV vs k = some v ∧ Kn F v d
  | _, _, .nil, k, d, e => by cases e
  | _, _, .cons (f := f) h a, k, d, e => by
    by_cases q : f = k
    · have : getP ((f, _) :: _) k = some _ := e
      rw [getP, List.find?_cons, decide_eq_true q] at this
      cases this
      exact ⟨_, valV_pos q, h⟩
    · have : getP ((f, _) :: _) k = some _ := e
      rw [getP, List.find?_cons, decide_eq_false q] at this
      obtain ⟨v, h1, h2⟩ := KnP.get a (k := k) this
      exact ⟨v, by rw [valV_neg q]; exact h1, h2⟩
theorem n_dgetTF (w : Wf F H M) (h : .raw p (.frz od (.dT vs)) ∈ M) (hk : KnP F vs kvs) (hy : Rk F M y (.tup (k.map keyD))) (hd : getP kvs k = some d) (q : ∀ u, Wf ((u, d) :: F) H M → Q u H) : DGetQ Q (.ref p) y H := by
  obtain ⟨b, rfl, hb⟩ := w.keyT hy
  obtain ⟨v, h1, h2⟩ := hk.get hd
  exact ⟨p, v, rfl, .inr ⟨vs, k, b, .inr ⟨od, w.rawAt h⟩, rfl, hb, h1.symm⟩, q v (w.add h2)⟩
/-- a return, a break from within -/
theorem Wf.retT {R : Hp → Prop} (w : Wf F H (.raw p (.frz od (.dT vs)) :: M)) (hk : KnP F vs kvs) (q : ∀ H', Wf F H' (.dt p kvs :: M) → R H') : H p = some (.frz od (.dT vs)) ∧ R (upd H p (.dT vs)) := ⟨(w.unlockT hk).1, q _ (w.unlockT hk).2⟩
end
/-! ### sorted(d, reverse=True) -/
def nD (n : Int × Int) : D := .tup [.int n.1, .int n.2]
theorem ndK_D (n : Int × Int) : (ndK n).map keyD = [.int n.1, .int n.2] := rfl
theorem k_sortRT {X : Cx} (hc : X.calm = true) : CallRK X (.builtin "sorted") [Str.ofString "reverse"] rSortRevT := cr_sortedRevT hc
theorem s_ckw {r : List V → List V → Hp → VK → Prop} {t tk : TA} {σ : L2.St} {H : Hp} {Q : VK} (h : t σ H fun vs H1 => tk σ H1 fun zs H2 => r vs zs H2 Q) : tCKw r t tk σ H Q := h
section
variable {K : PySem.W.Frag} {σ : L2.St} {H : Hp} {F : List (V × D)} {M M' : List ME} {Q : VK} {p : Addr} {kvs : List (List Key × D)} {ns : List (Int × Int)}
theorem Wf.nodesN {F : List (V × D)} {H : Hp} {M : List ME} (w : Wf F H M) : ∀ {bs : List Addr} {ms : List (Int × Int)}, bs.length = ms.length → (∀ (i : Nat) (b : Addr) (m : Int × Int), bs[i]? = some b → ms[i]? = some m → H b = some (.tup [.int m.1, .int m.2])) → ∃ FX, (∀ f ∈ F, f ∈ FX) ∧ Wf FX H M ∧ KnA FX (bs.map V.ref) (ms.map nD)
  | [], [], _, _ => ⟨F, fun _ h => h, w, .nil⟩
  | [], _ :: _, e, _ => by cases e
  | _ :: _, [], e, _ => by cases e
  | b :: bs, m :: ms, e, h => by
    obtain ⟨FX, h1, h2, h3⟩ := Wf.nodesN w (bs := bs) (ms := ms) (Nat.succ.inj e) fun i b' m' => h (i + 1) b' m'
    refine ⟨(.ref b, nD m) :: FX, fun f hf => List.mem_cons_of_mem _ (h1 f hf), h2.tupN (h 0 b m rfl rfl) fun I => .cons (.int _) (.cons (.int _) .nil), .cons (.mem List.mem_cons_self) ?_⟩
    have : ∀ {xs : List V} {ds : List D}, KnA FX xs ds → KnA ((.ref b, nD m) :: FX) xs ds := fun {xs ds} a => by
      induction a with
      | nil => exact .nil
      | cons h a ih => exact .cons h.more ih
    exact this h3
theorem n_sortRT (w : Wf F H M) (h : .dt p kvs ∈ M) (hk : kvs.map (·.1) = ns.map ndK) (q : ∀ (ms : List (Int × Int)) p H', ms.Perm ns → ms.Pairwise lexGe → Wf F H' (.ml p (ms.map nD) :: M) → Q (.ref p) H') : rSortRevT [.ref p] [.bl true] H Q := by
  obtain ⟨I, Mc, vs, w1, a, hF, hp, ha⟩ := w.dtAt h
  have e : vs.map (·.1) = kvs.map (·.1) := by
    clear hp hk h
    induction ha with
    | nil => rfl
    | cons _ _ ih => rw [List.map_cons, List.map_cons, ih]
  refine ⟨p, vs, ns, rfl, rfl, .inl hp, e.trans hk, fun ms bs l h1 h2 h3 h4 hl => q ms l _ h1 h2 ?_⟩
  obtain ⟨FX, f1, f2, f3⟩ := w.nodesN h3 h4
  obtain ⟨I2, Mc2, w2, a2, hF2⟩ := f2.ex
  exact ⟨I2, _, w2.newM hl, .cons (.ml (f3.is hF2)) a2, fun f hf => hF2 f (f1 f hf)⟩
end
/-! ### long lists; the last one is taken -/
section
variable {K : PySem.W.Frag} {σ : L2.St} {H : Hp} {F : List (V × D)} {M M' : List ME} {Q : VK} {x : V} {p : Addr} {ds : List D} {d : D}
theorem n_appB (w : Wf F H M) (f : Foc M (.ml p ds) M' (.ml p (ds ++ [d]))) (h : Kn F x d) (hz : ds.length ≤ 10000000) (q : ∀ H', Wf F H' M' → Q .non H') : rAppend (.ref p) [x] H Q := by
  obtain ⟨I, Mc, w, a, hF⟩ := w.ex
  obtain ⟨M1, m, M2, rfl, h3, h4⟩ := a.foc f
  cases h3 with
  | ml b =>
    exact ⟨p, _, x, rfl, rfl, w.at, by rw [b.length]; exact Nat.lt_of_le_of_lt hz (by decide), q _ ⟨I, _, w.put, h4 I _ (Same.refl _) (.ml (b.app (.one (h.is hF)))), hF⟩⟩
theorem n_popD (w : Wf F H M) (f : Foc M (.ml p ds) M' (.ml p ds.dropLast)) (hd : ds[ds.length - 1]? = some d) (q : ∀ y H', Wf ((y, d) :: F) H' M' → Q y H') : rPop (.ref p) [] H Q := by
  obtain ⟨I, Mc, w, a, hF⟩ := w.ex
  obtain ⟨M1, m, M2, rfl, h3, h4⟩ := a.foc f
  cases h3 with
  | @ml _ vs _ b =>
    have h0 : ds.length - 1 < ds.length := (List.getElem?_eq_some_iff.mp hd).1
    have h2 : vs.length - 1 < vs.length := by rw [b.length]; exact h0
    obtain ⟨d', e1, e2⟩ := b.of (List.getElem?_eq_getElem h2)
    rw [b.length, hd] at e1
    cases e1
    refine ⟨p, vs, _, rfl, rfl, w.at, List.getElem?_eq_getElem h2, q _ _ ⟨I, _, w.put, h4 I _ (Same.refl _) (.ml b.dropLast), fun f hf => ?_⟩⟩
    rcases List.mem_cons.mp hf with rfl | hf
    · exact e2
    · exact hF f hf
end
end Fs

namespace Fs
open PySem PySem.Spec PyProof.Rows L2
/-! ### try with several clauses `except X as e` -/
abbrev Clause := Value × Nat × (Addr → Value → Option Addr → TS)
/-- what the clauses wish of an exception, one behind the other -/
def wAsM (K : PySem.W.Frag) (Wout : WX) (D : Ends) : List Clause → WX
  | [] => Wout
  | (c, i, ts) :: r => wAs K c i ts (wAsM K Wout D r) D
inductive HdsAs (X : Cx) : List ExceptHandler → List Clause → Prop
  | nil : HdsAs X [] []
  | cons {x n : Str} {c : Value} {i : Nat} {ts : Addr → Value → Option Addr → TS} {b₀ : Stmt} {suite : List Stmt} {np pos' : Pos} {hds : List ExceptHandler} {l : List Clause} (hi : X.N[i]? = some n) (hln : X.env.kindOf n = some .local) (hc : Names X x c)
      (hsu : ∀ (a : Addr) (oe : Obj) (cls : Value) (d : Option Addr) (pn : List (Addr × Obj)), Zc cls d oe → (∃ vs, oe.data = .fields vs) → PSs (X.suite a ((a, oe) :: pn)) (b₀ :: suite) (ts a cls d)) (r : HdsAs X hds l) :
      HdsAs X (.ExceptHandler (some (.Name x np)) (some n) (b₀ :: suite) pos' :: hds) ((c, i, ts) :: l)
/-- an exception `a` is caught and has landed: the clauses are gone through -/
structure Cau (X : Cx) (pins : List (Addr × Obj)) (σ : L2.St) (H : Hp) (a : Addr) (cls : Value) (d : Option Addr) (s : Shared) : Prop where
  ex : ∃ (B : Heap) (sI : Shared), Inv X pins σ H sI ∧ (∀ b o, sI.heap.get? b = some o → b ∉ frs X.stack → B.get? b = some o) ∧ HandSPX.FlyingZ B (X.env :: X.outer) a (Zc cls d) s.heap ∧ sI.heap.UpToSlots s.heap ∧ s.os = sI.os ∧ AllBare s.gens
  na : H a = none
section
variable {X : Cx} {pins : List (Addr × Obj)} {σ : L2.St} {H : Hp} {a : Addr} {cls : Value} {d : Option Addr} {s : Shared}
theorem Cau.inv (c : Cau X pins σ H a cls d s) : Inv X pins σ H s := by
  obtain ⟨B, sI, I, nb, fl, up, os, ag⟩ := c.ex
  exact I.landed nb fl.1 up os ag
theorem Cau.again (c : Cau X pins σ H a cls d s) {M : Model} {A : Around} {E : Value → Shared → Prop} {Q : Unit → Shared → Prop} (q : ∀ s', Cau X pins σ H a cls d s' → Q () s') : wpAny M A (setFlight (.ref a) none) Q E s := by
  obtain ⟨B, sI, I, nb, fl, up, os, ag⟩ := c.ex
  exact HandSPX.lands_againZ fl fun h' fl' up' => q _ ⟨⟨B, sI, I, nb, fl', up.trans up', os, ag⟩, c.na⟩
/-- the thing that is caught; the clause's own state -/
theorem Cau.suite (c : Cau X pins σ H a cls d s) (hs : X.stack = X.env :: X.outer) (hf : X.env.frame = some X.env.locals) : ∃ oe, s.heap.get? a = some oe ∧ Zc cls d oe ∧ (∃ vs, oe.data = .fields vs) ∧ Inv (X.suite a ((a, oe) :: (X.pn ++ pins))) [] σ H s := by
  have J := c.inv
  obtain ⟨B, sI, I, nb, fl, up, os, ag⟩ := c.ex
  obtain ⟨oe, vs, he, hz, hd⟩ := fl.there
  have out : a ∉ frs (X.env :: X.outer) := fun hm => by
    obtain ⟨_, o', e', hn⟩ := fl.2.2.1.mem hm
    cases he.symm.trans e'
    exact hn _ hd
  exact ⟨oe, he, hz, ⟨vs, hd⟩, J.suite he hd c.na
    (fun z => out (List.mem_filterMap.mpr ⟨X.env, List.mem_cons_self, by rw [hf, z]⟩))
    (fun hm => by
      obtain ⟨e, h1, h2⟩ := List.mem_filterMap.mp hm
      exact out (List.mem_filterMap.mpr ⟨e, List.mem_cons_of_mem _ h1, h2⟩))⟩
/-- no clause is left -/
theorem Cau.out (c : Cau X pins σ H a cls d s) (hs : X.stack = X.env :: X.outer) (hf : X.env.frame = some X.env.locals) {W : WX} (tk : Takes X W) (w : W cls d σ H) {Q : Flow → Shared → Prop} : wpAny (model X.prog X.w) X.A (handleBy (.ref a) X.env []) Q X.xe s := by
  have J := c.inv
  obtain ⟨B, sI, I, nb, fl, up, os, ag⟩ := c.ex
  refine wpAny_handleBy_nil ?_
  obtain ⟨_, _, _, oe, vs, T, oT, ts', he, hz, hd, h1, hr⟩ := id fl
  have fin : wpAny (model X.prog X.w) X.A (setFlight (.ref a) X.env.frame) (fun _ s4 => wpAny (model X.prog X.w) X.A (throw (.ref a) : Sem Flow) Q X.xe s4) X.xe s := by
    rw [hf]
    exact HandSPX.setFlight_upZ fl fun h4 hh4 up4 => wpAny_throw (tk _ _ ⟨a, B, sI, pins, σ, H, cls, d, rfl, I, nb, up.trans up4, .inr (.inr (by rw [hs]; exact hh4)), c.na, os, ag, w⟩)
  unfold PySem.passOn
  refine wpAny_bind (wpAny_field he hd h1 ?_)
  rw [if_neg (by simp)]
  first
    | exact wpAny_bind (wpAny_pure (wpAny_bind fin))
    | exact wpAny_bind fin
end
section
variable {X : Cx} {body : List Stmt} {h₀ : ExceptHandler} {hds : List ExceptHandler} {l : List Clause} {pos : Pos} {tb : WX → TS} {Wout : WX}
/-- the clauses, gone through -/
theorem Cau.go {pins : List (Addr × Obj)} {σ : L2.St} {H : Hp} {a : Addr} {cls : Value} {d : Option Addr} {D : Ends} (ok : X.Ok) (hs : X.stack = X.env :: X.outer) (hf : X.env.frame = some X.env.locals) (hN : X.N.Nodup) (tk : Takes X Wout) {hds : List ExceptHandler} {l : List Clause} (hk : HdsAs X hds l) :
    ∀ {s : Shared}, Cau X pins σ H a cls d s → wAsM X.K Wout D l cls d σ H → wpAny (model X.prog X.w) X.A (handleBy (.ref a) X.env hds) (SP X pins D) X.xe s := by
  induction hk with
  | nil => exact fun c w => c.out hs hf tk w
  | @cons x n k i ts b₀ suite np pos' hds2 l2 hi hln hc hsu r ih =>
    intro s c w
    obtain ⟨b, hb1, hyes, hno⟩ := w
    obtain ⟨oe, he, hz, _, S⟩ := c.suite hs hf
    refine wpAny_handleBy_cons (codeAny_handlers_test ?_) (by intro q; cases q)
    have LM := PySem.W.exm_one (M := model X.prog X.w) (c.inv.kIn) (fun A Q E s k q => wpAny_typeOf_ref (k _ _ he) (by rw [hz.1]; exact q)) hb1
    have test : ∀ {Q : Value → Shared → Prop} {E : Value → Shared → Prop}, Q k s → wpAny (model X.prog X.w) (X.A.mark (some (.ref a))) (eval (.Name x np) X.env) Q E s := fun {Q E} q => by
      obtain ⟨hg, hdbg, hm | ⟨hm, hv, hnn⟩⟩ := hc
      · exact ld_glob (X := X.suite a ((a, oe) :: (X.pn ++ pins))) S hg hm q hdbg
      · exact ld_blt (X := X.suite a ((a, oe) :: (X.pn ++ pins))) S hg hm hv q hnn hdbg
    refine test (LM.here ?_)
    cases b with
    | false => exact ih c (hno rfl)
    | true =>
      refine codeAny_handlers_suite_as (c.again fun s4 c4 => ?_)
      obtain ⟨oe4, he4, hz4, hd4, S4⟩ := c4.suite hs hf
      refine store_ok (X := X.suite a ((a, oe4) :: (X.pn ++ pins))) (v := .ref a) S4 hN hi (.inl hln) rfl (fun s5 S5 => ?_) (.inr hln)
      refine wpAny_mono ((hsu a oe4 cls d (X.pn ++ pins) hz4 hd4).run [] s5 _ H _ S5 (hyes rfl a c.na)) (fun f s6 hsp => ?_) (fun _ _ z => False.elim z)
      have gone : ∀ {σ6 : L2.St} {H6 : Hp} {Q : Shared → Prop}, Inv (X.suite a ((a, oe4) :: (X.pn ++ pins))) [] σ6 H6 s6 → (∀ s7, Inv X pins (σ6.set i none) H6 s7 → Q s7) →
          wpAny (model X.prog X.w) X.A (do bindName X.env n .none; unbindBehindTheSuite X.env n pos') (fun _ s7 => Q s7) X.xe s6 := fun S6 hq => gone_ok (S6.unsuite ok) hN hi hln hq
      cases f with
      | ret u =>
        obtain ⟨v6, σ6, H6, S6, r6, q6⟩ := hsp
        exact gone S6 fun s7 J7 => ⟨_, _, _, J7, r6, q6⟩
      | _ =>
        obtain ⟨σ6, H6, S6, q6⟩ := hsp
        exact gone S6 fun s7 J7 => ⟨_, _, J7, q6⟩
theorem ps_try_asM (hs : X.stack = X.env :: X.outer) (hf : X.env.frame = some X.env.locals) (hN : X.N.Nodup) (tk : Takes X Wout)
    (hb : ∀ (W : WX) (pn : List (Addr × Obj)) (xe : Value → Shared → Prop), Takes (X.tr pn xe) W → PassesOwn (model X.prog X.w) X.A X.env xe → PSs (X.tr pn xe) body (tb W))
    (hh : HdsAs X (h₀ :: hds) l) : PS X (.Try body (h₀ :: hds) [] [] pos) (fun D σ H => tb (wAsM X.K Wout D l) D σ H) := by
  refine ⟨fun pins s σ H D I h => ?_⟩
  have ok := I.ok
  have B := hb (wAsM X.K Wout D l) (X.pn ++ pins) (fun e s₁ => wpAny (model X.prog X.w) X.A (noteFrame e X.env) (fun _ s₂ => wpAny (model X.prog X.w) X.A (setFlight e none) (fun _ s₃ =>
    wpAny (model X.prog X.w) X.A (handleBy e X.env (h₀ :: hds)) (SP X pins D) X.xe s₃) X.xe s₂) X.xe s₁) (fun u s' xx => by
      obtain ⟨a, B, sI, pins', σ', H', cls, d, rfl, J', nb, up, sky, na, os, ag, w⟩ := xx
      refine Sky.land Zc.steady (by rw [ok.frames, hs]) hf (by rw [← hs]; exact sky) fun h3 fl3 up3 => ?_
      exact Cau.go ok hs hf hN tk hh ⟨⟨B, sI, J'.ofTry ok, nb, fl3, up.trans up3, os, ag⟩, na⟩ w) PassesOwn.looking
  refine wpAny_Try_except (wpAny_mono (B.run [] s σ H D (I.toTry _) h) (fun f s1 q => ?_) fun _ _ z => z)
  cases f with
  | next => obtain ⟨σ', H', J', q⟩ := q; exact wpAny_execs_nil ⟨σ', H', J'.ofTry ok, q⟩
  | ret u => obtain ⟨v, σ', H', J', r, q⟩ := q; exact ⟨v, σ', H', J'.ofTry ok, r, q⟩
  | _ => obtain ⟨σ', H', J', q⟩ := q; exact ⟨σ', H', J'.ofTry ok, q⟩
end
/-- a clause that does not fit -/
theorem s_missed {K : PySem.W.Frag} {cls c : Value} {i : Nat} {ts : Addr → Value → Option Addr → TS} {D : Ends} {d : Option Addr} {σ : L2.St} {H : Hp} {W : WX} (e : PySem.W.exmOne K cls c = some false) (h : W cls d σ H) : wAs K c i ts W D cls d σ H := ⟨false, e, fun q => (nomatch q), fun _ => h⟩
theorem s_hit {K : PySem.W.Frag} {cls c : Value} {i : Nat} {ts : Addr → Value → Option Addr → TS} {D : Ends} {d : Option Addr} {σ : L2.St} {H : Hp} {W : WX} (e : PySem.W.exmOne K cls c = some true)
    (h : ∀ a, H a = none → ts a cls d { nx := fun σ' H' => D.nx (σ'.set i none) H', rt := D.rt, bk := fun σ' H' => D.bk (σ'.set i none) H', ct := fun σ' H' => D.ct (σ'.set i none) H' } (σ.set i (some (.ref a))) H) : wAs K c i ts W D cls d σ H := ⟨true, e, fun _ a ha => h a ha, fun q => (nomatch q)⟩
theorem s_par3 {i j l : Nat} {tA : TA} {G : Ends} {σ : L2.St} {H : Hp} (h : tA σ H fun vs H1 => ∃ u v w, vs = [u, v, w] ∧ G.nx (((σ.set i (some u)).set j (some v)).set l (some w)) H1) : tPar3 i j l tA G σ H := h
theorem s_par3' {P : V → V → V → Prop} {x y z : V} (h : P x y z) : ∃ u v w, [x, y, z] = [u, v, w] ∧ P u v w := ⟨x, y, z, rfl, h⟩
/-- a call by either of two contracts -/
theorem pe_two {X : Cx} {e : Expr} {t1 t2 : TE} (h1 : PE X e t1) (h2 : PE X e t2) : PE X e (fun σ H Q => t1 σ H Q ∨ t2 σ H Q) := ⟨fun pins s σ H Q I h => h.elim (h1.run pins s σ H Q I) (h2.run pins s σ H Q I)⟩
theorem ps_two {X : Cx} {s : Stmt} {t1 t2 : TS} (h1 : PS X s t1) (h2 : PS X s t2) : PS X s (fun D σ H => t1 D σ H ∨ t2 D σ H) := ⟨fun pins s σ H D I h => h.elim (h1.run pins s σ H D I) (h2.run pins s σ H D I)⟩
end Fs

namespace Fs
open PySem PySem.Spec PyProof.Rows L2
/-! ### cells that are shown to a callee, as things that are read alone -/
theorem topO_ok {P : Program} {w : World} {H : Hp} {h : Heap} {a : Addr} {o : Obj} (e : h.get? a = some o) : ObjOk P w H h a topO := ⟨trivial, ⟨o, e⟩, fun _ _ _ _ => trivial⟩
def addC : List (Addr × Obj) → Hp → Hp
  | [], H => H
  | c :: cs, H => upd (addC cs H) c.1 (.frz c.2 topO)
def cutC (cs : List (Addr × Obj)) (H : Hp) : Hp := fun b => if b ∈ cs.map (·.1) then none else H b
section
variable {P : Program} {w : World} {H H' : Hp} {h h' : Heap} {cs : List (Addr × Obj)} {b : Addr} {o : HO}
theorem addC_ne (n : b ∉ cs.map (·.1)) : addC cs H b = H b := by
  induction cs with
  | nil => rfl
  | cons c cs ih =>
    rw [List.map_cons, List.mem_cons, not_or] at n
    show upd (addC cs H) c.1 _ b = _
    rw [upd_ne n.1, ih n.2]
theorem addC_at (nd : (cs.map (·.1)).Nodup) {c : Addr × Obj} (hc : c ∈ cs) : addC cs H c.1 = some (.frz c.2 topO) := by
  induction cs with
  | nil => cases hc
  | cons d cs ih =>
    rw [List.map_cons, List.nodup_cons] at nd
    show upd (addC cs H) d.1 _ c.1 = _
    rcases List.mem_cons.mp hc with rfl | hc
    · exact upd_same
    · rw [upd_ne (fun e => nd.1 (by rw [← e]; exact List.mem_map_of_mem hc)), ih nd.2 hc]
theorem addC_or (nd : (cs.map (·.1)).Nodup) (b : Addr) : (∃ c ∈ cs, b = c.1 ∧ addC cs H b = some (.frz c.2 topO)) ∨ (b ∉ cs.map (·.1) ∧ addC cs H b = H b) := by
  by_cases hb : b ∈ cs.map (·.1)
  · obtain ⟨c, hc, e⟩ := List.mem_map.mp hb
    exact .inl ⟨c, hc, e.symm, by rw [← e]; exact addC_at nd hc⟩
  · exact .inr ⟨hb, addC_ne hb⟩
theorem cutC_nil {H : Hp} : cutC [] H = H := funext fun b => if_neg (by simp)
theorem cutC_in (hb : b ∈ cs.map (·.1)) : cutC cs H b = none := if_pos hb
theorem cutC_ne (hb : b ∉ cs.map (·.1)) : cutC cs H b = H b := if_neg hb
/-- a description that leans on fewer or more of the things that are not read -/
theorem objOk_of {a : Addr} (x : ObjOk P w H h a o) (ho : ∀ b, H b = some (.own a) → H' b = some (.own a)) (ht : ∀ b xs, H b = some (.tup xs) → H' b = some (.tup xs)) : ObjOk P w H' h a o :=
  x.stay (fun _ _ _ e => e) ho ht
theorem hok_add (nd : (cs.map (·.1)).Nodup) (x : HOk P w H h) (hc : ∀ c ∈ cs, H c.1 = none ∧ h.get? c.1 = some c.2) : HOk P w (addC cs H) h := fun b o e => by
  have out : ∀ b' o', H b' = some o' → addC cs H b' = some o' := fun b' o' e' => by
    rcases addC_or (H := H) nd b' with ⟨c, h1, h2, _⟩ | ⟨_, h2⟩
    · rw [h2, (hc c h1).1] at e'
      cases e'
    · rw [h2]
      exact e'
  rcases addC_or (H := H) nd b with ⟨c, h1, h2, h3⟩ | ⟨_, h2⟩
  · rw [h3] at e
    cases e
    rw [h2]
    exact ⟨(hc c h1).2, topO_ok (hc c h1).2⟩
  · rw [h2] at e
    exact objOk_of (x b o e) (fun _ q => out _ _ q) fun _ _ q => out _ _ q
theorem hok_cut (x : HOk P w H h) (hc : ∀ c ∈ cs, ∃ u, H c.1 = some (.frz c.2 u)) : HOk P w (cutC cs H) h := fun b o e => by
  have hb : b ∉ cs.map (·.1) := fun z => by
    rw [cutC_in z] at e
    cases e
  rw [cutC_ne hb] at e
  have out : ∀ b' o', H b' = some o' → (∀ ob u, o' ≠ .frz ob u) → cutC cs H b' = some o' := fun b' o' e' n => by
    by_cases z : b' ∈ cs.map (·.1)
    · obtain ⟨c, h1, h2⟩ := List.mem_map.mp z
      obtain ⟨u, h3⟩ := hc c h1
      rw [← h2, h3] at e'
      exact (n _ _ (Option.some.inj e').symm).elim
    · rw [cutC_ne z]
      exact e'
  exact objOk_of (x b o e) (fun _ q => out _ _ q fun _ _ z => nomatch z) fun _ _ q => out _ _ q fun _ _ z => nomatch z
end
section
variable {P : Program} {w : World} {K : PySem.W.Frag} {mg : Str → Option Value} {base : Heap} {A : Around} {outer : List Env} {s s' : Shared} {H : Hp} {cs : List (Addr × Obj)} {Q : VK} {u : Value}
/-- things that nobody follows: new since the base, no frames -/
structure Hid (base : Heap) (outer : List Env) (s : Shared) (cs : List (Addr × Obj)) : Prop where
  nd : (cs.map (·.1)).Nodup
  at_ : ∀ c ∈ cs, s.heap.get? c.1 = some c.2
  nb : ∀ c ∈ cs, base.get? c.1 = none
  nf : ∀ c ∈ cs, c.1 ∉ frs outer
theorem env0_add (e : Env0 P w K mg base A outer s H) (d : Hid base outer s cs) (n : ∀ c ∈ cs, H c.1 = none) : Env0 P w K mg base A outer s (addC cs H) where
  frames := e.frames
  mod := e.mod
  bs := fun b o q => ⟨(e.bs b o q).1, by
    rcases addC_or (H := H) d.nd b with ⟨c, h1, h2, _⟩ | ⟨_, h2⟩
    · rw [h2, d.nb c h1] at q
      cases q
    · rw [h2]
      exact (e.bs b o q).2⟩
  bsz := e.bsz
  funs := e.funs
  frf := fun b hb => by
    rcases addC_or (H := H) d.nd b with ⟨c, h1, h2, _⟩ | ⟨_, h2⟩
    · exact absurd (h2 ▸ hb) (d.nf c h1)
    · rw [h2]
      exact e.frf b hb
  hok := hok_add d.nd e.hok fun c hc => ⟨n c hc, d.at_ c hc⟩
  bare := e.bare
theorem ce_cut (d : Hid base outer s cs) (n : ∀ c ∈ cs, H c.1 = none) (x : CE outer P w (addC cs H) s (fun v H2 => Q v (cutC cs H2)) u s') : CE outer P w H s Q u s' := by
  obtain ⟨v, H', os, bare, un, hok, r, q⟩ := x
  have ca : ∀ c ∈ cs, H' c.1 = some (.frz c.2 topO) := fun c hc => un.frzs _ _ _ (addC_at d.nd hc)
  have go : ∀ {b : Addr}, H b = none → (∃ c ∈ cs, b = c.1) ∨ (b ∉ cs.map (·.1) ∧ addC cs H b = none) := fun {b} e => by
    rcases addC_or (H := H) d.nd b with ⟨c, h1, h2, _⟩ | ⟨h1, h2⟩
    · exact .inl ⟨c, h1, h2⟩
    · exact .inr ⟨h1, by rw [h2]; exact e⟩
  have out : ∀ {b : Addr} {o : HO}, H b = some o → b ∉ cs.map (·.1) := fun {b o} e z => by
    obtain ⟨c, h1, h2⟩ := List.mem_map.mp z
    rw [← h2, n c h1] at e
    cases e
  refine ⟨v, cutC cs H', os, bare, ⟨fun b o e hb nf nx => ?_, fun b o e hb hf nx => ?_, fun b o e hb nx => ?_, un.there, fun b xs e => ?_, fun b o x e => ?_, fun b ps e => ?_⟩, hok_cut hok fun c hc => ⟨_, ca c hc⟩, r, q⟩
  · rcases go hb with ⟨c, h1, h2⟩ | ⟨_, h2⟩
    · have := (hok _ _ (ca c h1)).1
      rw [h2] at e ⊢
      rw [d.at_ c h1] at e
      cases e
      exact this
    · exact un.keep b o e h2 nf nx
  · rcases go hb with ⟨c, h1, h2⟩ | ⟨_, h2⟩
    · exact absurd (h2 ▸ hf) (d.nf c h1)
    · exact un.slot b o e h2 hf nx
  · rcases go hb with ⟨c, h1, h2⟩ | ⟨h1, h2⟩
    · exact cutC_in (List.mem_map.mpr ⟨c, h1, h2.symm⟩)
    · rw [cutC_ne h1]
      exact un.free b o e h2 nx
  · rw [cutC_ne (out e)]
    exact un.tups b xs (by rw [addC_ne (out e)]; exact e)
  · rw [cutC_ne (out e)]
    exact un.frzs b o x (by rw [addC_ne (out e)]; exact e)
  · rw [cutC_ne (out e)]
    exact un.tbls b ps (by rw [addC_ne (out e)]; exact e)
theorem env0_cut (e : Env0 P w K mg base A outer s H) (c : ∀ c ∈ cs, H c.1 = some (.frz c.2 topO)) : Env0 P w K mg base A outer s (cutC cs H) where
  frames := e.frames
  mod := e.mod
  bs := fun b o q => ⟨(e.bs b o q).1, by
    by_cases z : b ∈ cs.map (·.1)
    · exact cutC_in z
    · rw [cutC_ne z]
      exact (e.bs b o q).2⟩
  bsz := e.bsz
  funs := e.funs
  frf := fun b hb => by
    by_cases z : b ∈ cs.map (·.1)
    · exact cutC_in z
    · rw [cutC_ne z]
      exact e.frf b hb
  hok := hok_cut e.hok fun d hd => ⟨_, c d hd⟩
  bare := e.bare
theorem ce_add (nd : (cs.map (·.1)).Nodup) (e : Env0 P w K mg base A outer s H) (c : ∀ c ∈ cs, H c.1 = some (.frz c.2 topO)) (x : CE outer P w (cutC cs H) s (fun v H2 => (∀ d ∈ cs, H2 d.1 = none) → Q v (addC cs H2)) u s') : CE outer P w H s Q u s' := by
  obtain ⟨v, H', os, bare, un, hok, r, q⟩ := x
  have at0 : ∀ d ∈ cs, s.heap.get? d.1 = some d.2 := fun d hd => (e.hok _ _ (c d hd)).1
  have nf : ∀ d ∈ cs, d.1 ∉ frs outer := fun d hd z => by
    have := e.frf _ z
    rw [c d hd] at this
    cases this
  have cn : ∀ d ∈ cs, cutC cs H d.1 = none := fun d hd => cutC_in (List.mem_map_of_mem hd)
  have at1 : ∀ d ∈ cs, H' d.1 = none ∧ s'.heap.get? d.1 = some d.2 := fun d hd => ⟨un.free _ _ (at0 d hd) (cn d hd) (by simp), un.keep _ _ (at0 d hd) (cn d hd) (nf d hd) (by simp)⟩
  have out : ∀ {b : Addr}, (∀ d ∈ cs, b ≠ d.1) → b ∉ cs.map (·.1) := fun {b} h z => by
    obtain ⟨d, h1, h2⟩ := List.mem_map.mp z
    exact h d h1 h2.symm
  have n0 : ∀ {b : Addr}, H b = none → b ∉ cs.map (·.1) := fun {b} hb => out fun d hd z => by
    rw [z, c d hd] at hb
    cases hb
  have n1 : ∀ {b : Addr} {o : HO}, H b = some o → (∀ ob u, o ≠ .frz ob u) → b ∉ cs.map (·.1) := fun {b o} hb n => out fun d hd z => by
    rw [z, c d hd] at hb
    exact n _ _ (Option.some.inj hb).symm
  refine ⟨v, addC cs H', os, bare, ⟨fun b o e hb => ?_, fun b o e hb => ?_, fun b o e hb nx => ?_, un.there, fun b xs e => ?_, fun b o x e => ?_, fun b ps e => ?_⟩, hok_add nd hok at1, r, q fun d hd => (at1 d hd).1⟩
  · exact un.keep b o e (by rw [cutC_ne (n0 hb)]; exact hb)
  · exact un.slot b o e (by rw [cutC_ne (n0 hb)]; exact hb)
  · rw [addC_ne (n0 hb)]
    exact un.free b o e (by rw [cutC_ne (n0 hb)]; exact hb) nx
  · have z := n1 e fun _ _ z => nomatch z
    rw [addC_ne z]
    exact un.tups b xs (by rw [cutC_ne z]; exact e)
  · by_cases z : b ∈ cs.map (·.1)
    · obtain ⟨d, h1, h2⟩ := List.mem_map.mp z
      rw [← h2, c d h1] at e
      cases e
      rw [← h2]
      exact addC_at nd h1
    · rw [addC_ne z]
      exact un.frzs b o x (by rw [cutC_ne z]; exact e)
  · have z := n1 e fun _ _ z => nomatch z
    rw [addC_ne z]
    exact un.tbls b ps (by rw [cutC_ne z]; exact e)
end
/-! ### a value that may be called -/
/-- v is a function; its promise sp, wherever what I knows stands -/
def FnV (P : Program) (w : World) (K : PySem.W.Frag) (mg : Str → Option Value) (base : Heap) (k : Nat) (sp : Sp) : V → Hp → Prop := fun v I => ∃ f : Addr, v = .ref f ∧ (∀ H h, HOk P w H h → Same I H → PySem.W.FnAt f h) ∧
  ∀ (A : Around) (outer : List Env) (s : Shared) (H : Hp) (us : List Value) (vs : List V) (Q : VK), Room k A → Env0 P w K mg base A outer s H → Vals vs us → Same I H → sp vs H Q E0 → codeAny (model P w) A (.call (.ref f) ⟨us, []⟩) (CR CX0 outer P w H s Q E0) s
theorem FnV.imp {P : Program} {w : World} {K : PySem.W.Frag} {mg : Str → Option Value} {base : Heap} {j k : Nat} {sp sp' : Sp} {v : V} {I : Hp} (x : FnV P w K mg base j sp v I) (hk : j ≤ k) (h : ∀ vs H Q, sp' vs H Q E0 → sp vs H Q E0) : FnV P w K mg base k sp' v I := by
  obtain ⟨f, e, a, r⟩ := x
  exact ⟨f, e, a, fun A outer s H us vs Q hr e0 rv sm q => r A outer s H us vs Q (hr.mono hk) e0 rv sm (h _ _ _ q)⟩
def CallV (P : Program) (w : World) (K : PySem.W.Frag) (mg : Str → Option Value) (base : Heap) (k : Nat) (v : V) (vs : List V) (H : Hp) (Q : VK) : Prop := ∃ (sp : Sp) (I : Hp), FnV P w K mg base k sp v I ∧ Same I H ∧ sp vs H Q E0
def IsFnV (P : Program) (w : World) (K : PySem.W.Frag) (mg : Str → Option Value) (base : Heap) (k : Nat) (v : V) (H : Hp) : Prop := ∃ (sp : Sp) (I : Hp), FnV P w K mg base k sp v I ∧ Same I H
def tCallV (P : Program) (w : World) (K : PySem.W.Frag) (mg : Str → Option Value) (base : Heap) (k i : Nat) (t : TA) : TE := fun σ H Q => ∃ v, σ[i]? = some (some v) ∧ IsFnV P w K mg base k v H ∧ t σ H fun vs H1 => CallV P w K mg base k v vs H1 Q
section
variable {X : Cx} {a : Str} {i k : Nat} {p1 p2 : Pos} {e : Expr} {es : List Expr} {t : TA}
theorem pe_callV (hN : X.N[i]? = some a) (hv : Vis X.env.scope a) (hr : Room k X.A) (ha : PA X (e :: es) t) (hd : (a == ("__debug__" : Str)) = false := by decide) (hcd : (a == ("__classdict__" : Str)) = false := by decide)
    (he : starEach (e :: es) X.env = (false, eval e X.env) :: starEach es X.env := by rfl) (hpl : (backTo p2 (starEach es X.env)).any (·.1) = false := by rfl) :
    PE X (.Call (.Name a p1) (e :: es) [] p2) (tCallV X.prog X.w X.K X.mg X.base k i t) := by
  refine ⟨fun pins s σ H Q J h => ?_⟩
  obtain ⟨v, hs, ⟨sp0, I0, ⟨f, ev, fa, _⟩, sm0⟩, h⟩ := h
  subst ev
  refine wpAny_Call_Name_kw (thn ((pe_var (pos := p1) (i := i) hN hv hd hcd).run pins s σ H (fun v H1 => v = .ref f ∧ H1 = H) J ⟨.ref f, hs, rfl, rfl⟩) fun u s1 ⟨v, H1, J1, r1, q1⟩ => ?_)
  obtain ⟨ev, eH⟩ := q1
  subst ev
  rw [eH] at J1
  obtain rfl : u = Value.ref f := r1
  refine PySem.W.callWith_F (fa _ _ J1.hok sm0) (thn (ha.run p2 pins s1 σ H _ J1 h) fun us s2 ⟨vs, H2, J2, rv, sp, I, ⟨f2, ef, fa2, run⟩, sm, q⟩ => ?_) he hpl
  cases ef
  refine ⟨fa2 _ _ J2.hok sm, wpAny_call (codeAny_mono (run X.A X.stack s2 H2 us vs Q hr J2.env0 rv sm q) fun r s' z => ?_)⟩
  cases r with
  | error er => exact False.elim z
  | ok fl =>
    cases fl with
    | ret u => exact J2.after z
    | next => exact False.elim z
    | brk => exact False.elim z
    | cont => exact False.elim z
end
/-! ### calls out of a frame whose cells others captured -/
/-- the address of the cell of the j-th name -/
def cAt (X : Cx) (j : Nat) : Addr := (X.env.cells.lookup ((X.N[j]?).getD (Str.ofString ""))).getD 0
/-- the cells of the slots js as objects -/
def CellsFor (X : Cx) (σ : L2.St) (js : List Nat) (cs : List (Addr × Obj)) : Prop := Paired (fun (j : Nat) (c : Addr × Obj) => c.1 = cAt X j ∧ ∃ v, σ[j]? = some (some v) ∧ CelO c.2 v) js cs
theorem CellsFor.adr {X : Cx} {σ : L2.St} : ∀ {js : List Nat} {cs : List (Addr × Obj)}, CellsFor X σ js cs → cs.map (·.1) = js.map (cAt X)
  | _, _, .nil => rfl
  | _, _, .cons h t => by rw [List.map_cons, List.map_cons, h.1, CellsFor.adr t]
def celM (X : Cx) (js : List Nat) (vs : List V) : List ME := (js.zip vs).map fun p => .cel (cAt X p.1) p.2
section
variable {X : Cx} {pins : List (Addr × Obj)} {σ : L2.St} {H : Hp} {s : Shared} {cs : List (Addr × Obj)} {js : List Nat}
/-- slots that are cells of this def, told apart -/
structure Celled (X : Cx) (js : List Nat) : Prop where
  nd : js.Nodup
  nN : X.N.Nodup
  k : ∀ j ∈ js, ∃ y, X.N[j]? = some y ∧ X.env.scope.names.lookup y = some .cell
  fn : ∀ y, X.fn y = true
theorem cells_are (J : Inv X pins σ H s) (c : Celled X js) (h : ∀ j ∈ js, ∃ v, σ[j]? = some (some v)) : ∃ cs, CellsFor X σ js cs ∧ Hid X.base X.stack s cs ∧ ∀ d ∈ cs, H d.1 = none := by
  have one : ∀ j ∈ js, ∃ o y, X.N[j]? = some y ∧ X.env.cells.lookup y = some (cAt X j) ∧ s.heap.get? (cAt X j) = some o ∧ ∃ v, σ[j]? = some (some v) ∧ CelO o v := fun j hj => by
    obtain ⟨y, h1, h2⟩ := c.k j hj
    obtain ⟨v, hv⟩ := h j hj
    obtain ⟨m, _, hl⟩ := J.loc
    obtain ⟨u, ru, hk⟩ := hl j y v h1 hv (.inr (.inl h2))
    rcases hk with ⟨hk, _⟩ | ⟨_, a, ha, o, ho, hd⟩
    · have hk : X.env.scope.names.lookup y = some .local := hk
      rw [h2] at hk
      cases hk
    · have e : cAt X j = a := by
        unfold cAt
        rw [h1]
        show (X.env.cells.lookup y).getD 0 = a
        rw [ha]
        rfl
      rw [e]
      exact ⟨o, y, h1, ha, ho, v, hv, u, hd, ru⟩
  have ex : ∃ cs, CellsFor X σ js cs ∧ ∀ d ∈ cs, s.heap.get? d.1 = some d.2 ∧ ∃ y, X.env.cells.lookup y = some d.1 := by
    clear c h
    revert one
    induction js with
    | nil => exact fun _ => ⟨[], .nil, fun _ h => nomatch h⟩
    | cons j js ih =>
      intro one
      obtain ⟨o, y, _, h1, h2, h3⟩ := one j List.mem_cons_self
      obtain ⟨cs, i1, i2⟩ := ih fun j hj => one j (List.mem_cons_of_mem _ hj)
      refine ⟨(cAt X j, o) :: cs, .cons ⟨rfl, h3⟩ i1, fun d hd => ?_⟩
      rcases List.mem_cons.mp hd with rfl | hd
      · exact ⟨h2, y, h1⟩
      · exact i2 d hd
  obtain ⟨cs, c1, c2⟩ := ex
  have low : ∀ d ∈ cs, X.s_0.heap.objs.size ≤ d.1 := fun d hd => by
    obtain ⟨y, hy⟩ := (c2 d hd).2
    exact J.ok.cab y d.1 (c.fn y) hy
  refine ⟨cs, c1, ⟨?_, fun d hd => (c2 d hd).1, fun d hd => ?_, fun d hd z => ?_⟩, fun d hd => ?_⟩
  · rw [c1.adr]
    refine List.pairwise_map.mpr (c.nd.imp_of_mem fun {a b} ha hb ne e => ne ?_)
    obtain ⟨_, y, n1, l1, _⟩ := one a ha
    obtain ⟨_, z, n2, l2, _⟩ := one b hb
    have e2 : y = z := J.ok.inj y z _ l1 (by rw [e]; exact l2)
    rw [← e2] at n2
    exact nodup_ix c.nN n1 n2
  · exact Heap.get?_none_of_le (Nat.le_trans J.ok.bsz (low d hd))
  · rcases List.mem_cons.mp (J.stkSub _ z) with e | e
    · obtain ⟨y, hy⟩ := (c2 d hd).2
      exact J.cne y _ hy e
    · obtain ⟨_, o, ho, _⟩ := J.ok.funs.mem e
      exact absurd (Nat.lt_of_lt_of_le (Heap.lt_size ho) (low d hd)) (Nat.lt_irrefl _)
  · obtain ⟨y, hy⟩ := (c2 d hd).2
    exact J.freeC y _ hy
/-- what a callee's promise is asked, the cells shown -/
def ShowQ (X : Cx) (js : List Nat) (sp : Sp) (vs : List V) (σ : L2.St) (H : Hp) (Q : VK) : Prop := (∀ j ∈ js, ∃ v, σ[j]? = some (some v)) ∧ ∀ cs, CellsFor X σ js cs → (cs.map (·.1)).Nodup → (∀ d ∈ cs, H d.1 = none) → sp vs (addC cs H) (fun v H2 => Q v (cutC cs H2)) E0
section
variable {k : Nat} {f C : Addr} {fd : FuncData} {ps : List Str} {sp : Sp} {dvs vs : List V} {ds us : List Value} {Q : VK}
theorem run_fnC (F : FnOk X.prog X.w X.K X.mg X.base CX0 k f fd ps sp) (hr : Room k X.A) (hb : Binds X.K fd ps ds) (hd : Vals dvs ds) (c : Celled X js) (J : Inv X pins σ H s) (r : Vals vs us) (h : ShowQ X js sp (vs ++ dvs) σ H Q) :
    wpAny (model X.prog X.w) X.A (call (.ref f) us) (EP X pins σ Q) X.xe s := by
  obtain ⟨cs, c1, c2, c3⟩ := cells_are J c h.1
  have q := h.2 cs c1 c2.nd c3
  have r2 : Vals (vs ++ dvs) (us ++ ds) := r.append hd
  have hl : (us ++ ds).length = ps.length := by rw [← r2.length]; exact F.len _ _ _ _ q
  refine wpAny_call (codeAny_mono (F.run X.A X.stack s (addC cs H) ⟨us, []⟩ (us ++ ds) (vs ++ dvs) _ E0 hr (env0_add J.env0 c2 c3) (hb s us J.kIn hl) r2 q) fun z s' hz => ?_)
  match z, hz with
  | .ok (.ret u), hz => exact J.after (ce_cut c2 c3 hz)
  | .ok .next, hz => exact False.elim hz
  | .ok .brk, hz => exact False.elim hz
  | .ok .cont, hz => exact False.elim hz
  | .error er, hz => exact False.elim hz
end
end
section
variable {F : List (V × D)} {H : Hp} {M M' : List ME} {X : Cx} {σ : L2.St} {js : List Nat} {vs us : List V} {cs : List (Addr × Obj)} {Q : VK} {sp : Sp}
theorem CellsFor.cn {I : Hp} : ∀ {js : List Nat} {cs : List (Addr × Obj)} {us : List V}, CellsFor X σ js cs → js.map (fun j => σ[j]?) = us.map (fun u => some (some u)) → CnA I (celM X js us) (cs.map fun c => (c.1, .frz c.2 topO))
  | _, _, [], .nil, _ => .nil
  | _, _, _ :: _, .nil, e => by cases e
  | _, _, [], .cons _ _, e => by cases e
  | j :: _, c :: _, u :: us, .cons ⟨h1, v, h2, h3⟩ t, e => by
    injection e with e1 e2
    cases h2.symm.trans e1
    refine .cons ?_ (CellsFor.cn t e2)
    show Cn I (.cel (cAt X j) u) (c.1, .frz c.2 topO)
    rw [← h1]
    exact .cel h3
theorem Wf.shown (w : Wf F H M) (c : CellsFor X σ js cs) (nd : (cs.map (·.1)).Nodup) (n : ∀ d ∈ cs, H d.1 = none) (hv : js.map (fun j => σ[j]?) = us.map (fun u => some (some u))) : Wf F (addC cs H) (celM X js us ++ M) := by
  obtain ⟨I, Mc, w, a, hF⟩ := w.ex
  have out : ∀ {b : Addr} {o : HO}, H b = some o → b ∉ cs.map (·.1) := fun {b o} e z => by
    obtain ⟨d, h1, h2⟩ := List.mem_map.mp z
    rw [← h2, n d h1] at e
    cases e
  have app : ∀ {M1 M2 : List ME} {N1 N2 : List (Addr × HO)}, CnA I M1 N1 → CnA I M2 N2 → CnA I (M1 ++ M2) (N1 ++ N2) := fun {M1 M2 N1 N2} h1 h2 => by
    induction h1 with
    | nil => exact h2
    | cons h _ ih => exact .cons h ih
  refine ⟨I, cs.map (fun c => (c.1, .frz c.2 topO)) ++ Mc, ⟨fun b x e => ?_, fun p hp => ?_, ?_⟩, app (c.cn hv) a, hF⟩
  · rw [addC_ne (out (w.imm _ _ e))]
    exact w.imm _ _ e
  · rcases List.mem_append.mp hp with h | h
    · obtain ⟨d, h1, rfl⟩ := List.mem_map.mp h
      exact ⟨addC_at nd h1, w.imm.free (n d h1)⟩
    · obtain ⟨h1, h2⟩ := w.mu p h
      exact ⟨by rw [addC_ne (out h1)]; exact h1, h2⟩
  · rw [List.map_append, List.map_map]
    refine List.nodup_append.mpr ⟨nd, w.nd, fun x hx y hy e => ?_⟩
    obtain ⟨p, h1, h2⟩ := List.mem_map.mp hy
    have := out (w.mu p h1).1
    rw [h2, ← e] at this
    exact this hx
theorem CnA.split {I : Hp} {M2 : List ME} : ∀ {M1 : List ME} {N : List (Addr × HO)}, CnA I (M1 ++ M2) N → ∃ N1 N2, N = N1 ++ N2 ∧ CnA I M1 N1 ∧ CnA I M2 N2
  | [], N, a => ⟨[], N, rfl, .nil, a⟩
  | _ :: _, _, .cons h a => by
    obtain ⟨N1, N2, rfl, h1, h2⟩ := CnA.split a
    exact ⟨_ :: N1, N2, rfl, .cons h h1, h2⟩
theorem cel_adr {I : Hp} : ∀ {js : List Nat} {us : List V} {N : List (Addr × HO)}, js.length = us.length → CnA I (celM X js us) N → N.map (·.1) = js.map (cAt X)
  | [], [], _, _, a => by cases a; rfl
  | [], _ :: _, _, e, _ => by cases e
  | _ :: _, [], _, e, _ => by cases e
  | j :: js, u :: us, _, e, a => by
    cases a with
    | cons h a =>
      cases h
      rw [List.map_cons, List.map_cons, cel_adr (Nat.succ.inj e) a]
theorem Wf.hidden (w : Wf F H (celM X js us ++ M)) (hl : js.length = us.length) (ha : cs.map (·.1) = js.map (cAt X)) : Wf F (cutC cs H) M := by
  obtain ⟨I, Mc, w, a, hF⟩ := w.ex
  obtain ⟨N1, N2, rfl, a1, a2⟩ := a.split
  have e := cel_adr hl a1
  rw [← ha] at e
  have nd := w.nd
  rw [List.map_append] at nd
  obtain ⟨_, nd2, nd3⟩ := List.nodup_append.mp nd
  refine ⟨I, N2, ⟨fun b x h => ?_, fun p hp => ?_, nd2⟩, a2, hF⟩
  · by_cases z : b ∈ cs.map (·.1)
    · rw [← e] at z
      obtain ⟨p, h1, h2⟩ := List.mem_map.mp z
      have := (w.mu p (List.mem_append_left _ h1)).2
      rw [h2, h] at this
      cases this
    · rw [cutC_ne z]
      exact w.imm _ _ h
  · obtain ⟨h1, h2⟩ := w.mu p (List.mem_append_right _ hp)
    refine ⟨?_, h2⟩
    rw [cutC_ne (fun z => ?_)]
    · exact h1
    · rw [← e] at z
      exact nd3 _ z _ (List.mem_map_of_mem hp) rfl
/-- a promise asked with the cells shown -/
theorem n_shown (w : Wf F H M) (hv : js.map (fun j => σ[j]?) = us.map (fun u => some (some u)))
    (h : ∀ H1 (Q1 : VK), Wf F H1 (celM X js us ++ M) → (∀ v F' M' H2, Wf F' H2 (celM X js us ++ M') → (∀ H3, Wf F' H3 M' → Q v H3) → Q1 v H2) → sp vs H1 Q1 E0) : ShowQ X js sp vs σ H Q := by
  have hl : js.length = us.length := by
    have := congrArg List.length hv
    rwa [List.length_map, List.length_map] at this
  refine ⟨fun j hj => ?_, fun cs c nd n => h _ _ (w.shown c nd n hv) fun v F' M' H2 w2 q => q _ (w2.hidden hl c.adr)⟩
  clear h hl
  induction js generalizing us with
  | nil => cases hj
  | cons i js ih =>
    cases us with
    | nil => cases hv
    | cons u us =>
      injection hv with e1 e2
      rcases List.mem_cons.mp hj with rfl | hj
      · exact ⟨u, e1⟩
      · exact ih e2 hj
end
/-! ### a lambda is made -/
/-- its words -/
structure LW where
  params : Arguments
  body : Expr
  scope : Scope
  qual : Str
  cl : List (Str × Addr)
def LamO (f : Addr) (L : LW) (c : Addr) : HO := .ext fun h => ∃ pm ctv : Value, h.get? f = some (PySem.W.kla_obj "<lambda>" L.qual L.params L.body L.scope L.cl pm c ctv)
theorem lamO_new {P : Program} {w : World} {H : Hp} {h : Heap} {f c : Addr} {L : LW} {pm ctv : Value} (e : h.get? f = some (PySem.W.kla_obj "<lambda>" L.qual L.params L.body L.scope L.cl pm c ctv)) : ObjOk P w H h f (LamO f L c) :=
  ⟨⟨pm, ctv, e⟩, ⟨_, e⟩, fun _ _ ⟨pm, ctv, z⟩ st => ⟨pm, ctv, st _ z⟩⟩
theorem lamO_at {P : Program} {w : World} {H : Hp} {h : Heap} {f c : Addr} {L : LW} (x : HOk P w H h) (e : H f = some (LamO f L c)) : ∃ pm ctv : Value, h.get? f = some (PySem.W.kla_obj "<lambda>" L.qual L.params L.body L.scope L.cl pm c ctv) := (x f _ e).1
/-- a table of code objects, all of the name q -/
def TabK (H : Hp) (q : Str) (ps : Array Value) : Prop := TriplesOk ps.toList ∧ ∀ (pos : Pos) (cv : Value), codeAmong pos ps.toList = some cv → ∃ c, cv = .ref c ∧ H c = some (LamX.CodeO c q)
def tLamV (Pt : Addr) (pos : Pos) (L : LW) : TE := fun _ H Q => ∃ ps : Array Value, H Pt = some (.tbl ps) ∧ TabK H L.qual ps ∧
  (∀ f c, H c = none → H f = none → f ≠ c → Q (.ref f) (upd (upd (upd H Pt (.tbl (ps ++ #[rawInt pos.line, rawInt pos.col, .ref c]))) c (LamX.CodeO c L.qual)) f (LamO f L c))) ∧
  ∀ f c, codeAmong pos ps.toList = some (.ref c) → H f = none → Q (.ref f) (upd H f (LamO f L c))
section
variable {X : Cx} {c P : Addr} {params : Arguments} {body : Expr} {scope : Scope} {pos : Pos}
theorem pe_lamV (B : LamX.TabB X.base X.mg c P) (hcode : X.env.code = .ref c) (hdef : defaultsOf params X.env = ([], [])) (hfree : ∀ y ∈ scope.names, y.2 = .free → X.env.scope.names.lookup y.1 = some .cell ∨ X.env.scope.names.lookup y.1 = some .free) :
    PE X (.Lambda params body scope pos) (tLamV P pos ⟨params, body, scope, X.env.qual ++ "<lambda>", cloFrom X.env.cells scope.names []⟩) := by
  refine ⟨fun pins s σ H Q J h => ?_⟩
  obtain ⟨ps, hP, ⟨tok, tell⟩, miss, hit⟩ := h
  have clo := closure_ok (scope := scope) (env := X.env) fun y hy e => (hfree y hy e).elim (fun z => J.ok.has _ (.inl z)) fun z => J.ok.has _ (.inr z)
  have oP : s.heap.get? P = some { cls := .none, data := .fields ps } := J.hok P _ hP
  have bP := B.bm.keeps J.bk
  refine PySem.W.kla_eval hdef ?_
  cases among : codeAmong pos ps.toList with
  | some cv =>
    obtain ⟨k, ek, hk⟩ := tell pos cv among
    subst ek
    refine PySem.W.kla_makeFunctionHit (c := c) (P := P) (mg := X.mg) clo J.ok.glob (J.mod.glob.keeps J.bk) hcode (B.code.keeps J.bk) oP tok among bP fun ctv h2 tk ext big => ?_
    have J2 : Inv X pins σ H { s with heap := h2, toks := tk } := J.kept ext
    refine ⟨.ref _, _, J2.laid (o := LamO h2.objs.size ⟨params, body, scope, X.env.qual ++ "<lambda>", cloFrom X.env.cells scope.names []⟩ k) (fun b u e => ?_) (Nat.le_refl _) (lamO_new (pm := (X.mg "__name__").getD .none) (ctv := ctv) ?_), rfl, hit _ _ among (J2.hok.fresh (Nat.le_refl _))⟩
    · exact Heap.get?_push_of_some _ e
    · exact Heap.get?_push_size _ rfl
  | none =>
    refine PySem.W.kla_makeFunction (c := c) (P := P) (mg := X.mg) clo J.ok.glob (J.mod.glob.keeps J.bk) hcode (B.code.keeps J.bk) oP tok among B.gP bP fun k ctv h2 tk ext low high rec tab => ?_
    obtain ⟨k2, ob, vs, t, e2, ho, hd, hv⟩ := rec
    cases e2
    have J2 := LamX.inv_table (t' := tk) (more := #[rawInt pos.line, rawInt pos.col, .ref k]) J hP (fun b o nb e => ext b o nb e) tab low ⟨ob, vs, t, ho, hd, hv⟩
    refine ⟨.ref _, _, J2.laid (o := LamO h2.objs.size ⟨params, body, scope, X.env.qual ++ "<lambda>", cloFrom X.env.cells scope.names []⟩ k) (fun b u e => ?_) (Nat.le_refl _) (lamO_new (pm := (X.mg "__name__").getD .none) (ctv := ctv) ?_), rfl, miss _ _ (J.hok.fresh low) (J.hok.fresh (Nat.le_trans low (Nat.le_of_lt high))) (Nat.ne_of_gt high)⟩
    · exact Heap.get?_push_of_some _ e
    · exact Heap.get?_push_size _ rfl
end
theorem Foc.self {e : ME} : ∀ {M : List ME}, e ∈ M → Foc M e M e
  | _ :: _, h => by
    rcases List.mem_cons.mp h with rfl | h
    · exact .here
    · exact .there (Foc.self h)
section
variable {F : List (V × D)} {σ : L2.St} {H : Hp} {M : List ME} {Q : VK} {Pt : Addr} {pos : Pos} {L : LW} {φ : V → Hp → Prop}
theorem n_lam (w : Wf F H M) (hm : .tb Pt L.qual ∈ M) (hφ : ∀ f c I, I f = some (LamO f L c) → I c = some (LamX.CodeO c L.qual) → φ (.ref f) I) (q : ∀ f H', Wf ((.ref f, .fact φ) :: F) H' M → Q (.ref f) H') : tLamV Pt pos L σ H Q := by
  obtain ⟨I, Mc, w, a, hF⟩ := w.ex
  obtain ⟨M1, m, M2, rfl, c1, c2⟩ := a.foc (Foc.self hm)
  cases c1 with
  | @tb _ _ ps tok tell =>
    have hP : H Pt = some (.tbl ps) := w.at
    refine ⟨ps, hP, ⟨tok, fun p cv e => let ⟨k, h1, h2⟩ := tell p cv e; ⟨k, h1, w.imm _ _ h2⟩⟩, fun f k nk nf ne => q f _ ?_, fun f k hk nf => q f _ ?_⟩
    · have kP : k ≠ Pt := fun e => by rw [e, hP] at nk; cases nk
      have fP : f ≠ Pt := fun e => by rw [e, hP] at nf; cases nf
      have w1 : W I (upd H Pt (.tbl (ps ++ #[rawInt pos.line, rawInt pos.col, .ref k]))) _ := w.put
      have n1 : upd H Pt (.tbl (ps ++ #[rawInt pos.line, rawInt pos.col, .ref k])) k = none := by rw [upd_ne kP]; exact nk
      have w2 := w1.newI (o := LamX.CodeO k L.qual) n1
      have n2 : upd (upd H Pt (.tbl (ps ++ #[rawInt pos.line, rawInt pos.col, .ref k]))) k (LamX.CodeO k L.qual) f = none := by rw [upd_ne ne, upd_ne fP]; exact nf
      have w3 := w2.newI (o := LamO f L k) n2
      have s1 : Same I (upd I k (LamX.CodeO k L.qual)) := w1.same n1
      have s2 : Same (upd I k (LamX.CodeO k L.qual)) (upd (upd I k (LamX.CodeO k L.qual)) f (LamO f L k)) := w2.same n2
      refine ⟨_, _, w3, c2 _ _ (s1.trans s2) (.tb ?_ fun p cv e => ?_), fun g hg => ?_⟩
      · rw [show (ps ++ #[rawInt pos.line, rawInt pos.col, .ref k]).toList = ps.toList ++ [rawInt pos.line, rawInt pos.col, .ref k] by simp]
        exact PySem.TriplesOk_snoc _ _ _ _ tok
      · rw [show (ps ++ #[rawInt pos.line, rawInt pos.col, .ref k]).toList = ps.toList ++ [rawInt pos.line, rawInt pos.col, .ref k] by simp] at e
        rcases LamX.among_app _ tok e with z | z
        · obtain ⟨j, h1, h2⟩ := tell p cv z
          exact ⟨j, h1, s2 _ _ (s1 _ _ h2)⟩
        · exact ⟨k, z, s2 _ _ upd_same⟩
      · rcases List.mem_cons.mp hg with rfl | hg
        · exact .fact (Same.refl _) (hφ f k _ upd_same (by rw [upd_ne ne.symm]; exact upd_same))
        · exact (hF g hg).mono (s1.trans s2)
    · have w3 := w.newI (o := LamO f L k) nf
      have s2 : Same I (upd I f (LamO f L k)) := w.same nf
      obtain ⟨j, e1, ho⟩ := tell pos _ hk
      cases e1
      refine ⟨_, _, w3, c2 _ _ s2 (.tb tok fun p cv e => let ⟨j, h1, h2⟩ := tell p cv e; ⟨j, h1, s2 _ _ h2⟩), fun g hg => ?_⟩
      rcases List.mem_cons.mp hg with rfl | hg
      · exact .fact (Same.refl _) (hφ f k _ upd_same (s2 _ _ ho))
      · exact (hF g hg).mono s2
end
/-! ### what a lambda promises -/
abbrev LW.nf (L : LW) (c : Addr) : NdefX.NF := ⟨"<lambda>", L.qual, L.params, [], L.scope, L.cl, c⟩
theorem paired_at {α β : Type} {R : α → β → Prop} : ∀ {l : List α} {m : List β}, Paired R l m → ∀ {i : Nat} {a : α}, l[i]? = some a → ∃ b, m[i]? = some b ∧ R a b
  | _, _, .nil, i, a, e => by simp at e
  | _, _, .cons h _, 0, a, e => by simp at e; subst e; exact ⟨_, rfl, h⟩
  | _, _, .cons _ t, i + 1, a, e => by
    obtain ⟨b, h1, h2⟩ := paired_at t (i := i) (a := a) (by simpa using e)
    exact ⟨b, by simpa using h1, h2⟩
theorem paired_nodup {cl : List (Str × Addr)} (hinj : ∀ x y c, cl.lookup x = some c → cl.lookup y = some c → x = y) : ∀ {fr : List Str} {cs : List (Addr × Obj)}, Paired (fun y (c : Addr × Obj) => cl.lookup y = some c.1) fr cs → fr.Nodup → (cs.map (·.1)).Nodup
  | _, _, .nil, _ => List.nodup_nil
  | y :: fr, c :: cs, .cons h t, nd => by
    obtain ⟨n1, n2⟩ := List.nodup_cons.mp nd
    refine List.nodup_cons.mpr ⟨fun z => n1 ?_, paired_nodup hinj t n2⟩
    clear nd n1 n2
    revert z
    generalize hcs : cs = ds at t
    intro z
    obtain ⟨d, h1, h2⟩ := List.mem_map.mp z
    have aux : ∀ {fr : List Str} {ds : List (Addr × Obj)}, Paired (fun y (c : Addr × Obj) => cl.lookup y = some c.1) fr ds → d ∈ ds → ∃ x ∈ fr, cl.lookup x = some d.1 := fun {fr ds} t => by
      induction t with
      | nil => exact fun h => nomatch h
      | cons h t ih =>
        intro hd
        rcases List.mem_cons.mp hd with rfl | hd
        · exact ⟨_, List.mem_cons_self, h⟩
        · obtain ⟨x, q1, q2⟩ := ih hd
          exact ⟨x, List.mem_cons_of_mem _ q1, q2⟩
    obtain ⟨x, q1, q2⟩ := aux t h1
    rw [hinj y x c.1 h (by rw [show c.1 = d.1 from h2.symm]; exact q2)]
    exact q1
section
variable {P : Program} {w : World} {K : PySem.W.Frag} {mg : Str → Option Value} {base : Heap} {N ps fr : List Str} {f c : Addr} {k : Nat} {sp : Sp} {L : LW} {I : Hp}
theorem fnV_lam (S : NdefX.NScope N ps fr L.scope) (hb : ∀ (pm cv ctv : Value) (us : List Value), us.length = ps.length → bindArgs (PySem.W.kla_fn "<lambda>" L.qual L.params L.body L.scope L.cl pm cv ctv) ⟨us, []⟩ = pure (ps.zip us))
    (hinj : ∀ x y c, L.cl.lookup x = some c → L.cl.lookup y = some c → x = y) (hfr : ∀ y c, L.cl.lookup y = some c → y ∈ fr)
    (hsp : ∀ vs H Q, sp vs H Q E0 → vs.length = ps.length ∧ ∃ (cs : List (Addr × Obj)) (ws : List V), Paired (fun y (c : Addr × Obj) => L.cl.lookup y = some c.1) fr cs ∧ Paired (fun (c : Addr × Obj) w => CelO c.2 w) cs ws ∧ (∀ c ∈ cs, H c.1 = some (.frz c.2 topO)) ∧
      ∀ (A : Around) (outer : List Env) (s : Shared) (f c : Addr), Room k (A.deeper (NdefX.envF (L.nf c) f s.heap.objs.size)) → ∃ t, PE (NdefX.ncx CX0 P w K mg base N (L.nf c) f A outer s (cutC cs H) E0) L.body t ∧ t (NdefX.startF N vs (ws.map some)) (cutC cs H) (fun v H2 => (∀ d ∈ cs, H2 d.1 = none) → Q v (addC cs H2)))
    (hf : I f = some (LamO f L c)) (hc : I c = some (LamX.CodeO c L.qual)) : FnV P w K mg base (k + 1) sp (.ref f) I := by
  refine ⟨f, rfl, fun H h x sm => ?_, fun A outer s H us vs Q hr e0 rv sm q => ?_⟩
  · obtain ⟨pm, ctv, e⟩ := lamO_at x (sm _ _ hf)
    exact ⟨_, _, _, _, e⟩
  obtain ⟨hl, cs, ws, p1, p2, hcs, body⟩ := hsp vs H Q q
  obtain ⟨pm, ctv, ho⟩ := lamO_at e0.hok (sm _ _ hf)
  obtain ⟨⟨oc, cvs, t, hoc, hdc, hvc⟩, _, _⟩ := e0.hok c _ (sm _ _ hc)
  have ndf : fr.Nodup := by
    have z := S.nd.sublist (List.take_sublist (ps.length + fr.length) N)
    rw [S.pre] at z
    exact (List.nodup_append.mp z).2.1
  have nd := paired_nodup hinj p1 ndf
  have e1 := env0_cut e0 hcs
  have C : NdefX.CellsAt L.cl fr (ws.map some) s.heap (cutC cs H) := by
    have one : ∀ (i : Nat) (y : Str), fr[i]? = some y → ∃ d ∈ cs, L.cl.lookup y = some d.1 ∧ ∃ v u, ws[i]? = some v ∧ RelV v u ∧ s.heap.IsCell d.1 (some u) := fun i y hy => by
      obtain ⟨d, q1, q2⟩ := paired_at p1 hy
      obtain ⟨v, q3, u, q4, q5⟩ := paired_at p2 q1
      exact ⟨d, List.mem_of_getElem? q1, q2, v, u, q3, q5, d.2, (e0.hok _ _ (hcs d (List.mem_of_getElem? q1))).1, q4⟩
    refine ⟨?_, fun y a ha => ?_, hinj, fun i y hy => ?_⟩
    · rw [List.length_map, ← p2.length, ← p1.length]
    · obtain ⟨i, hi⟩ := List.mem_iff_getElem?.mp (hfr y a ha)
      obtain ⟨d, q1, q2, v, u, _, _, q3⟩ := one i y hi
      rw [ha] at q2
      cases q2
      exact ⟨cutC_in (List.mem_map_of_mem q1), _, q3⟩
    · obtain ⟨d, q1, q2, v, u, q3, q4, q5⟩ := one i y hy
      refine ⟨d.1, q2, fun v2 h2 => ⟨u, ?_, q5⟩⟩
      rw [List.getElem?_map, q3] at h2
      cases h2
      exact q4
  have fin : codeAny (model P w) A (.call (.ref f) ⟨us, []⟩) (CR CX0 outer P w (cutC cs H) s (fun v H2 => (∀ d ∈ cs, H2 d.1 = none) → Q v (addC cs H2)) E0) s := by
    have lim : s.heap.NoLimit := e0.mod.nolimit.keeps fun b o e => (e0.bs b o e).1
    refine PySem.W.kla_callFunE hr.depth ho rfl S.co S.gen rfl ⟨c, oc, cvs, t, rfl, hoc, hdc, hvc⟩ ?_
    rw [hb _ _ _ us (by rw [← rv.length]; exact hl)]
    refine wpAny_pure (wpAny_newFunctionEnv S.nocell (fun ⟨n, _⟩ hy => S.par n (List.of_mem_zip hy).1) (fun h1 hns hsb => ⟨lim.fresh _ hsb, ?_⟩) S.kind)
    have keep : ∀ b o, s.heap.get? b = some o → h1.get? b = some o := fun b o e => hsb.extBut b o (Nat.ne_of_lt (Heap.lt_size e)) (Heap.get?_push_of_some _ e)
    obtain ⟨t2, ht, hq⟩ := body A outer s f c (hr.deeper _)
    have J : Inv (NdefX.ncx CX0 P w K mg base N (L.nf c) f A outer s (cutC cs H) E0) [] (NdefX.startF N vs (ws.map some)) (cutC cs H) { s with heap := h1, toks := s.toks + (ps.zip us).length } :=
      NdefX.inv_startN S hr.hd e1 hl rv C hns keep
    refine PySem.W.kla_codeExpr (wpAny_mono (ht.run [] _ _ _ _ J hq) (fun u s' hz => ?_) fun e s' hz => hz)
    obtain ⟨v, H2, J2, r2, q2⟩ := hz
    exact ⟨v, H2, J2.os, J2.bare, J2.base, J2.hok, r2, q2⟩
  refine codeAny_mono fin fun r s' z => ?_
  match r, z with
  | .ok (.ret u), z => exact ce_add nd e0 hcs z
  | .ok .next, z => exact False.elim z
  | .ok .brk, z => exact False.elim z
  | .ok .cont, z => exact False.elim z
  | .error er, z => exact False.elim z
end
def celL (as : List Addr) (ws : List V) : List ME := (as.zip ws).map fun p => .cel p.1 p.2
theorem celM_L {X : Cx} : ∀ {js : List Nat} {us : List V}, celM X js us = celL (js.map (cAt X)) us
  | [], _ => rfl
  | _ :: _, [] => rfl
  | j :: js, u :: us => by
    show ME.cel (cAt X j) u :: celM X js us = ME.cel (cAt X j) u :: celL (js.map (cAt X)) us
    rw [celM_L]
section
variable {F : List (V × D)} {H : Hp} {M G : List ME} {as : List Addr} {ws : List V}
theorem cn_cels {I : Hp} : ∀ {as : List Addr} {ws : List V} {N : List (Addr × HO)}, as.length = ws.length → CnA I (celL as ws) N → ∃ cs : List (Addr × Obj), cs.map (·.1) = as ∧ Paired (fun (c : Addr × Obj) w => CelO c.2 w) cs ws ∧ N = cs.map fun c => (c.1, HO.frz c.2 topO)
  | [], [], _, _, a => by cases a; exact ⟨[], rfl, .nil, rfl⟩
  | [], _ :: _, _, e, _ => by cases e
  | _ :: _, [], _, e, _ => by cases e
  | x :: as, v :: ws, _, e, a => by
    cases a with
    | cons h a =>
      obtain ⟨cs, h1, h2, rfl⟩ := cn_cels (Nat.succ.inj e) a
      cases h with
      | @cel _ _ o hc => exact ⟨(x, o) :: cs, by rw [List.map_cons, h1], .cons hc h2, rfl⟩
theorem cels_cn {I : Hp} : ∀ {as : List Addr} {ws : List V} {cs : List (Addr × Obj)}, cs.map (·.1) = as → Paired (fun (c : Addr × Obj) w => CelO c.2 w) cs ws → CnA I (celL as ws) (cs.map fun c => (c.1, HO.frz c.2 topO))
  | _, _, _, rfl, .nil => .nil
  | _, _, _, rfl, .cons h t => .cons (.cel h) (cels_cn rfl t)
/-- the cells are put aside while a function's body runs -/
theorem n_cels (w : Wf F H (M ++ (celL as ws ++ G))) (hl : as.length = ws.length) : ∃ cs : List (Addr × Obj), cs.map (·.1) = as ∧ Paired (fun (c : Addr × Obj) w => CelO c.2 w) cs ws ∧ (∀ c ∈ cs, H c.1 = some (.frz c.2 topO)) ∧ as.Nodup ∧ Wf F (cutC cs H) (M ++ G) ∧
    ∀ F' H' M' G', Wf F' H' (M' ++ G') → (∀ c ∈ cs, H' c.1 = none) → Wf F' (addC cs H') (M' ++ (celL as ws ++ G')) := by
  have pm : ∀ M G : List ME, List.Perm (M ++ (celL as ws ++ G)) (celL as ws ++ (M ++ G)) := fun M G => by
    rw [← List.append_assoc, ← List.append_assoc]
    exact List.Perm.append_right _ List.perm_append_comm
  obtain ⟨I, Mc, w, a, hF⟩ := (w.perm (pm M G)).ex
  obtain ⟨N1, N2, rfl, a1, a2⟩ := a.split
  obtain ⟨cs, h1, h2, rfl⟩ := cn_cels hl a1
  have hcs : ∀ c ∈ cs, H c.1 = some (.frz c.2 topO) := fun c hc => (w.mu _ (List.mem_append_left _ (List.mem_map_of_mem (f := fun c : Addr × Obj => (c.1, HO.frz c.2 topO)) hc))).1
  have nd := w.nd
  rw [List.map_append, List.map_map] at nd
  obtain ⟨nd1, nd2, nd3⟩ := List.nodup_append.mp nd
  have nd1 : (cs.map (·.1)).Nodup := nd1
  refine ⟨cs, h1, h2, hcs, h1 ▸ nd1, ⟨I, N2, ⟨fun b x h => ?_, fun p hp => ?_, nd2⟩, a2, hF⟩, fun F' H' M' G' w' hn => Wf.perm ?_ (pm M' G').symm⟩
  · by_cases z : b ∈ cs.map (·.1)
    · obtain ⟨c, q1, q2⟩ := List.mem_map.mp z
      have := (w.mu _ (List.mem_append_left _ (List.mem_map_of_mem (f := fun c : Addr × Obj => (c.1, HO.frz c.2 topO)) q1))).2
      rw [show b = c.1 from q2.symm] at h
      rw [this] at h
      cases h
    · rw [cutC_ne z]
      exact w.imm _ _ h
  · obtain ⟨q1, q2⟩ := w.mu p (List.mem_append_right _ hp)
    refine ⟨?_, q2⟩
    rw [cutC_ne fun z => ?_]
    · exact q1
    · exact nd3 _ z _ (List.mem_map_of_mem hp) rfl
  · obtain ⟨I', Mc', w2, a', hF'⟩ := w'.ex
    have out : ∀ {b : Addr} {o : HO}, H' b = some o → b ∉ cs.map (·.1) := fun {b o} e z => by
      obtain ⟨d, q1, q2⟩ := List.mem_map.mp z
      rw [show b = d.1 from q2.symm, hn d q1] at e
      cases e
    have app : ∀ {M1 M2 : List ME} {N1 N2 : List (Addr × HO)}, CnA I' M1 N1 → CnA I' M2 N2 → CnA I' (M1 ++ M2) (N1 ++ N2) := fun {M1 M2 N1 N2} h1 h2 => by
      induction h1 with
      | nil => exact h2
      | cons h _ ih => exact .cons h ih
    refine ⟨I', cs.map (fun c => (c.1, HO.frz c.2 topO)) ++ Mc', ⟨fun b x e => ?_, fun p hp => ?_, ?_⟩, app (cels_cn h1 h2) a', hF'⟩
    · rw [addC_ne (out (w2.imm _ _ e))]
      exact w2.imm _ _ e
    · rcases List.mem_append.mp hp with h | h
      · obtain ⟨d, q1, rfl⟩ := List.mem_map.mp h
        exact ⟨addC_at nd1 q1, w2.imm.free (hn d q1)⟩
      · obtain ⟨q1, q2⟩ := w2.mu p h
        exact ⟨by rw [addC_ne (out q1)]; exact q1, q2⟩
    · rw [List.map_append, List.map_map]
      refine List.nodup_append.mpr ⟨nd1, w2.nd, fun x hx y hy e => ?_⟩
      obtain ⟨p, q1, q2⟩ := List.mem_map.mp hy
      have := out (w2.mu p q1).1
      rw [show p.1 = y from q2, ← e] at this
      exact this hx
end
/-! ### defs that make functions: their code object is known -/
section
variable {P : Program} {w : World} {K : PySem.W.Frag} {mg : Str → Option Value} {base : Heap}
theorem _root_.L2.FunD.okT {CX : CXT} {x qual : Str} {st : Stmt} {dvs : List V} {f c : Addr} {fd : FuncData} {N ps : List Str} {k : Nat} {sp : Sp} (F : FunD K x qual (defArgs st) (defBody st) (defScope st) dvs [] f fd) (T : fd.code = .ref c) (S : FnScope N ps (defScope st)) (len : ∀ vs H Q E, sp vs H Q E → vs.length = ps.length)
    (hbody : ∀ (A : Around) (outer : List Env) (s : Shared) (H : Hp) (vs : List V) (Q : VK) (E : XK), Room k (A.deeper (envOfC qual (defScope st) s.heap.objs.size f (.ref c))) → sp vs H Q E →
      ∃ t, PSs (cxOf CX P w K mg base N qual (defScope st) f (.ref c) A outer s H E) (defBody st) t ∧ t { nx := fun _ H' => Q .non H', rt := Q } (start N vs) H) : FnOk P w K mg base CX (k + 1) f fd ps sp := by
  obtain ⟨oc, od, dV, kV, doc, pm, an, cdv, ct, osl, rfl, lk, hcd, _, _⟩ := F.ex
  obtain rfl : cdv = .ref c := T
  exact fn_of lk hcd S len fun A outer s H vs Q E hr hsp => hbody A outer s H vs Q E hr hsp
theorem _root_.L2.Fun.okT {x qual : Str} {st : Stmt} {f c : Addr} {fd : FuncData} {N ps : List Str} {k : Nat} {sp : Sp} (F : Fun K x qual st f fd) (T : fd.code = .ref c) (S : FnScope N ps (defScope st)) (len : ∀ vs H Q E, sp vs H Q E → vs.length = ps.length)
    (hbody : ∀ (A : Around) (outer : List Env) (s : Shared) (H : Hp) (vs : List V) (Q : VK) (E : XK), Room k (A.deeper (envOfC qual (defScope st) s.heap.objs.size f (.ref c))) → sp vs H Q E →
      ∃ t, PSs (cxOf CX0 P w K mg base N qual (defScope st) f (.ref c) A outer s H E).nox (defBody st) t ∧ t { nx := fun _ H' => Q .non H', rt := Q } (start N vs) H) : FnOk P w K mg base CX0 (k + 1) f fd ps sp := by
  obtain ⟨oc, od, kV, doc, pm, an, cdv, ct, osl, rfl, lk, hcd⟩ := F.ex
  obtain rfl : cdv = .ref c := T
  refine fn_of lk hcd S len fun A outer s H vs Q E hr hsp => ?_
  obtain ⟨t, h, q⟩ := hbody A outer s H vs Q E hr hsp
  exact ⟨t, h.nox, q⟩
/-- what the end asks: the makers' tables cs -/
def LawT (q : Program) (l : PySem.W.OpenLaw) (w : World) (K : PySem.W.Frag) (CX : CXT) (k n : Nat) (x : Str) (mg : Str → Option Value) (fa : Addr) : Prop := ∃ (fd : FuncData) (cs : List (Addr × Addr)) (sp : Sp),
  (∀ p ∈ cs, (∃ y d, (recsOf q).find? (fun e => e.name == y) = some d ∧ PySem.W.tabIn K y = some p) ∧ K.lookup p.2 = none) ∧ (∀ (s : Shared) (u : Value), BindsTo s fd ⟨[u], []⟩ [(x, u)]) ∧
  (∀ (H : Hp) (a : Addr) (ns : List Int), ns.length ≤ n → (∀ z ∈ ns, Builtin.Int.intBits z ≤ 1048576) → (∀ p ∈ cs, H p.2 = some (.tbl #[])) → SqL K H a (ns.map V.int) → sp [.ref a] H (fun v _ => v = .bl true) fun _ _ _ => False) ∧
  ∀ base : Heap, K.In base → base.Ns mainGlobals mg → (∀ p ∈ cs, LamX.TabB base mg p.1 p.2) → FnOk l.prog w K mg base CX k fa fd [x] sp
theorem walk_T {l : PySem.W.OpenLaw} {n k : Nat} {q : Program} {loose : List Str} {XP : (Str → Option Value) → Heap → Prop} {YP : World → Heap → Prop} {d : DefRec} {K : Params → PySem.W.Frag} {CX : World → CXT} {x : Str}
    (hn : l.most = some n) (hn2 : n ≤ sizeLine) (hdf : d.params.defaults = []) (hr : Room k callerA) (hY : ∀ (w : World) (h : Heap), YP w h → (K w.params).In h)
    (F : ∀ (w : World) (mg : Str → Option Value) (fa : Addr) (h : Heap), (K w.params).In h → h.Ns mainGlobals mg → mg d.name = some (.ref fa) → LawT q l w (K w.params) (CX w) k n x mg fa)
    (hCX : ∀ (w : World) (H : Hp) (s : Shared) (e : Value) (s' : Shared), CX w [] H s (fun _ _ _ => False) e s' → False) :
    PySem.W.WalkO q loose XP YP l.row.toRowW d [] (fun f vs => PySem.call f vs) := by
  refine Att.attach_callB hn hdf fun w s0 s1 mg mb fa o pm cd doc a vs ns G Y ho hd hcd hmg hobj hints hlen hbits hg => ?_
  have KX := hY w _ Y
  obtain ⟨fd, cs, sp, hT, hb, hsp, hF⟩ := F w mg fa _ KX G.T.g hmg
  have tb : ∀ p ∈ cs, PySem.W.CodeHd s1.heap p.1 p.2 ∧ s1.heap.get? p.2 = some { cls := .none, data := .fields #[] } := fun p hp => by
    obtain ⟨⟨y, d2, h1, h2⟩, _⟩ := hT p hp
    exact PySem.W.tab_of G.T KX h1 h2
  exact LamX.law_callTs KX G.T.g G.T.b G.T.builtins G.T.nolimit hg (fun p hp => (tb p hp).2) (fun p hp => (hT p hp).2) (fun p hp => (tb p hp).1) G.T.bmain hobj hints (Nat.le_trans hlen hn2) hr hF hb (fun H hH hS => hsp H a ns hlen hbits hH hS) fun H e s' => hCX w H s1 e s'
end
/-- an empty table at the begin -/
theorem Wf.tb0 {H : Hp} {P : Addr} {q : Str} (h : H P = some (.tbl #[])) : Wf [] H [.tb P q] :=
  ⟨fun _ => none, [(P, .tbl #[])], ⟨fun _ _ e => (nomatch e), fun p hp => by rw [List.mem_singleton.mp hp]; exact ⟨h, rfl⟩, by simp⟩, .cons (.tb trivial fun pos cv e => by
    have z : codeAmong pos [] = some cv := e
    simp [codeAmong] at z) .nil, fun _ h => nomatch h⟩
/-! ### calls with the cells shown -/
def tCalC (X : Cx) (js : List Nat) (sp : Sp) (dvs : List V) (t : TA) : TE := fun σ H Q => t σ H fun vs H1 => ShowQ X js sp (vs ++ dvs) σ H1 Q
def ShowV (X : Cx) (js : List Nat) (k : Nat) (v : V) (vs : List V) (σ : L2.St) (H : Hp) (Q : VK) : Prop := ∃ (sp : Sp) (I : Hp), FnV X.prog X.w X.K X.mg X.base k sp v I ∧ Same I H ∧ ShowQ X js sp vs σ H Q
def tCallVC (X : Cx) (js : List Nat) (k i : Nat) (t : TA) : TE := fun σ H Q => ∃ v, σ[i]? = some (some v) ∧ IsFnV X.prog X.w X.K X.mg X.base k v H ∧ t σ H fun vs H1 => ShowV X js k v vs σ H1 Q
def tFldVC (X : Cx) (js : List Nat) (k : Nat) (m : Str) (te : TE) (t : TA) : TE := fun σ H Q => te σ H fun y H1 => ∃ (a C dx : Addr) (fs : List (Str × V)) (v : V), y = .ref a ∧ H1 a = some (.ins C dx fs) ∧ Cls X.K C ∧ NoAttr X.K C m ∧ fs.lookup m = some v ∧ IsFnV X.prog X.w X.K X.mg X.base k v H1 ∧
      t σ H1 fun vs H2 => ShowV X js k v vs σ H2 Q
theorem s_calC {X : Cx} {js : List Nat} {sp : Sp} {dvs : List V} {t : TA} {σ : L2.St} {H : Hp} {Q : VK} (h : t σ H fun vs H1 => ShowQ X js sp (vs ++ dvs) σ H1 Q) : tCalC X js sp dvs t σ H Q := h
theorem s_callVC {X : Cx} {js : List Nat} {k i : Nat} {t : TA} {σ : L2.St} {H : Hp} {Q : VK} {v : V} (hs : σ[i]? = some (some v)) (hf : IsFnV X.prog X.w X.K X.mg X.base k v H) (h : t σ H fun vs H1 => ShowV X js k v vs σ H1 Q) : tCallVC X js k i t σ H Q := ⟨v, hs, hf, h⟩
theorem s_fldVC {X : Cx} {js : List Nat} {k : Nat} {m : Str} {te : TE} {t : TA} {σ : L2.St} {H : Hp} {Q : VK} (h : te σ H fun y H1 => ∃ (a C dx : Addr) (fs : List (Str × V)) (v : V), y = .ref a ∧ H1 a = some (.ins C dx fs) ∧ Cls X.K C ∧ NoAttr X.K C m ∧ fs.lookup m = some v ∧ IsFnV X.prog X.w X.K X.mg X.base k v H1 ∧ t σ H1 fun vs H2 => ShowV X js k v vs σ H2 Q) : tFldVC X js k m te t σ H Q := h
theorem celled1 {X : Cx} {j : Nat} {y : Str} (nN : X.N.Nodup) (h1 : X.N[j]? = some y) (h2 : X.env.scope.names.lookup y = some .cell) (fn : ∀ y, X.fn y = true) : Celled X [j] :=
  ⟨by simp, nN, fun i hi => by rw [List.mem_singleton.mp hi]; exact ⟨y, h1, h2⟩, fn⟩
section
variable {X : Cx} {x m a : Str} {C : Addr} {i : Nat} {p pos apos p1 p2 : Pos} {e o : Expr} {es : List Expr} {t : TA} {k : Nat} {ps : List Str} {dvs : List V} {sp : Sp} {js : List Nat} {te : TE}
theorem pe_calC (c : Cal X.prog X.w X.K X.mg X.base x k ps dvs sp) (hr : Room k X.A) (hg : Gl X x) (hc : Celled X js) (ha : PA X (e :: es) t) (hdb : (x == ("__debug__" : Str)) = false := by decide)
    (he : starEach (e :: es) X.env = (false, eval e X.env) :: starEach es X.env := by rfl) (hpl : (backTo pos (starEach es X.env)).any (·.1) = false := by rfl) : PE X (.Call (.Name x p) (e :: es) [] pos) (tCalC X js sp dvs t) := by
  obtain ⟨f, fd, ds, F, hm, hk, hb, hd⟩ := c.ex
  refine ⟨fun pins s σ H Q J h => ?_⟩
  refine wpAny_Call_Name_kw (ld_glob J hg hm ?_ hdb)
  exact PySem.W.callWith_K (h₀ := X.base) J.ok.mod.kin hk (thn (ha.run pos pins s σ H _ J h) fun us s1 ⟨vs, H1, J1, r, q⟩ => ⟨J1.kIn, run_fnC F hr hb hd hc J1 r q⟩) he hpl
/-- a function that a slot holds, called with the cells shown -/
theorem pe_callVC (hN : X.N[i]? = some a) (hv : Vis X.env.scope a) (hr : Room k X.A) (hc : Celled X js) (ha : PA X (e :: es) t) (hd : (a == ("__debug__" : Str)) = false := by decide) (hcd : (a == ("__classdict__" : Str)) = false := by decide)
    (he : starEach (e :: es) X.env = (false, eval e X.env) :: starEach es X.env := by rfl) (hpl : (backTo p2 (starEach es X.env)).any (·.1) = false := by rfl) :
    PE X (.Call (.Name a p1) (e :: es) [] p2) (tCallVC X js k i t) := by
  refine ⟨fun pins s σ H Q J h => ?_⟩
  obtain ⟨v, hs, ⟨sp0, I0, ⟨f, ev, fa, _⟩, sm0⟩, h⟩ := h
  subst ev
  refine wpAny_Call_Name_kw (thn ((pe_var (pos := p1) (i := i) hN hv hd hcd).run pins s σ H (fun v H1 => v = .ref f ∧ H1 = H) J ⟨.ref f, hs, rfl, rfl⟩) fun u s1 ⟨v, H1, J1, r1, q1⟩ => ?_)
  obtain ⟨ev, eH⟩ := q1
  subst ev
  rw [eH] at J1
  obtain rfl : u = Value.ref f := r1
  refine PySem.W.callWith_F (fa _ _ J1.hok sm0) (thn (ha.run p2 pins s1 σ H _ J1 h) fun us s2 ⟨vs, H2, J2, rv, sp, I, ⟨f2, ef, fa2, run⟩, sm, q⟩ => ?_) he hpl
  cases ef
  obtain ⟨cs, c1, c2, c3⟩ := cells_are J2 hc q.1
  have sm2 : Same I (addC cs H2) := fun b o e => by
    have := sm b o e
    rw [addC_ne (fun z => ?_)]
    · exact this
    · obtain ⟨d, h1, h2⟩ := List.mem_map.mp z
      rw [← h2, c3 d h1] at this
      cases this
  refine ⟨fa2 _ _ J2.hok sm, wpAny_call (codeAny_mono (run X.A X.stack s2 (addC cs H2) us vs _ hr (env0_add J2.env0 c2 c3) rv sm2 (q.2 cs c1 c2.nd c3)) fun r s' z => ?_)⟩
  match r, z with
  | .ok (.ret u), z => exact J2.after (ce_cut c2 c3 z)
  | .ok .next, z => exact False.elim z
  | .ok .brk, z => exact False.elim z
  | .ok .cont, z => exact False.elim z
  | .error er, z => exact False.elim z
/-- a function that a field holds, called with the cells shown: x.f(..) -/
theorem pe_fldVC {pl : Sem Bool} (ho : PE X o te) (hr : Room k X.A) (hc : Celled X js) (ha : PA X (e :: es) t)
    (he : starEach (e :: es) X.env = (false, eval e X.env) :: starEach es X.env := by rfl) (hpl : (backTo pos (starEach es X.env)).any (·.1) = false := by rfl)
    (ht : eval (.Call (.Attribute o m apos) (e :: es) [] pos) X.env = (do
      let ov ← eval o X.env
      standAt apos.atName
      let (f, first) ← holding [ov] (getMethod ov m pl)
      callWith pos f first (backTo pos (starEach (e :: es) X.env)) (backToKw pos (keywordEach [] X.env))) := by rfl) :
    PE X (.Call (.Attribute o m apos) (e :: es) [] pos) (tFldVC X js k m te t) := by
  refine ⟨fun pins s σ H Q J h => ?_⟩
  refine PySem.W.methodCall_KW (pl := pl) (thn (ho.run pins s σ H _ J h) fun u s1 ⟨y, H1, J1, ry, b, C, dx, fs, v, ey, eb, hC, hno, hl, ⟨sp0, I0, ⟨f, ev, fa, _⟩, sm0⟩, q1⟩ => ?_) ht
  subst ey
  subst ev
  obtain rfl : u = Value.ref b := ry
  refine getmeth_fld J1 eb hC hno hl fun u2 s2 J2 r2 => ?_
  obtain rfl : u2 = Value.ref f := r2
  refine PySem.W.callWith_F (first := []) (fa _ _ J2.hok sm0) (thn (ha.run pos pins s2 σ H1 _ J2 q1) fun us s3 ⟨vs, H2, J3, rv, sp, I, ⟨f2, ef, fa2, run⟩, sm, q⟩ => ?_) he hpl
  cases ef
  obtain ⟨cs, c1, c2, c3⟩ := cells_are J3 hc q.1
  have sm2 : Same I (addC cs H2) := fun b o e => by
    have := sm b o e
    rw [addC_ne (fun z => ?_)]
    · exact this
    · obtain ⟨d, h1, h2⟩ := List.mem_map.mp z
      rw [← h2, c3 d h1] at this
      cases this
  refine ⟨fa2 _ _ J3.hok sm, wpAny_call (codeAny_mono (run X.A X.stack s3 (addC cs H2) us vs _ hr (env0_add J3.env0 c2 c3) rv sm2 (q.2 cs c1 c2.nd c3)) fun r s' z => ?_)⟩
  match r, z with
  | .ok (.ret u), z => exact J3.after (ce_cut c2 c3 z)
  | .ok .next, z => exact False.elim z
  | .ok .brk, z => exact False.elim z
  | .ok .cont, z => exact False.elim z
  | .error er, z => exact False.elim z
end
section
variable {P : Program} {w : World} {K : PySem.W.Frag} {mg : Str → Option Value} {base : Heap} {k : Nat} {sp : Sp} {v : V} {F : List (V × D)} {H : Hp} {M : List ME}
theorem Wf.fnV (ww : Wf F H M) (h : Kn F v (.fact (FnV P w K mg base k sp))) : ∃ I, FnV P w K mg base k sp v I ∧ Same I H := by
  obtain ⟨I, Mc, w1, a, hF⟩ := ww.ex
  have := h.is hF
  cases this with
  | fact s q => exact ⟨_, q, s.trans w1.imm⟩
theorem n_isFn (ww : Wf F H M) (h : Kn F v (.fact (FnV P w K mg base k sp))) : IsFnV P w K mg base k v H := by
  obtain ⟨I, a, b⟩ := ww.fnV h
  exact ⟨sp, I, a, b⟩
theorem n_callV {vs : List V} {Q : VK} (ww : Wf F H M) (h : Kn F v (.fact (FnV P w K mg base k sp))) (q : sp vs H Q E0) : CallV P w K mg base k v vs H Q := by
  obtain ⟨I, a, b⟩ := ww.fnV h
  exact ⟨sp, I, a, b, q⟩
end
/-- entries that are cells of unlike addresses stand together ahead -/
theorem cels_ahead {G : List ME} : ∀ {as : List Addr} {ws : List V} {M : List ME}, as.Nodup → (∀ e ∈ celL as ws, e ∈ M) → ∃ M', List.Perm M (celL as ws ++ M') ∧ ∀ e ∈ M, (∀ c v, e ≠ .cel c v) → e ∈ M'
  | [], _, M, _, _ => ⟨M, .refl _, fun e h _ => h⟩
  | _ :: _, [], M, _, _ => ⟨M, .refl _, fun e h _ => h⟩
  | a :: as, v :: ws, M, nd, h => by
    obtain ⟨n1, n2⟩ := List.nodup_cons.mp nd
    obtain ⟨M1, M2, rfl⟩ := List.append_of_mem (h _ List.mem_cons_self)
    have ne : ∀ e ∈ celL as ws, e ≠ .cel a v := fun e he z => by
      obtain ⟨p, h1, h2⟩ := List.mem_map.mp he
      rw [z] at h2
      injection h2 with h3 _
      exact n1 (h3 ▸ (List.of_mem_zip h1).1)
    obtain ⟨M', p, q⟩ := cels_ahead (G := G) (ws := ws) (M := M1 ++ M2) n2 fun e he => by
      have := h e (List.mem_cons_of_mem _ he)
      rcases List.mem_append.mp this with z | z
      · exact List.mem_append_left _ z
      · rcases List.mem_cons.mp z with z | z
        · exact absurd z (ne e he)
        · exact List.mem_append_right _ z
    refine ⟨M', List.perm_middle.trans (p.cons _), fun e he nc => q e ?_ nc⟩
    rcases List.mem_append.mp he with z | z
    · exact List.mem_append_left _ z
    · rcases List.mem_cons.mp z with z | z
      · exact absurd z (nc a v)
      · exact List.mem_append_right _ z
/-- what a lambda captures are cells of the def that makes it -/
def lamFreeB (sc scope : Scope) : Bool := scope.names.all fun y => !decide (y.2 = .free) || (decide (sc.names.lookup y.1 = some .cell) || decide (sc.names.lookup y.1 = some .free))
theorem lamFree_by {sc scope : Scope} (h : lamFreeB sc scope = true) : ∀ y ∈ scope.names, y.2 = .free → sc.names.lookup y.1 = some .cell ∨ sc.names.lookup y.1 = some .free := fun y hy e => by
  have := List.all_eq_true.mp h y hy
  simp only [Bool.or_eq_true, Bool.not_eq_true', decide_eq_true_eq, decide_eq_false_iff_not] at this
  exact this.resolve_left fun z => z e
section
variable {P : Program} {wd : World} {K : PySem.W.Frag} {mg : Str → Option Value} {base : Heap} {k : Nat} {sp : Sp} {v y : V} {F : List (V × D)} {H : Hp} {M : List ME} {X : Cx} {js : List Nat} {us vs : List V} {σ : L2.St} {Q : VK} {φ ψ : V → Hp → Prop}
theorem n_showV (w : Wf F H M) (h : Kn F v (.fact (FnV X.prog X.w X.K X.mg X.base k sp))) (hv : js.map (fun j => σ[j]?) = us.map (fun u => some (some u)))
    (q : ∀ H1 (Q1 : VK), Wf F H1 (celM X js us ++ M) → (∀ v F' M' H2, Wf F' H2 (celM X js us ++ M') → (∀ H3, Wf F' H3 M' → Q v H3) → Q1 v H2) → sp vs H1 Q1 E0) : ShowV X js k v vs σ H Q := by
  obtain ⟨I, a, b⟩ := w.fnV h
  exact ⟨sp, I, a, b, n_shown w hv q⟩
theorem n_fldFn {C : Addr} {fs : List (Str × D)} {m : Str} {A : V → Prop} (w : Wf F H M) (h : Rk F M y (.obj C fs)) (hc : Cls K C) (hn : NoAttr K C m) (hl : fs.lookup m = some (.fact φ)) (hi : ∀ v, Wf ((v, .fact φ) :: F) H M → A v) :
    ∃ (a C dx : Addr) (fs : List (Str × V)) (v : V), y = .ref a ∧ H a = some (.ins C dx fs) ∧ Cls K C ∧ NoAttr K C m ∧ fs.lookup m = some v ∧ A v := by
  obtain ⟨I, Mc, w, a, hF⟩ := w.ex
  obtain ⟨p, dx, vs, rfl, hp, b⟩ := h.obj w a hF
  obtain ⟨u, e, hu⟩ := b.get hl
  exact ⟨p, C, dx, vs, u, rfl, hp, hc, hn, e, hi u ⟨I, Mc, w, a, fun f hf => by
    rcases List.mem_cons.mp hf with rfl | hf
    · exact hu
    · exact hF f hf⟩⟩
theorem Wf.factTo (w : Wf F H M) (h : Kn F v (.fact φ)) (hi : ∀ v I, φ v I → ψ v I) : Wf ((v, .fact ψ) :: F) H M := by
  obtain ⟨I, Mc, w, a, hF⟩ := w.ex
  have e := h.is hF
  refine ⟨I, Mc, w, a, fun f hf => ?_⟩
  rcases List.mem_cons.mp hf with rfl | hf
  · cases e with
    | fact s q => exact .fact s (hi _ _ q)
  · exact hF f hf
theorem Wf.ref_of {C : Addr} {fs : List (Str × D)} (w : Wf F H M) (h : Kn F v (.obj C fs)) : ∃ a, v = .ref a := by
  obtain ⟨I, Mc, w, a, hF⟩ := w.ex
  have e := h.is hF
  cases e
  exact ⟨_, rfl⟩
theorem Wf.non_of (w : Wf F H M) (h : Kn F v .non) : v = .non := by
  obtain ⟨I, Mc, w, a, hF⟩ := w.ex
  exact (h.is hF).non_eq
theorem Wf.fn_of (w : Wf F H M) (h : Kn F v (.fact (FnV P wd K mg base k sp))) : ∃ a, v = .ref a := by
  obtain ⟨I, ⟨f, e, _⟩, _⟩ := w.fnV h
  exact ⟨f, e⟩
theorem Kn.app {d : D} : ∀ (L : List (V × D)), Kn F v d → Kn (L ++ F) v d
  | [], h => h
  | _ :: L, h => (Kn.app L h).more
theorem Rk.app {d : D} : ∀ (L : List (V × D)), Rk F M v d → Rk (L ++ F) M v d
  | [], h => h
  | _ :: L, h => (Rk.app L h).moreF
end
theorem lk1 {y z : Str} {a c : Addr} (h : [(y, a)].lookup z = some c) : z = y := by
  rw [List.lookup_cons] at h
  cases e : z == y with
  | true => exact eq_of_beq e
  | false => rw [e] at h; cases h
theorem cloFrom_app (cells : List (Str × Addr)) : ∀ (names : List (Str × NameKind)) (acc : List (Str × Addr)), cloFrom cells names acc = (((names.filter fun p => p.2 == .free).map fun p => (p.1, (cells.lookup p.1).getD 0)).reverse) ++ acc
  | [], acc => rfl
  | (n, k) :: r, acc => by
    unfold cloFrom
    cases e : (k == .free) with
    | true => rw [if_pos rfl, cloFrom_app cells r, List.filter_cons, if_pos e, List.map_cons, List.reverse_cons, List.append_assoc]; rfl
    | false => rw [if_neg (by decide), cloFrom_app cells r, List.filter_cons, if_neg (by rw [e]; decide)]
/-- what a lambda with one captured name closes over -/
theorem clo1 {cells : List (Str × Addr)} {names : List (Str × NameKind)} {y : Str} (h : ((names.filter fun p => p.2 == .free).map fun p => p.1) = [y]) : cloFrom cells names [] = [(y, (cells.lookup y).getD 0)] := by
  rw [cloFrom_app, List.append_nil, show ((names.filter fun p => p.2 == .free).map fun p => (p.1, (cells.lookup p.1).getD 0)) = (((names.filter fun p => p.2 == .free).map fun p => p.1).map fun n => (n, (cells.lookup n).getD 0)) by rw [List.map_map]; rfl, h]
  rfl
section
variable {P : Program} {w : World} {K : PySem.W.Frag} {mg : Str → Option Value} {base : Heap} {N ps fr : List Str} {f c : Addr} {k : Nat} {sp : Sp} {L : LW} {I : Hp}
theorem fnV_lam1 {y : Str} {ca : Addr} (hcl : L.cl = [(y, ca)]) (S : NdefX.NScope N ps [y] L.scope) (hb : ∀ (pm cv ctv : Value) (us : List Value), us.length = ps.length → bindArgs (PySem.W.kla_fn "<lambda>" L.qual L.params L.body L.scope L.cl pm cv ctv) ⟨us, []⟩ = pure (ps.zip us))
    (hsp : ∀ vs H Q, sp vs H Q E0 → vs.length = ps.length ∧ ∃ (F : List (V × D)) (M : List ME) (v : V), Wf F H M ∧ .cel ca v ∈ M ∧ ∀ (H1 : Hp) (M1 : List ME) (Q1 : VK), Wf F H1 M1 → (∀ e ∈ M, (∀ c u, e ≠ .cel c u) → e ∈ M1) → (∀ u H2, Wf F H2 M1 → (∀ H3, Wf F H3 M → Q u H3) → Q1 u H2) →
      ∀ (A : Around) (outer : List Env) (s : Shared) (f c : Addr), Room k (A.deeper (NdefX.envF (L.nf c) f s.heap.objs.size)) → ∃ t, PE (NdefX.ncx CX0 P w K mg base N (L.nf c) f A outer s H1 E0) L.body t ∧ t (NdefX.startF N vs [some v]) H1 Q1)
    (hf : I f = some (LamO f L c)) (hc : I c = some (LamX.CodeO c L.qual)) : FnV P w K mg base (k + 1) sp (.ref f) I := by
  refine fnV_lam (fr := [y]) S hb (fun x z c h1 h2 => ?_) (fun x c h => ?_) (fun vs H Q q => ?_) hf hc
  · rw [hcl] at h1 h2
    exact (lk1 h1).trans (lk1 h2).symm
  · rw [hcl] at h
    exact List.mem_singleton.mpr (lk1 h)
  · obtain ⟨hl, F, M, v, w', hm, body⟩ := hsp vs H Q q
    obtain ⟨M1, pm, hM1⟩ := cels_ahead (G := []) (as := [ca]) (ws := [v]) (M := M) (by simp) (fun e he => by rw [List.mem_singleton.mp he]; exact hm)
    obtain ⟨cs, e1, p2, hcs, nd, w2, back⟩ := n_cels (M := []) (as := [ca]) (ws := [v]) (G := M1) (w'.perm pm) rfl
    have w2 : Wf F (cutC cs H) M1 := w2
    have bk : ∀ H2, Wf F H2 M1 → (∀ d ∈ cs, H2 d.1 = none) → Wf F (addC cs H2) M := fun H2 w3 hn => Wf.perm (back F H2 [] M1 w3 hn) pm.symm
    have b2 := body (cutC cs H) M1 (fun v H2 => (∀ d ∈ cs, H2 d.1 = none) → Q v (addC cs H2)) w2 hM1 (fun u H2 w3 q3 hn => q3 _ (bk H2 w3 hn))
    refine ⟨hl, cs, [v], ?_, p2, hcs, fun A outer s f c hr => ?_⟩
    rotate_left
    · exact b2 A outer s f c hr
    have one : ∃ c0, cs = [c0] ∧ c0.1 = ca := by
      clear p2 hcs back bk b2 w2 nd
      cases cs with
      | nil => cases e1
      | cons c0 r =>
        cases r with
        | nil => exact ⟨c0, rfl, (List.cons.inj e1).1⟩
        | cons d r => cases (List.cons.inj e1).2
    obtain ⟨c0, e3, e2⟩ := one
    rw [e3]
    exact .cons (by rw [hcl, e2, List.lookup_cons, beq_self_eq_true]) .nil
end
end Fs

namespace Fs
open PySem PySem.Spec PyProof.Rows L2
/-! ### dicts with pairs as keys: length, kind -/
section
variable {K : PySem.W.Frag} {F : List (V × D)} {M : List ME} {H : Hp} {Q : VK} {p : Addr} {kvs : List (List Key × D)}
theorem IsP.len {I : Hp} {κ : Type} : ∀ {vs : List (κ × V)} {ds : List (κ × D)}, IsP I vs ds → vs.length = ds.length
  | _, _, .nil => rfl
  | _, _, .cons _ a => congrArg Nat.succ (IsP.len a)
theorem n_lenDT (w : Wf F H M) (h : .dt p kvs ∈ M) (q : Q (.int (kvs.length : Nat)) H) : rLenT [.ref p] H Q := by
  obtain ⟨I, Mc, vs, w, a, hF, hp, ha⟩ := w.dtAt h
  exact ⟨p, vs, rfl, hp, by rw [ha.len]; exact q⟩
theorem n_isiDT {b : String} {k : Bool} (w : Wf F H M) (h : .dt p kvs ∈ M) (hb : kitB "dict" b = some k) (q : Q (.bl k) H) : rIsiU K [.ref p, .ty b] H Q := by
  obtain ⟨I, Mc, vs, w, a, hF, hp, ha⟩ := w.dtAt h
  exact .inl ⟨.ref p, .ty b, _, _, k, rfl, .ty b, .base (.dT hp), hb, q⟩
end
/-! ### x is True, x is not False; d.get(k) -/
def IsBQ (b : Bool) (Q : VK) (x : V) (H : Hp) : Prop := ∃ c, x = .bl c ∧ Q (.bl (c == b)) H
def NotBQ (b : Bool) (Q : VK) (x : V) (H : Hp) : Prop := ∃ c, x = .bl c ∧ Q (.bl (c != b)) H
def tIsB (b : Bool) (ta : TE) : TE := fun σ H Q => ta σ H fun x H1 => IsBQ b Q x H1
def tNotB (b : Bool) (ta : TE) : TE := fun σ H Q => ta σ H fun x H1 => NotBQ b Q x H1
section
variable {X : Cx} {a : Expr} {ta : TE} {b c : Bool}
theorem pc_isB {j pos'} (ha : PE X a ta) : PC X .Is a (.Constant (.bool b) j pos') (tIsB b ta) := by
  refine ⟨fun pins s σ H Q I h => ?_⟩
  refine thn (ha.run pins s σ H _ I h) fun v s1 ⟨x, H1, I1, r1, c, e, q1⟩ => ?_
  subst e
  cases r1
  exact Constant_bool (is_bool ⟨.bl _, H1, I1, rfl, q1⟩)
theorem pc_notB {j pos'} (ha : PE X a ta) : PC X .IsNot a (.Constant (.bool b) j pos') (tNotB b ta) := by
  refine ⟨fun pins s σ H Q I h => ?_⟩
  refine thn (ha.run pins s σ H _ I h) fun v s1 ⟨x, H1, I1, r1, c, e, q1⟩ => ?_
  subst e
  cases r1
  exact Constant_bool (isnot_bool ⟨.bl _, H1, I1, rfl, q1⟩)
end
section
variable {K : PySem.W.Frag} {F : List (V × D)} {M : List ME} {H : Hp} {Q : VK} {σ : L2.St} {ta ty : TE} {b c : Bool} {p : Addr} {kvs : List (List Key × D)} {k : List Key} {y : V}
theorem s_isB (h : ta σ H fun x H1 => IsBQ b Q x H1) : tIsB b ta σ H Q := h
theorem s_notB (h : ta σ H fun x H1 => NotBQ b Q x H1) : tNotB b ta σ H Q := h
theorem s_isBt (h : Q (.bl c) H) : IsBQ true Q (.bl c) H := ⟨c, rfl, by cases c <;> exact h⟩
theorem s_isBf (h : Q (.bl (!c)) H) : IsBQ false Q (.bl c) H := ⟨c, rfl, by cases c <;> exact h⟩
theorem s_notBt (h : Q (.bl (!c)) H) : NotBQ true Q (.bl c) H := ⟨c, rfl, by cases c <;> exact h⟩
theorem s_notBf (h : Q (.bl c) H) : NotBQ false Q (.bl c) H := ⟨c, rfl, by cases c <;> exact h⟩
/-- d.get(k) of a dict with tuples as keys -/
def DG1 (ty : TE) (σ : L2.St) (Q : VK) (x : V) (H : Hp) : Prop := ∃ a, x = .ref a ∧ IsD H a ∧ ty σ H fun y H2 => ∃ o, DGet H2 a y o ∧ Q (o.getD .non) H2
def DG1Q (Q : VK) (p : Addr) (y : V) (H : Hp) : Prop := ∃ o, DGet H p y o ∧ Q (o.getD .non) H
theorem s_dget1 (h : ta σ H fun x H1 => DG1 ty σ Q x H1) : tDGet1 ta ty σ H Q := h
theorem n_dgetM (w : Wf F H M) (h : .dt p kvs ∈ M) (q : ty σ H fun y H2 => DG1Q Q p y H2) : DG1 ty σ Q (.ref p) H := by
  obtain ⟨I, Mc, vs, w, a, hF, hp, ha⟩ := w.dtAt h
  exact ⟨p, rfl, .inr ⟨vs, .inl hp⟩, q⟩
theorem n_dgetO (w : Wf F H M) (h : .dt p kvs ∈ M) (hy : Rk F M y (.tup (k.map keyD))) (q : ∀ u, Wf ((u, (getP kvs k).getD .non) :: F) H M → Q u H) : DG1Q Q p y H := by
  obtain ⟨b, rfl, hb⟩ := w.keyT hy
  obtain ⟨I, Mc, vs, w, a, hF, hp, ha⟩ := w.dtAt h
  refine ⟨_, DGet.t hp hb, ?_⟩
  rcases ha.get (k := k) with ⟨h1, h2⟩ | ⟨v, d', h1, h2, h3⟩
  · rw [h2]
    rw [h1] at q
    exact q _ (.cons w a hF .non)
  · rw [h1]
    rw [h2] at q
    exact q v (.cons w a hF h3)
/-- what is known goes over to more facts -/
theorem Rk.ks {F FX : List (V × D)} {M : List ME} {v : V} {d : D} (h : Rk F M v d) (k : KS F FX) (hd : (∃ n, d = .ref n) ∨ (∃ n, d = .ty n) → False) : Rk FX M v d := by
  cases h with
  | mem h => exact .of (k _ h) hd
  | int n => exact .int n
  | bl n => exact .bl n
  | str n => exact .str n
  | non => exact .non
  | ml h => exact .ml h
  | mi h => exact .mi h
/-- k in a dict that is walked -/
theorem n_dinTF {P : Bool → Prop} {vs : List (List Key × V)} {od : Obj} {d : D} (w : Wf F H M) (h : .raw p (.frz od (.dT vs)) ∈ M) (hk : KnP F vs kvs) (hy : Rk F M y (.tup (k.map keyD))) (hd : getP kvs k = some d) (q : P true) : DInQ P (.ref p) y H := by
  obtain ⟨b, rfl, hb⟩ := w.keyT hy
  obtain ⟨v, h1, h2⟩ := hk.get hd
  exact ⟨p, some v, rfl, .inr ⟨vs, k, b, .inr ⟨od, w.rawAt h⟩, rfl, hb, h1.symm⟩, q⟩
end
/-! ### calls with keywords and calls of methods, the cells shown -/
def tCalKC (X : Cx) (js : List Nat) (n m : Nat) (sp : Sp) (gV : List V → List V → List V) (t tk : TA) : TE := fun σ H Q => t σ H fun vs H1 => tk σ H1 fun zs H2 => vs.length = n ∧ zs.length = m ∧ ShowQ X js sp (gV vs zs) σ H2 Q
theorem s_calKC {X : Cx} {js : List Nat} {n m : Nat} {sp : Sp} {gV : List V → List V → List V} {t tk : TA} {σ : L2.St} {H : Hp} {Q : VK} (h : t σ H fun vs H1 => tk σ H1 fun zs H2 => vs.length = n ∧ zs.length = m ∧ ShowQ X js sp (gV vs zs) σ H2 Q) : tCalKC X js n m sp gV t tk σ H Q := h
def tMethC (X : Cx) (js : List Nat) (C : Addr) (m : Str) (sp : Sp) (dvs : List V) (to : TE) (t : TA) : TE := fun σ H Q => to σ H fun x H1 => MethQ C m x H1 (t σ H1 fun vs H2 => ShowQ X js sp (x :: (vs ++ dvs)) σ H2 Q)
theorem s_methC {X : Cx} {js : List Nat} {C : Addr} {m : Str} {sp : Sp} {dvs : List V} {to : TE} {t : TA} {σ : L2.St} {H : Hp} {Q : VK} (h : to σ H fun x H1 => MethQ C m x H1 (t σ H1 fun vs H2 => ShowQ X js sp (x :: (vs ++ dvs)) σ H2 Q)) : tMethC X js C m sp dvs to t σ H Q := h
section
variable {X : Cx} {x m : Str} {C : Addr} {p pos apos : Pos} {e o : Expr} {es : List Expr} {kws : List Keyword} {t tk : TA} {ta : TE} {k n : Nat} {ps ks : List Str} {dvs : List V} {gV : List V → List V → List V} {sp : Sp} {js : List Nat}
theorem pe_calKC (c : CalK X.prog X.w X.K X.mg X.base x k ps n ks gV sp) (hr : Room k X.A) (hg : Gl X x) (hc : Celled X js) (ha : PA X (e :: es) t) (hkw : PK X kws tk)
    (hall : (backToKw pos (keywordEach kws X.env)).all (·.1.isSome) = true := by rfl) (hks : (backToKw pos (keywordEach kws X.env)).filterMap (·.1) = ks := by rfl) (hdb : (x == ("__debug__" : Str)) = false := by decide)
    (he : starEach (e :: es) X.env = (false, eval e X.env) :: starEach es X.env := by rfl) (hpl : ((backTo pos (starEach (e :: es) X.env)).any (·.1) || (backToKw pos (keywordEach kws X.env)).any (·.1.isNone)) = false := by rfl) :
    PE X (.Call (.Name x p) (e :: es) kws pos) (tCalKC X js n ks.length sp gV t tk) := by
  obtain ⟨f, fd, g, F, hm, hk, hb⟩ := c.ex
  refine ⟨fun pins s σ H Q J h => ?_⟩
  refine wpAny_Call_Name_kw (ld_glob J hg hm ?_ hdb)
  refine PySem.W.callWith_KW (h₀ := X.base) J.ok.mod.kin hk hall (thn (ha.run pos pins s σ H _ J h) fun us s1 ⟨vs, H1, J1, r, q⟩ => ?_) hpl he
  refine thn (hkw.run pos pins s1 σ H1 _ J1 q) fun ws s2 ⟨zs, H2, J2, rz, l1, l2, q2⟩ => ⟨J2.kIn, ?_⟩
  rw [hks]
  obtain ⟨cs, c1, c2, c3⟩ := cells_are J2 hc q2.1
  have q := q2.2 cs c1 c2.nd c3
  have r2 := hb.rel r rz
  refine wpAny_call (codeAny_mono (F.run X.A X.stack s2 (addC cs H2) ⟨us, ks.zip ws⟩ (g us ws) (gV vs zs) _ E0 hr (env0_add J2.env0 c2 c3) (hb.to s2 us ws J2.kIn (r.length.symm.trans l1) (rz.length.symm.trans l2)) r2 q) fun z s' hz => ?_)
  match z, hz with
  | .ok (.ret u), hz => exact J2.after (ce_cut c2 c3 hz)
  | .ok .next, hz => exact False.elim hz
  | .ok .brk, hz => exact False.elim hz
  | .ok .cont, hz => exact False.elim hz
  | .error er, hz => exact False.elim hz
theorem pe_metC {pl : Sem Bool} (he : PE X o ta) (c : Met X.prog X.w X.K X.mg X.base m C k ps dvs sp) (hr : Room k X.A) (hc : Celled X js) (ha : PA X (e :: es) t)
    (hst : starEach (e :: es) X.env = (false, eval e X.env) :: starEach es X.env := by rfl) (hpl : (backTo pos (starEach es X.env)).any (·.1) = false := by rfl)
    (ht : eval (.Call (.Attribute o m apos) (e :: es) [] pos) X.env = (do
      let ov ← eval o X.env
      standAt apos.atName
      let (f, first) ← holding [ov] (getMethod ov m pl)
      callWith pos f first (backTo pos (starEach (e :: es) X.env)) (backToKw pos (keywordEach [] X.env))) := by rfl) :
    PE X (.Call (.Attribute o m apos) (e :: es) [] pos) (tMethC X js C m sp dvs ta t) := by
  obtain ⟨f, fd, ds, c, hm, F, hb, hd⟩ := c.ex
  refine ⟨fun pins s σ H Q I h => ?_⟩
  refine PySem.W.methodCall_KW (pl := pl) (thn (he.run pins s σ H _ I h) fun u s1 ⟨x, H1, I1, rx, a, dx, fs, ex, ea, l, q⟩ => ?_) ht
  subst ex
  obtain rfl : u = Value.ref a := rx
  refine getmeth_ok I1 ea c hm l ?_
  refine PySem.W.callWith_K (first := [.ref a]) (h₀ := X.base) I.ok.mod.kin hm.kp (thn (ha.run pos pins s1 σ H1 _ I1 q) fun us s2 ⟨vs, H2, I2, r, q2⟩ => ⟨I2.kIn, ?_⟩) hst hpl
  exact run_fnC (us := .ref a :: us) (vs := .ref a :: vs) F hr hb hd hc I2 (.cons rfl r) q2
theorem pe_met0C {pl : Sem Bool} (he : PE X o ta) (c : Met X.prog X.w X.K X.mg X.base m C k ps dvs sp) (hr : Room k X.A) (hc : Celled X js)
    (ht : eval (.Call (.Attribute o m apos) [] [] pos) X.env = (do
      let ov ← eval o X.env
      standAt apos.atName
      let (f, first) ← holding [ov] (getMethod ov m pl)
      callWith pos f first (backTo pos (starEach [] X.env)) (backToKw pos (keywordEach [] X.env))) := by rfl) :
    PE X (.Call (.Attribute o m apos) [] [] pos) (tMethC X js C m sp dvs ta tNil) := by
  obtain ⟨f, fd, ds, c, hm, F, hb, hd⟩ := c.ex
  refine ⟨fun pins s σ H Q I h => ?_⟩
  refine PySem.W.methodCall_KW (pl := pl) (thn (he.run pins s σ H _ I h) fun u s1 ⟨x, H1, I1, rx, a, dx, fs, ex, ea, l, q⟩ => ?_) ht
  subst ex
  obtain rfl : u = Value.ref a := rx
  refine getmeth_ok I1 ea c hm l ?_
  exact PySem.W.callWith_K0 (first := [.ref a]) I1.kIn hm.kp (run_fnC (us := [.ref a]) (vs := [.ref a]) F hr hb hd hc I1 (.cons rfl .nil) q)
end
end Fs

namespace Fs
open PySem PySem.Spec PyProof.Rows L2
theorem hu65 {k : Nat} {A : Around} (r : Room k A) : A.units + 65 < cLine := by have := r.un; omega
/-! ### setdefault, get and pop of dicts with tuples as keys -/
section
variable {X : Cx} {pins : List (Addr × Obj)} {σ : L2.St} {H : Hp} {s : Shared} {a b : Addr} {d : V} {r : Value} {A : Around} {E : Value → Shared → Prop} {kvs : List (List Key × V)} {k : List Key}
theorem d_setdT {Q : Value → Shared → Prop} (hu : A.units + 1 < cLine) (I : Inv X pins σ H s) (e : H a = some (.dT kvs)) (eb : H b = some (.tup (k.map kV))) (rd : RelV d r) (hl : kvs.length < sizeLine)
    (h1 : ∀ v, valV kvs k = some v → ∀ (w' : Value) (s' : Shared), Inv X pins σ H s' → RelV v w' → Q w' s') (h2 : valV kvs k = none → ∀ (w' : Value) (s' : Shared), Inv X pins σ (upd H a (.dT (putK kvs k d))) s' → RelV d w' → Q w' s') :
    wpAny (model X.prog X.w) A (call (.builtin "dict.setdefault") [.ref a, .ref b, r]) Q E s := by
  obtain ⟨z, hd, xs, rel, dd⟩ := dt_of I.hok e
  have hz : xs.length ≤ sizeLine := by rw [← Paired.length rel]; exact z
  refine call_setdefault_heap (hsz := hz) (tupleKind_room_in1 hu) (key_of I.hok eb) hd dd (fun p hp => ?_) fun hn h' dd' hs => ?_
  · have q := rel.val k
    rw [hp] at q
    cases q0 : valV kvs k with
    | none =>
      rw [q0] at q
      exact (show False from q).elim
    | some v0 =>
      rw [q0] at q
      exact h1 v0 q0 _ _ (I.tok _) q
  · have q := rel.val k
    rw [hn] at q
    cases q0 : valV kvs k with
    | some v0 =>
      rw [q0] at q
      exact (show False from q).elim
    | none =>
      have hl2 : (putK kvs k d).length ≤ sizeLine := by have := length_putK kvs k d; omega
      obtain ⟨o, es, ep, ho, g2, g3, g4, _, g5⟩ := dd'
      refine h2 q0 _ _ (d_write I (by rw [e]; exact True.intro) hs ⟨o, ho⟩ ⟨hl2, hd, _, (rel.put k eb rd).keeps fun c ys ec => ?_, o, es, ep, ho, g2, g3, g4, g5⟩) rd
      rw [upd_ne (ne_of ec e (fun z => nomatch z))]
      exact ec
theorem KT.drop {H : Hp} {kvs : List (List Key × V)} {xs : List (List Key × Addr × Value)} (r : KT H kvs xs) (k : List Key) : KT H (dropK kvs k) (withoutH xs k) := by
  unfold dropK withoutH
  induction r with
  | nil => exact .nil
  | @cons p q ps qs h t ih =>
    obtain ⟨h1, h2⟩ := h
    rw [List.filter_cons, List.filter_cons]
    by_cases e : p.1 = k
    · have a : ¬ decide (p.1 ≠ k) = true := by simp [e]
      have b : ¬ decide (q.1 ≠ k) = true := by simp [h1.symm.trans e]
      rw [if_neg a, if_neg b]; exact ih
    · have e' : ¬ q.1 = k := fun z => e (h1.trans z)
      have a : decide (p.1 ≠ k) = true := by simp [e]
      have b : decide (q.1 ≠ k) = true := by simp [e']
      rw [if_pos a, if_pos b]; exact .cons ⟨h1, h2⟩ ih
theorem d_popT {v : V} {Q : Value → Shared → Prop} (hu : A.units + 1 < cLine) (I : Inv X pins σ H s) (e : H a = some (.dT kvs)) (eb : H b = some (.tup (k.map kV))) (l : valV kvs k = some v)
    (h : ∀ w' s', Inv X pins σ (upd H a (.dT (dropK kvs k))) s' → RelV v w' → Q w' s') : wpAny (model X.prog X.w) A (call (.builtin "dict.pop") [.ref a, .ref b]) Q E s := by
  obtain ⟨z, hd, xs, rel, dd⟩ := dt_of I.hok e
  have hz : xs.length ≤ sizeLine := by rw [← Paired.length rel]; exact z
  obtain ⟨w', hw, rw'⟩ := RelO.some_of (v := v) (o := (atKey xs k).map (·.2)) (by rw [← l]; exact rel.val k)
  obtain ⟨p, hp, hp2⟩ := Option.map_eq_some_iff.mp hw
  refine call_pop_heap (hsz := hz) (.inl rfl) (PySem.F.args_dict_pop_2 _ _) (tupleKind_room_in1 hu) (key_of I.hok eb) hd dd hp fun h' dd' hs => ?_
  have hl2 : (dropK kvs k).length ≤ sizeLine := Nat.le_trans (dropK_le kvs k) z
  obtain ⟨o, es, ep, ho, g2, g3, g4, _, g5⟩ := dd'
  rw [hp2]
  refine h _ _ (d_write I (by rw [e]; exact True.intro) hs ⟨o, ho⟩ ⟨hl2, hd, _, (KT.drop rel k).keeps fun c ys ec => ?_, o, es, ep, ho, g2, g3, g4, g5⟩) rw'
  rw [upd_ne (ne_of ec e (fun z => nomatch z))]
  exact ec
end
/-- a[y], set to z where it is not there -/
def DSetQ (Q : VK) (a : Addr) (y z : V) (H : Hp) : Prop := ∃ (kvs : List (List Key × V)) (k : List Key) (b : Addr), H a = some (.dT kvs) ∧ y = .ref b ∧ H b = some (.tup (k.map kV)) ∧ kvs.length < sizeLine ∧
  (∀ v, valV kvs k = some v → Q v H) ∧ (valV kvs k = none → Q z (upd H a (.dT (putK kvs k z))))
def DPopQ (Q : VK) (a : Addr) (y : V) (H : Hp) : Prop := ∃ (kvs : List (List Key × V)) (k : List Key) (b : Addr) (v : V), H a = some (.dT kvs) ∧ y = .ref b ∧ H b = some (.tup (k.map kV)) ∧ valV kvs k = some v ∧ Q v (upd H a (.dT (dropK kvs k)))
def DGet2Q (Q : VK) (a : Addr) (y z : V) (H : Hp) : Prop := ∃ o, DGet H a y o ∧ Q (o.getD z) H
def DOnQ (x : V) (H : Hp) (R : Addr → Prop) : Prop := ∃ a, x = .ref a ∧ IsD H a ∧ R a
def tDSetT (td ty tx : TE) : TE := fun σ H Q => td σ H fun x H1 => DOnQ x H1 fun a => ty σ H1 fun y H2 => tx σ H2 fun z H3 => DSetQ Q a y z H3
def tDPopT (td ty : TE) : TE := fun σ H Q => td σ H fun x H1 => DOnQ x H1 fun a => ty σ H1 fun y H2 => DPopQ Q a y H2
def tDGetT (td ty tx : TE) : TE := fun σ H Q => td σ H fun x H1 => DOnQ x H1 fun a => ty σ H1 fun y H2 => tx σ H2 fun z H3 => DGet2Q Q a y z H3
section
variable {X : Cx} {o e f : Expr} {td ty tx : TE} {apos cpos : Pos} {σ : L2.St} {H : Hp} {Q : VK}
theorem pe_dsetT (hu : X.A.units + 1 < cLine) (ho : PE X o td) (he : PE X e ty) (hf : PE X f tx) (m : M2 X o "setdefault" apos e f cpos) : PE X (.Call (.Attribute o "setdefault" apos) [e, f] [] cpos) (tDSetT td ty tx) := by
  refine ⟨fun pins s σ H Q I h => ?_⟩
  refine wpAny_Call_method m.base m.few m.line PySem.F.plainAttrs_dict PySem.F.slot_dict_setdefault PySem.F.type_dict_setdefault (thn (ho.run pins s σ H _ I h) fun u s1 ⟨x, H1, I1, rx, a, ex, d, q1⟩ => ?_)
  subst ex
  obtain rfl : u = Value.ref a := rx
  obtain ⟨t1, t2, _⟩ := isD_at I1 d
  refine ⟨t1, t2, ?_⟩
  rw [m.trees]
  refine Calls.callWith_builtin rfl (Calls.evalArgs_plain (Calls.spliced_cons (thn (he.run pins s1 σ H1 _ I1 q1) fun iv s2 ⟨y, H2, I2, ry, q2⟩ =>
    Calls.spliced_cons (thn (hf.run pins s2 σ H2 _ I2 q2) fun fv s3 ⟨z, H3, I3, rz, kvs, k, b, ea, ey, eb, hl, q3, q4⟩ => Calls.spliced_nil ?_))))
  subst ey
  obtain rfl : iv = Value.ref b := ry
  exact d_setdT hu I3 ea eb rz hl (fun v hv w' s4 I4 rw' => ⟨v, _, I4, rw', q3 v hv⟩) fun hn w' s4 I4 rw' => ⟨z, _, I4, rw', q4 hn⟩
theorem pe_dpopT (hu : X.A.units + 1 < cLine) (ho : PE X o td) (he : PE X e ty) (m : M1 X o "pop" apos e cpos) : PE X (.Call (.Attribute o "pop" apos) [e] [] cpos) (tDPopT td ty) := by
  refine ⟨fun pins s σ H Q I h => ?_⟩
  refine wpAny_Call_method m.base m.few m.line PySem.F.plainAttrs_dict PySem.F.slot_dict_pop PySem.F.type_dict_pop (thn (ho.run pins s σ H _ I h) fun u s1 ⟨x, H1, I1, rx, a, ex, d, q1⟩ => ?_)
  subst ex
  obtain rfl : u = Value.ref a := rx
  obtain ⟨t1, t2, _⟩ := isD_at I1 d
  refine ⟨t1, t2, ?_⟩
  rw [m.trees]
  refine Calls.callWith_builtin rfl (Calls.evalArgs_plain (Calls.spliced_cons (thn (he.run pins s1 σ H1 _ I1 q1) fun iv s2 ⟨y, H2, I2, ry, kvs, k, b, v, ea, ey, eb, l, q2⟩ => Calls.spliced_nil ?_)))
  subst ey
  obtain rfl : iv = Value.ref b := ry
  exact d_popT hu I2 ea eb l fun w' s3 I3 rw' => ⟨v, _, I3, rw', q2⟩
theorem pe_dgetT2 (hu : X.A.units + 1 < cLine) (ho : PE X o td) (he : PE X e ty) (hf : PE X f tx) (m : M2 X o "get" apos e f cpos) : PE X (.Call (.Attribute o "get" apos) [e, f] [] cpos) (tDGetT td ty tx) := pe_dget2 hu ho he hf m
theorem s_dset (h : td σ H fun x H1 => DOnQ x H1 fun a => ty σ H1 fun y H2 => tx σ H2 fun z H3 => DSetQ Q a y z H3) : tDSetT td ty tx σ H Q := h
theorem s_dpopT (h : td σ H fun x H1 => DOnQ x H1 fun a => ty σ H1 fun y H2 => DPopQ Q a y H2) : tDPopT td ty σ H Q := h
theorem s_dgetT2 (h : td σ H fun x H1 => DOnQ x H1 fun a => ty σ H1 fun y H2 => tx σ H2 fun z H3 => DGet2Q Q a y z H3) : tDGetT td ty tx σ H Q := h
end
/-- a dict that stays as it is, as a fact -/
def DtF (kvs : List (List Key × D)) : V → Hp → Prop := fun v J => ∃ a vs, v = .ref a ∧ J a = some (.dT vs) ∧ IsP J vs kvs
section
variable {K : PySem.W.Frag} {F : List (V × D)} {M M' M0 : List ME} {H : Hp} {Q : VK} {p : Addr} {kvs : List (List Key × D)} {k : List Key} {v y z x : V} {d e : D} {ds : List D} {R : Addr → Prop}
theorem n_dOn (w : Wf F H M) (h : .dt p kvs ∈ M) (q : R p) : DOnQ (.ref p) H R := by
  obtain ⟨I, Mc, vs, w, a, hF, hp, ha⟩ := w.dtAt h
  exact ⟨p, rfl, .inr ⟨vs, .inl hp⟩, q⟩
theorem Wf.dtF (w : Wf F H M) (h : Kn F x (.fact (DtF kvs))) : ∃ I Mc p vs, x = .ref p ∧ W I H Mc ∧ CnA I M Mc ∧ (∀ f ∈ F, Is I f.1 f.2) ∧ H p = some (.dT vs) ∧ IsP I vs kvs := by
  obtain ⟨I, Mc, w, a, hF⟩ := w.ex
  have h2 := h.is hF
  cases h2 with
  | fact s q =>
    obtain ⟨p, vs, rfl, h3, h4⟩ := q
    exact ⟨I, Mc, p, vs, rfl, w, a, hF, w.imm _ _ (s _ _ h3), h4.mono s⟩
theorem n_dOnF (w : Wf F H M) (h : Kn F x (.fact (DtF kvs))) (q : ∀ p, x = .ref p → R p) : DOnQ x H R := by
  obtain ⟨I, Mc, p, vs, rfl, w, a, hF, hp, ha⟩ := w.dtF h
  exact ⟨p, rfl, .inr ⟨vs, .inl hp⟩, q p rfl⟩
theorem n_dsetT (w : Wf F H M) (f : Foc M (.dt p kvs) M' (.dt p (putP kvs k d))) (hy : Rk F M y (.tup (k.map keyD))) (hv : Kn F z d) (hl : kvs.length ≤ 100000)
    (q1 : ∀ e u, getP kvs k = some e → Wf ((u, e) :: F) H M → Q u H) (q2 : getP kvs k = none → ∀ H', Wf F H' M' → Q z H') : DSetQ Q p y z H := by
  obtain ⟨b, rfl, hb⟩ := w.keyT hy
  have w0 := w
  obtain ⟨I, Mc, w, a, hF⟩ := w.ex
  obtain ⟨M1, m, M2, rfl, h3, h4⟩ := a.foc f
  cases h3 with
  | @dt _ vs _ ha =>
    refine ⟨vs, k, b, w.at, rfl, hb, by rw [ha.length]; exact Nat.lt_of_le_of_lt hl (by decide), fun v hv' => ?_, fun hn => ?_⟩
    · rcases ha.get (k := k) with ⟨h1, h2⟩ | ⟨v', d', h1, h2, h5⟩
      · rw [h2] at hv'; cases hv'
      · rw [h1] at hv'
        cases hv'
        exact q1 _ _ h2 (.cons w a hF h5)
    · rcases ha.get (k := k) with ⟨h1, h2⟩ | ⟨v', d', h1, h2, h5⟩
      · exact q2 h1 _ ⟨I, _, w.put, h4 I _ (Same.refl _) (.dt (ha.put (hv.is hF))), hF⟩
      · rw [h1] at hn; cases hn
def dropP {κ : Type} [DecidableEq κ] (kvs : List (κ × D)) (k : κ) : List (κ × D) := kvs.filter fun kv => decide (kv.1 ≠ k)
theorem IsP.drop {I : Hp} {κ : Type} [DecidableEq κ] {k : κ} : ∀ {vs : List (κ × V)} {ds : List (κ × D)}, IsP I vs ds → IsP I (dropK vs k) (dropP ds k)
  | _, _, .nil => .nil
  | _, _, .cons (f := j) h a => by
    unfold dropK dropP
    rw [List.filter_cons, List.filter_cons]
    by_cases e : j = k
    · have c : ¬ decide (j ≠ k) = true := by simp [e]
      rw [if_neg c, if_neg c]; exact IsP.drop a
    · have c : decide (j ≠ k) = true := by simp [e]
      rw [if_pos c, if_pos c]; exact .cons h (IsP.drop a)
theorem n_dpopT (w : Wf F H M) (f : Foc M (.dt p kvs) M' (.dt p (dropP kvs k))) (hy : Rk F M y (.tup (k.map keyD))) (hd : getP kvs k = some d) (q : ∀ u H', Wf ((u, d) :: F) H' M' → Q u H') : DPopQ Q p y H := by
  obtain ⟨b, rfl, hb⟩ := w.keyT hy
  obtain ⟨I, Mc, w, a, hF⟩ := w.ex
  obtain ⟨M1, m, M2, rfl, h3, h4⟩ := a.foc f
  cases h3 with
  | @dt _ vs _ ha =>
    rcases ha.get (k := k) with ⟨h1, h2⟩ | ⟨v', d', h1, h2, h5⟩
    · rw [h1] at hd; cases hd
    · rw [h2] at hd
      cases hd
      exact ⟨vs, k, b, v', w.at, rfl, hb, h1, q _ _ (Wf.cons w.put (h4 I _ (Same.refl _) (.dt ha.drop)) hF h5)⟩
theorem n_dget2F (w : Wf F H M) (h : Kn F (.ref p) (.fact (DtF kvs))) (hy : Rk F M y (.tup (k.map keyD))) (q1 : ∀ e u, getP kvs k = some e → Wf ((u, e) :: F) H M → Q u H) (q2 : getP kvs k = none → Q z H) : DGet2Q Q p y z H := by
  obtain ⟨b, rfl, hb⟩ := w.keyT hy
  obtain ⟨I, Mc, p', vs, ep, w, a, hF, hp, ha⟩ := w.dtF h
  cases ep
  refine ⟨_, DGet.t hp hb, ?_⟩
  rcases ha.get (k := k) with ⟨h1, h2⟩ | ⟨v, d', h1, h2, h3⟩
  · rw [h2]
    exact q2 h1
  · rw [h1]
    exact q1 _ v h2 (.cons w a hF h3)
/-- dict of the heap: it is shut -/
theorem Wf.frzT (w : Wf F H M) (r : Rem M (.dt p kvs) M') : Wf ((.ref p, .fact (DtF kvs)) :: F) H M' := by
  obtain ⟨I, Mc, w, a, hF⟩ := w.ex
  obtain ⟨M1, m, M2, rfl, h1, h2⟩ := a.rem r
  cases h1 with
  | dt b =>
    refine ⟨_, _, w.frz, h2.mono w.frzS, fun f hf => ?_⟩
    rcases List.mem_cons.mp hf with rfl | hf
    · exact .fact (Same.refl _) ⟨p, _, rfl, upd_same, b.mono w.frzS⟩
    · exact (hF f hf).mono w.frzS
/-- what the values of a dict are known to be besides -/
inductive KvUp (F : List (V × D)) : List (List Key × D) → List (List Key × D) → Prop
  | nil : KvUp F [] []
  | cons {k : List Key} {a : Addr} {d : D} {r r' : List (List Key × D)} : Kn F (.ref a) d → KvUp F r r' → KvUp F ((k, .ref a) :: r) ((k, d) :: r')
theorem KvUp.isP {I : Hp} (hF : ∀ f ∈ F, Is I f.1 f.2) : ∀ {kvs kvs' : List (List Key × D)} {vs : List (List Key × V)}, KvUp F kvs kvs' → IsP I vs kvs → IsP I vs kvs'
  | _, _, _, .nil, .nil => .nil
  | _, _, _, .cons h u, .cons g a => .cons (by rw [g.ref_eq]; exact h.is hF) (u.isP hF a)
theorem Wf.dtUp {kvs' : List (List Key × D)} (w : Wf F H (.dt p kvs :: M)) (u : KvUp F kvs kvs') : Wf F H (.dt p kvs' :: M) := by
  obtain ⟨I, Mc, w, a, hF⟩ := w.ex
  cases a with
  | cons h a =>
    cases h with
    | dt b => exact ⟨I, _, w, .cons (.dt (u.isP hF b)) a, hF⟩
/-- many lists are shut -/
theorem Wf.frzLs : ∀ (L : List (Addr × List D)) {F : List (V × D)} {M : List ME}, Wf F H (L.map (fun x => ME.ml x.1 x.2) ++ M) → Wf (L.map (fun x => (V.ref x.1, D.lst x.2)) ++ F) H M
  | [], _, _, w => w
  | x :: L, F, M, w => by
    have w1 := (w.frzL (p := x.1) (ds := x.2) .here)
    have w2 := Wf.frzLs L w1
    refine w2.sub (fun f hf => .mem ?_) (.refl _)
    simp only [List.map_cons, List.cons_append, List.mem_cons, List.mem_append] at hf ⊢
    rcases hf with hf | hf | hf
    · exact .inr (.inl hf)
    · exact .inl hf
    · exact .inr (.inr hf)
theorem Foc.app {e e' : ME} (A : List ME) (f : Foc M e M' e') : Foc (A ++ M) e (A ++ M') e' := by
  induction A with
  | nil => exact f
  | cons x A ih => exact .there ih
theorem Foc.left {e e' : ME} (f : Foc M e M' e') (B : List ME) : Foc (M ++ B) e (M' ++ B) e' := by
  induction f with
  | here => exact .here
  | there _ ih => exact .there ih
/-! ### x in l, items data of any depth -/
theorem k_inD {X : Cx} (h : X.K = K) (hu : X.A.units + 65 < cLine) : OpR X (compareOp .In) (rInD K) := h ▸ op_inD hu
theorem k_notinD {X : Cx} (h : X.K = K) (hu : X.A.units + 65 < cLine) : OpR X (compareOp .NotIn) (rNotInD K) := h ▸ op_notInD hu
theorem any_pds {k : Nat} (n : NB k d) : ∀ {ds : List D}, (∀ e ∈ ds, NB k e) → ((D.pds ds).any (fun z => PyData.eqv z d.pd) = true ↔ d ∈ ds)
  | [], _ => by simp [D.pds]
  | e :: ds, h => by
    have h1 := (h e List.mem_cons_self).eqv n
    rw [D.pds, List.any_cons, Bool.or_eq_true, any_pds n fun x hx => h x (List.mem_cons_of_mem _ hx), h1, List.mem_cons]
    exact ⟨fun o => o.imp Eq.symm id, fun o => o.imp Eq.symm id⟩
theorem n_inD {k : Nat} {b : Bool} (w : Wf F H M) (hx : Rk F M x d) (hy : Rk F M y (.lst ds)) (n : NB k d) (m : ∀ e ∈ ds, NB k e) (hk : k < 64) (hb : b = true ↔ d ∈ ds) (q : Q (.bl b) H) : rInD K x y H Q :=
  ⟨d.pd, D.pds ds, n.dpH (w.rd hx), (NB.lst m).dpH (w.rd hy), n.shaped (by omega), (NB.lst m).shaped (by omega), by rw [show (D.pds ds).any (fun z => PyData.eqv z d.pd) = b from by rw [Bool.eq_iff_iff, any_pds n m, hb]]; exact q⟩
theorem n_notinD {k : Nat} {b : Bool} (w : Wf F H M) (hx : Rk F M x d) (hy : Rk F M y (.lst ds)) (n : NB k d) (m : ∀ e ∈ ds, NB k e) (hk : k < 64) (hb : b = true ↔ d ∈ ds) (q : Q (.bl (!b)) H) : rNotInD K x y H Q :=
  ⟨d.pd, D.pds ds, n.dpH (w.rd hx), (NB.lst m).dpH (w.rd hy), n.shaped (by omega), (NB.lst m).shaped (by omega), by rw [show (D.pds ds).any (fun z => PyData.eqv z d.pd) = b from by rw [Bool.eq_iff_iff, any_pds n m, hb]]; exact q⟩
end
end Fs

namespace Fs
open PySem PySem.Spec PyProof.Rows L2
/-! ### a def within a def, as a value that may be called -/
/-- its words -/
structure DW where
  name : Str
  qual : Str
  params : Arguments
  body : List Stmt
  scope : Scope
  cl : List (Str × Addr)
abbrev DW.nf (L : DW) (c : Addr) : NdefX.NF := ⟨L.name, L.qual, L.params, L.body, L.scope, L.cl, c⟩
def tDefV (Pt : Addr) (pos : Pos) (i : Nat) (L : DW) : TS := fun D σ H => ∃ ps : Array Value, H Pt = some (.tbl ps) ∧ TabK H L.qual ps ∧
  (∀ f c, H c = none → H f = none → f ≠ c → D.nx (σ.set i (some (.ref f))) (upd (upd (upd H Pt (.tbl (ps ++ #[rawInt pos.line, rawInt pos.col, .ref c]))) c (LamX.CodeO c L.qual)) f (NdefX.FnO f (L.nf c)))) ∧
  ∀ f c, codeAmong pos ps.toList = some (.ref c) → H f = none → D.nx (σ.set i (some (.ref f))) (upd H f (NdefX.FnO f (L.nf c)))
section
variable {X : Cx} {c P : Addr} {name : Str} {params : Arguments} {body : List Stmt} {scope : Scope} {pos : Pos} {i : Nat}
theorem ps_defV (B : LamX.TabB X.base X.mg c P) (hcode : X.env.code = .ref c) (hfree : ∀ y ∈ scope.names, y.2 = .free → X.env.scope.names.lookup y.1 = some .cell ∨ X.env.scope.names.lookup y.1 = some .free) (hd0 : params.defaults = []) (hk0 : params.kw_defaults = []) (ha : annTrees params none X.env = [])
    (hN : X.N.Nodup) (hi : X.N[i]? = some name) (hx : Loc X.env.scope name) (hf : X.fn name = true ∨ X.env.scope.names.lookup name = some .local) :
    PS X (.FunctionDef name params body [] none [] scope none name pos) (tDefV P pos i ⟨name, X.env.qual ++ name, params, body, scope, cloFrom X.env.cells scope.names []⟩) := by
  refine ⟨fun pins s σ H D J h => ?_⟩
  obtain ⟨ps, hP, ⟨tok, tell⟩, miss, hit⟩ := h
  have hq : qualnameIn X.env name name = X.env.qual ++ name := by
    have hk : X.env.kindOf name = some .local ∨ X.env.kindOf name = some .cell := hx
    unfold qualnameIn
    rcases hk with k | k <;> rw [k] <;> first | rfl | exact if_neg (by decide)
  refine PySem.W.nestDef_K hd0 hk0 ha ?_
  rw [hq]
  have clo := closure_ok (scope := scope) (env := X.env) fun y hy e => (hfree y hy e).elim (fun z => J.ok.has _ (.inl z)) fun z => J.ok.has _ (.inr z)
  have oP : s.heap.get? P = some { cls := .none, data := .fields ps } := J.hok P _ hP
  have bP := B.bm.keeps J.bk
  cases among : codeAmong pos ps.toList with
  | some cv =>
    obtain ⟨k, ek, hk⟩ := tell pos cv among
    subst ek
    refine PySem.W.makeFunction_hit (c := c) (P := P) (mg := X.mg) clo J.ok.glob (J.mod.glob.keeps J.bk) hcode (B.code.keeps J.bk) oP tok among bP fun ctv doc h2 tk ext big => ?_
    have J2 : Inv X pins σ H { s with heap := h2, toks := tk } := J.kept ext
    have nF : H h2.objs.size = none := J2.hok.fresh (Nat.le_refl _)
    have J3 := NdefX.inv_fn (F := ⟨name, X.env.qual ++ name, params, body, scope, cloFrom X.env.cells scope.names [], k⟩) (t' := tk) (doc := doc) (pm := (X.mg "__name__").getD .none) (ctv := ctv) J2 rfl
    exact store_ok J3 hN hi hx (v := .ref h2.objs.size) rfl (fun s'' J => ⟨_, _, J, hit _ _ among nF⟩) hf
  | none =>
    refine PySem.W.makeFunction_K (c := c) (P := P) (mg := X.mg) clo J.ok.glob (J.mod.glob.keeps J.bk) hcode (B.code.keeps J.bk) oP tok among B.gP bP fun k ctv doc h2 tk ext low high rec tab => ?_
    obtain ⟨k2, ob, vs, t, e2, ho, hd, hv⟩ := rec
    cases e2
    have J2 := LamX.inv_table (t' := tk) (more := #[rawInt pos.line, rawInt pos.col, .ref k]) (h' := h2) J hP (fun b o nb e => ext b o nb e) tab low ⟨ob, vs, t, ho, hd, hv⟩
    have J3 := NdefX.inv_fn (F := ⟨name, X.env.qual ++ name, params, body, scope, cloFrom X.env.cells scope.names [], k⟩) (t' := tk) (doc := doc) (pm := (X.mg "__name__").getD .none) (ctv := ctv) J2 rfl
    exact store_ok J3 hN hi hx (v := .ref h2.objs.size) rfl (fun s'' J4 => ⟨_, _, J4, miss _ _ (J.hok.fresh low) (J.hok.fresh (Nat.le_trans low (Nat.le_of_lt high))) (Nat.ne_of_gt high)⟩) hf
end
section
variable {F : List (V × D)} {σ : L2.St} {H : Hp} {M : List ME} {D : Ends} {Pt : Addr} {pos : Pos} {L : DW} {i : Nat} {φ : V → Hp → Prop}
theorem n_def (w : Wf F H M) (hm : .tb Pt L.qual ∈ M) (hφ : ∀ f c I, I f = some (NdefX.FnO f (L.nf c)) → I c = some (LamX.CodeO c L.qual) → φ (.ref f) I) (q : ∀ f H', Wf ((.ref f, .fact φ) :: F) H' M → D.nx (σ.set i (some (.ref f))) H') : tDefV Pt pos i L D σ H := by
  obtain ⟨I, Mc, w, a, hF⟩ := w.ex
  obtain ⟨M1, m, M2, rfl, c1, c2⟩ := a.foc (Foc.self hm)
  cases c1 with
  | @tb _ _ ps tok tell =>
    have hP : H Pt = some (.tbl ps) := w.at
    refine ⟨ps, hP, ⟨tok, fun p cv e => let ⟨k, h1, h2⟩ := tell p cv e; ⟨k, h1, w.imm _ _ h2⟩⟩, fun f k nk nf ne => q f _ ?_, fun f k hk nf => q f _ ?_⟩
    · have kP : k ≠ Pt := fun e => by rw [e, hP] at nk; cases nk
      have fP : f ≠ Pt := fun e => by rw [e, hP] at nf; cases nf
      have w1 : W I (upd H Pt (.tbl (ps ++ #[rawInt pos.line, rawInt pos.col, .ref k]))) _ := w.put
      have n1 : upd H Pt (.tbl (ps ++ #[rawInt pos.line, rawInt pos.col, .ref k])) k = none := by rw [upd_ne kP]; exact nk
      have w2 := w1.newI (o := LamX.CodeO k L.qual) n1
      have n2 : upd (upd H Pt (.tbl (ps ++ #[rawInt pos.line, rawInt pos.col, .ref k]))) k (LamX.CodeO k L.qual) f = none := by rw [upd_ne ne, upd_ne fP]; exact nf
      have w3 := w2.newI (o := NdefX.FnO f (L.nf k)) n2
      have s1 : Same I (upd I k (LamX.CodeO k L.qual)) := w1.same n1
      have s2 : Same (upd I k (LamX.CodeO k L.qual)) (upd (upd I k (LamX.CodeO k L.qual)) f (NdefX.FnO f (L.nf k))) := w2.same n2
      refine ⟨_, _, w3, c2 _ _ (s1.trans s2) (.tb ?_ fun p cv e => ?_), fun g hg => ?_⟩
      · rw [show (ps ++ #[rawInt pos.line, rawInt pos.col, .ref k]).toList = ps.toList ++ [rawInt pos.line, rawInt pos.col, .ref k] by simp]
        exact PySem.TriplesOk_snoc _ _ _ _ tok
      · rw [show (ps ++ #[rawInt pos.line, rawInt pos.col, .ref k]).toList = ps.toList ++ [rawInt pos.line, rawInt pos.col, .ref k] by simp] at e
        rcases LamX.among_app _ tok e with z | z
        · obtain ⟨j, h1, h2⟩ := tell p cv z
          exact ⟨j, h1, s2 _ _ (s1 _ _ h2)⟩
        · exact ⟨k, z, s2 _ _ upd_same⟩
      · rcases List.mem_cons.mp hg with rfl | hg
        · exact .fact (Same.refl _) (hφ f k _ upd_same (by rw [upd_ne ne.symm]; exact upd_same))
        · exact (hF g hg).mono (s1.trans s2)
    · have w3 := w.newI (o := NdefX.FnO f (L.nf k)) nf
      have s2 : Same I (upd I f (NdefX.FnO f (L.nf k))) := w.same nf
      obtain ⟨j, e1, ho⟩ := tell pos _ hk
      cases e1
      refine ⟨_, _, w3, c2 _ _ s2 (.tb tok fun p cv e => let ⟨j, h1, h2⟩ := tell p cv e; ⟨j, h1, s2 _ _ h2⟩), fun g hg => ?_⟩
      rcases List.mem_cons.mp hg with rfl | hg
      · exact .fact (Same.refl _) (hφ f k _ upd_same (s2 _ _ ho))
      · exact (hF g hg).mono s2
end
section
variable {P : Program} {w : World} {K : PySem.W.Frag} {mg : Str → Option Value} {base : Heap} {N ps fr : List Str} {f c : Addr} {k : Nat} {sp : Sp} {L : DW} {I : Hp}
theorem fnV_def (S : NdefX.NScope N ps fr L.scope) (hb : ∀ (doc pm ctv : Value) (us : List Value), us.length = ps.length → bindArgs ((L.nf c).fd doc pm ctv) ⟨us, []⟩ = pure (ps.zip us))
    (hinj : ∀ x y c, L.cl.lookup x = some c → L.cl.lookup y = some c → x = y) (hfr : ∀ y c, L.cl.lookup y = some c → y ∈ fr)
    (hsp : ∀ vs H Q, sp vs H Q E0 → vs.length = ps.length ∧ ∃ (cs : List (Addr × Obj)) (ws : List V), Paired (fun y (c : Addr × Obj) => L.cl.lookup y = some c.1) fr cs ∧ Paired (fun (c : Addr × Obj) w => CelO c.2 w) cs ws ∧ (∀ c ∈ cs, H c.1 = some (.frz c.2 topO)) ∧
      ∀ (A : Around) (outer : List Env) (s : Shared) (f c : Addr), Room k (A.deeper (NdefX.envF (L.nf c) f s.heap.objs.size)) → ∃ t, PSs (NdefX.ncx CX0 P w K mg base N (L.nf c) f A outer s (cutC cs H) E0) L.body t ∧ t { nx := fun _ H2 => (∀ d ∈ cs, H2 d.1 = none) → Q .non (addC cs H2), rt := fun v H2 => (∀ d ∈ cs, H2 d.1 = none) → Q v (addC cs H2) } (NdefX.startF N vs (ws.map some)) (cutC cs H))
    (hf : I f = some (NdefX.FnO f (L.nf c))) (hc : I c = some (LamX.CodeO c L.qual)) : FnV P w K mg base (k + 1) sp (.ref f) I := by
  refine ⟨f, rfl, fun H h x sm => ?_, fun A outer s H us vs Q hr e0 rv sm q => ?_⟩
  · obtain ⟨od, sl, doc, pm, ctv, e⟩ := NdefX.fnO_at x (sm _ _ hf)
    exact ⟨_, _, _, _, e⟩
  obtain ⟨hl, cs, ws, p1, p2, hcs, body⟩ := hsp vs H Q q
  obtain ⟨od, sl, doc, pm, ctv, ho⟩ := NdefX.fnO_at e0.hok (sm _ _ hf)
  have ndf : fr.Nodup := by
    have z := S.nd.sublist (List.take_sublist (ps.length + fr.length) N)
    rw [S.pre] at z
    exact (List.nodup_append.mp z).2.1
  have nd := paired_nodup hinj p1 ndf
  have e1 := env0_cut e0 hcs
  have C : NdefX.CellsAt L.cl fr (ws.map some) s.heap (cutC cs H) := by
    have one : ∀ (i : Nat) (y : Str), fr[i]? = some y → ∃ d ∈ cs, L.cl.lookup y = some d.1 ∧ ∃ v u, ws[i]? = some v ∧ RelV v u ∧ s.heap.IsCell d.1 (some u) := fun i y hy => by
      obtain ⟨d, q1, q2⟩ := paired_at p1 hy
      obtain ⟨v, q3, u, q4, q5⟩ := paired_at p2 q1
      exact ⟨d, List.mem_of_getElem? q1, q2, v, u, q3, q5, d.2, (e0.hok _ _ (hcs d (List.mem_of_getElem? q1))).1, q4⟩
    refine ⟨?_, fun y a ha => ?_, hinj, fun i y hy => ?_⟩
    · rw [List.length_map, ← p2.length, ← p1.length]
    · obtain ⟨i, hi⟩ := List.mem_iff_getElem?.mp (hfr y a ha)
      obtain ⟨d, q1, q2, v, u, _, _, q3⟩ := one i y hi
      rw [ha] at q2
      cases q2
      exact ⟨cutC_in (List.mem_map_of_mem q1), _, q3⟩
    · obtain ⟨d, q1, q2, v, u, q3, q4, q5⟩ := one i y hy
      refine ⟨d.1, q2, fun v2 h2 => ⟨u, ?_, q5⟩⟩
      rw [List.getElem?_map, q3] at h2
      cases h2
      exact q4
  have fin : codeAny (model P w) A (.call (.ref f) ⟨us, []⟩) (CR CX0 outer P w (cutC cs H) s (fun v H2 => (∀ d ∈ cs, H2 d.1 = none) → Q v (addC cs H2)) E0) s := by
    have lim : s.heap.NoLimit := e0.mod.nolimit.keeps fun b o e => (e0.bs b o e).1
    refine codeAny_call_function hr.depth ho rfl S.co S.gen rfl (NdefX.codeO_at e0.hok (sm _ _ hc)) ?_
    rw [hb _ _ _ us (by rw [← rv.length]; exact hl)]
    refine wpAny_pure (wpAny_newFunctionEnv S.nocell (fun ⟨n, _⟩ hy => S.par n (List.of_mem_zip hy).1) (fun h1 hns hsb => ⟨lim.fresh _ hsb, ?_⟩) S.kind)
    have keep : ∀ b o, s.heap.get? b = some o → h1.get? b = some o := fun b o e => hsb.extBut b o (Nat.ne_of_lt (Heap.lt_size e)) (Heap.get?_push_of_some _ e)
    show codeAny _ _ (.func L.body (NdefX.envF (L.nf c) f s.heap.objs.size)) _ _
    refine codeAny_func ?_
    obtain ⟨t2, ht, hq⟩ := body A outer s f c (hr.deeper _)
    have J : Inv (NdefX.ncx CX0 P w K mg base N (L.nf c) f A outer s (cutC cs H) E0) [] (NdefX.startF N vs (ws.map some)) (cutC cs H) { s with heap := h1, toks := s.toks + (ps.zip us).length } :=
      NdefX.inv_startN S hr.hd e1 hl rv C hns keep
    refine wpAny_mono (ht.run [] _ (NdefX.startF N vs (ws.map some)) (cutC cs H) _ J hq) (fun fl s' hs => ?_) fun e s' hs => hs
    cases fl with
    | ret u =>
      obtain ⟨v, σ', H', J, rv, q⟩ := hs
      exact ⟨v, H', J.os, J.bare, J.base, J.hok, rv, q⟩
    | next =>
      obtain ⟨σ', H', J, q⟩ := hs
      exact ⟨V.non, H', J.os, J.bare, J.base, J.hok, (rfl : L2.RelV V.non Value.none), q⟩
    | brk =>
      obtain ⟨_, _, _, q⟩ := hs
      exact False.elim q
    | cont =>
      obtain ⟨_, _, _, q⟩ := hs
      exact False.elim q
  refine codeAny_mono fin fun r s' z => ?_
  match r, z with
  | .ok (.ret u), z => exact ce_add nd e0 hcs z
  | .ok .next, z => exact False.elim z
  | .ok .brk, z => exact False.elim z
  | .ok .cont, z => exact False.elim z
  | .error er, z => exact False.elim z
/-- a def within a def that captures one name -/
theorem fnV_def1 {y : Str} {ca : Addr} (hcl : L.cl = [(y, ca)]) (S : NdefX.NScope N ps [y] L.scope) (hb : ∀ (doc pm ctv : Value) (us : List Value), us.length = ps.length → bindArgs ((L.nf c).fd doc pm ctv) ⟨us, []⟩ = pure (ps.zip us))
    (hsp : ∀ vs H Q, sp vs H Q E0 → vs.length = ps.length ∧ ∃ (F : List (V × D)) (M : List ME) (v : V), Wf F H M ∧ .cel ca v ∈ M ∧ ∀ (H1 : Hp) (M1 : List ME) (Q1 : VK), Wf F H1 M1 → (∀ e ∈ M, (∀ c u, e ≠ .cel c u) → e ∈ M1) → (∀ u H2, Wf F H2 M1 → (∀ H3, Wf F H3 M → Q u H3) → Q1 u H2) →
      ∀ (A : Around) (outer : List Env) (s : Shared) (f c : Addr), Room k (A.deeper (NdefX.envF (L.nf c) f s.heap.objs.size)) → ∃ t, PSs (NdefX.ncx CX0 P w K mg base N (L.nf c) f A outer s H1 E0) L.body t ∧ t { nx := fun _ H2 => Q1 .non H2, rt := Q1 } (NdefX.startF N vs [some v]) H1)
    (hf : I f = some (NdefX.FnO f (L.nf c))) (hc : I c = some (LamX.CodeO c L.qual)) : FnV P w K mg base (k + 1) sp (.ref f) I := by
  refine fnV_def (fr := [y]) S hb (fun x z c h1 h2 => ?_) (fun x c h => ?_) (fun vs H Q q => ?_) hf hc
  · rw [hcl] at h1 h2
    exact (lk1 h1).trans (lk1 h2).symm
  · rw [hcl] at h
    exact List.mem_singleton.mpr (lk1 h)
  · obtain ⟨hl, F, M, v, w', hm, body⟩ := hsp vs H Q q
    obtain ⟨M1, pm, hM1⟩ := cels_ahead (G := []) (as := [ca]) (ws := [v]) (M := M) (by simp) (fun e he => by rw [List.mem_singleton.mp he]; exact hm)
    obtain ⟨cs, e1, p2, hcs, nd, w2, back⟩ := n_cels (M := []) (as := [ca]) (ws := [v]) (G := M1) (w'.perm pm) rfl
    have w2 : Wf F (cutC cs H) M1 := w2
    have bk : ∀ H2, Wf F H2 M1 → (∀ d ∈ cs, H2 d.1 = none) → Wf F (addC cs H2) M := fun H2 w3 hn => Wf.perm (back F H2 [] M1 w3 hn) pm.symm
    have b2 := body (cutC cs H) M1 (fun v H2 => (∀ d ∈ cs, H2 d.1 = none) → Q v (addC cs H2)) w2 hM1 (fun u H2 w3 q3 hn => q3 _ (bk H2 w3 hn))
    refine ⟨hl, cs, [v], ?_, p2, hcs, fun A outer s f c hr => ?_⟩
    rotate_left
    · exact b2 A outer s f c hr
    have one : ∃ c0, cs = [c0] ∧ c0.1 = ca := by
      clear p2 hcs back bk b2 w2 nd
      cases cs with
      | nil => cases e1
      | cons c0 r =>
        cases r with
        | nil => exact ⟨c0, rfl, (List.cons.inj e1).1⟩
        | cons d r => cases (List.cons.inj e1).2
    obtain ⟨c0, e3, e2⟩ := one
    rw [e3]
    exact .cons (by rw [hcl, e2, List.lookup_cons, beq_self_eq_true]) .nil
end
end Fs

namespace Fs
open PySem PySem.Spec PyProof.Rows L2
/-! ### + of tuples of any length; dicts with tuple keys as facts; loops over reversed lists -/
def rAddA (K : PySem.W.Frag) : R2 := fun x y H Q => rAddU K x y H Q ∨ rCatA K x y H Q
theorem k_addA {X : Cx} {K : PySem.W.Frag} (h : X.K = K) : OpR X (binaryOp .Add) (rAddA K) := h ▸ opOr uo_add op_catA
section
variable {K : PySem.W.Frag} {σ : L2.St} {H : Hp} {F : List (V × D)} {M M' : List ME} {Q : VK} {G : Ends} {v u x y : V} {ds es : List D} {g : TG} {tb : TS} {te : TE} {tt : TT} {a p : Addr} {kvs : List (List Key × D)} {k : List Key} {d : D}
theorem s_addA {i j : Int} (q : Q (.int (i + j)) H) : rAddA K (.int i) (.int j) H Q := .inl (s_add q)
theorem n_catP (w : Wf F H M) (hx : Rk F M x (.tup ds)) (hy : Rk F M y (.tup es)) (hz : ds.length + es.length ≤ 100000) (q : ∀ u H', Wf ((u, .tup (ds ++ es)) :: F) H' M → Q u H') : rAddA K x y H Q := by
  have w0 := w
  obtain ⟨I, Mc, w, ac, hF⟩ := w.ex
  obtain ⟨p1, vs, rfl, h1, b1⟩ := hx.tup w ac hF
  obtain ⟨p2, us, rfl, h2, b2⟩ := hy.tup w ac hF
  refine .inr ⟨p1, p2, vs, us, rfl, rfl, .inl (.inl h1), .inl (.inl h2), by rw [b1.length, b2.length]; exact Nat.le_trans hz (by decide), fun e => ?_, fun _ e => ?_, fun _ _ p hp => ?_⟩
  · subst e
    cases b1
    refine q _ _ ⟨I, Mc, w, ac, fun f hf => ?_⟩
    rcases List.mem_cons.mp hf with rfl | hf
    · cases hy with
      | mem h => exact hF _ h
    · exact hF f hf
  · subst e
    cases b2
    refine q _ _ ⟨I, Mc, w, ac, fun f hf => ?_⟩
    rcases List.mem_cons.mp hf with rfl | hf
    · rw [List.append_nil]
      cases hx with
      | mem h => exact hF _ h
    · exact hF f hf
  · refine q _ _ ⟨_, Mc, w.newI hp, ac.mono (w.same hp), fun f hf => ?_⟩
    rcases List.mem_cons.mp hf with rfl | hf
    · exact .tup upd_same ((b1.app b2).mono (w.same hp))
    · exact (hF f hf).mono (w.same hp)
/-- d[k] of a dict that stays as it is -/
theorem n_dgetD (w : Wf F H M) (h : Kn F x (.fact (DtF kvs))) (hy : Rk F M y (.tup (k.map keyD))) (hd : getP kvs k = some d) (q : ∀ u, Wf ((u, d) :: F) H M → Q u H) : DGetQ Q x y H := by
  obtain ⟨b, rfl, hb⟩ := w.keyT hy
  obtain ⟨I, Mc, p, vs, rfl, w, a, hF, hp, ha⟩ := w.dtF h
  rcases ha.get (k := k) with ⟨h1, h2⟩ | ⟨v, d', h1, h2, h3⟩
  · rw [h1] at hd; cases hd
  · rw [h2] at hd
    cases hd
    exact ⟨p, v, rfl, h1 ▸ DGet.t hp hb, q v (.cons w a hF h3)⟩
theorem n_dinD {P : Bool → Prop} (w : Wf F H M) (h : Kn F x (.fact (DtF kvs))) (hy : Rk F M y (.tup (k.map keyD))) (q : P (getP kvs k).isSome) : DInQ P x y H := by
  obtain ⟨b, rfl, hb⟩ := w.keyT hy
  obtain ⟨I, Mc, p, vs, rfl, w, a, hF, hp, ha⟩ := w.dtF h
  refine ⟨p, _, rfl, DGet.t hp hb, ?_⟩
  rcases ha.get (k := k) with ⟨h1, h2⟩ | ⟨v, d', h1, h2, h3⟩
  · rw [h2]; rw [h1] at q; exact q
  · rw [h1]; rw [h2] at q; exact q
theorem src_rev : Src (Itv K a ds.length) ds.length (fun i => ds.getD (ds.length - 1 - i) .non) (fun F M => Rk F M (.ref a) (.lst ds)) where
  go := fun i H F M hi ok w => by
    obtain ⟨I, Mc, p, vs, e, w, ac, hF, hp, b⟩ := w.lstE ok
    cases e
    have hl : ds.length - 1 - i < vs.length := by rw [b.length]; omega
    exact ⟨hi, vs, vs[ds.length - 1 - i], .inl (.inl hp), List.getElem?_eq_getElem hl⟩
  stop := fun H F M ok w => Nat.le_refl _
  yld := fun i H F M x H' hi ok w y => by
    obtain ⟨I, Mc, p, vs, e, w, ac, hF, hp, b⟩ := w.lstE ok
    cases e
    obtain ⟨rfl, y⟩ := y
    obtain ⟨d, e1, e2⟩ := b.of (y vs (.inl (.inl hp)))
    rw [getD_of e1]
    exact .cons w ac hF e2
/-- for x in reversed(v) -/
theorem n_forV (w : Wf F H M) (R : Nat → L2.St → List (V × D) → List ME → Prop) (hv : ∀ i σ F M, R i σ F M → Rk F M v (.lst ds)) (h0 : R 0 σ F M)
    (step : ∀ i d x σ H F M, i < ds.length → ds[ds.length - 1 - i]? = some d → R i σ F M → Wf ((x, d) :: F) H M → g x σ H fun σ2 H2 => tb { G with nx := LI (R (i + 1)), ct := LI (R (i + 1)), bk := G.nx } σ2 H2)
    (fin : ∀ σ H F M, R ds.length σ F M → Wf F H M → G.nx σ H) :
    ∃ (a : Addr) (xs : List V), [v] = [.ref a] ∧ SqL K H a xs ∧ ∃ W : Nat → Nat → L2.St → Hp → Prop, (∃ m, W 0 m σ H) ∧ ∀ i m σ H, W i m σ H →
      ((Itv K a xs.length).stop i H ∧ G.nx σ H) ∨ ((Itv K a xs.length).go i H ∧ ∃ N : L2.St → Hp → Prop, (∀ σ' H', N σ' H' → ∃ m', m' < m ∧ W (i + 1) m' σ' H') ∧ ∀ x H', (Itv K a xs.length).yld i H x H' → g x σ H' fun σ2 H2 => tb { G with nx := N, ct := N, bk := G.nx } σ2 H2) := by
  obtain ⟨I, Mc, p, vs, rfl, w1, ac, hF, hp, b⟩ := w.lstE (hv _ _ _ _ h0)
  refine ⟨p, vs, rfl, .inl (.inl hp), ?_⟩
  rw [b.length]
  refine n_forJ src_rev w R hv h0 (fun i x σ H F M hi hR w => ?_) fin
  have hl : ds.length - 1 - i < ds.length := by omega
  have e1 : ds[ds.length - 1 - i]? = some ds[ds.length - 1 - i] := List.getElem?_eq_getElem hl
  rw [getD_of e1] at w
  exact step i _ x σ H F M hi e1 hR w
theorem src_tup : Src (Itt K a) ds.length (fun i => ds.getD i .non) (fun F M => Rk F M (.ref a) (.tup ds)) where
  go := fun i H F M hi ok w => by
    obtain ⟨I, Mc, w, ac, hF⟩ := w.ex
    obtain ⟨p, vs, e, hp, b⟩ := ok.tup w ac hF
    cases e
    have hl : i < vs.length := by rw [b.length]; exact hi
    exact ⟨vs, vs[i], .inl (.inl hp), List.getElem?_eq_getElem hl⟩
  stop := fun H F M ok w => by
    obtain ⟨I, Mc, w, ac, hF⟩ := w.ex
    obtain ⟨p, vs, e, hp, b⟩ := ok.tup w ac hF
    cases e
    exact ⟨vs, .inl (.inl hp), by rw [b.length]; exact Nat.le_refl _⟩
  yld := fun i H F M x H' hi ok w y => by
    obtain ⟨I, Mc, w, ac, hF⟩ := w.ex
    obtain ⟨p, vs, e, hp, b⟩ := ok.tup w ac hF
    cases e
    obtain ⟨rfl, y⟩ := y
    obtain ⟨d, e1, e2⟩ := b.of (y vs (.inl (.inl hp)))
    rw [getD_of e1]
    exact .cons w ac hF e2
/-- [.. for x in v], v a tuple -/
theorem n_lcKT {xs : List Nat} (w : Wf F H M) (R : Nat → List D → List (V × D) → List ME → Prop) (hv : ∀ i acc F M, R i acc F M → Rk F M v (.tup ds)) (h0 : R 0 [] F M) (hn : ds.length ≤ 100000)
    (step : ∀ i d x D acc H0 F M (Ap : VK) (Sk : Hp → Prop), ds[i]? = some d → R i acc F M → Wf ((x, d) :: F) H0 (.ml D acc :: M) → (∀ y d H4 F' M', Wf ((y, d) :: F') H4 (.ml D acc :: M') → R (i + 1) (acc ++ [d]) F' M' → Ap y H4) → (∀ H3 F' M', Wf F' H3 (.ml D acc :: M') → R (i + 1) acc F' M' → Sk H3) →
      g x (wipe σ xs) H0 fun σ2 H2 => wipe σ2 xs = wipe σ xs ∧ tt σ2 H2 fun b H3 => if b = true then te σ2 H3 Ap else Sk H3)
    (q : ∀ p es H' F' M', R ds.length es F' M' → Wf F' H' (.ml p es :: M') → Q (.ref p) H') : ∃ a, v = .ref a ∧ (∃ xs, SqT K H a xs) ∧ LcGo (Itt K a) g tt te xs σ Q H := by
  obtain ⟨I, Mc, w1, ac, hF⟩ := w.ex
  obtain ⟨p, vs, rfl, hp, b⟩ := (hv _ _ _ _ h0).tup w1 ac hF
  refine ⟨p, rfl, ⟨vs, .inl (.inl hp)⟩, n_lcK src_tup w R (fun i D acc F M h => (hv _ _ _ _ h).more) h0 hn (fun i x D acc H0 F M Ap Sk hi hR w k1 k2 => ?_) q⟩
  have e1 : ds[i]? = some ds[i] := List.getElem?_eq_getElem hi
  rw [getD_of e1] at w
  exact step i _ x D acc H0 F M Ap Sk e1 hR w k1 k2
end
/-- dicts with unlike keys -/
theorem getP_mem {κ : Type} [DecidableEq κ] {kvs : List (κ × D)} {k : κ} {d : D} (nd : (kvs.map (·.1)).Nodup) (h : (k, d) ∈ kvs) : getP kvs k = some d := by
  unfold getP
  induction kvs with
  | nil => cases h
  | cons q kvs ih =>
    rw [List.map_cons, List.nodup_cons] at nd
    rw [List.find?_cons]
    rcases List.mem_cons.mp h with rfl | h
    · rw [decide_eq_true rfl]; rfl
    · have e : decide (q.1 = k) = false := decide_eq_false fun e => nd.1 (by rw [e]; exact List.mem_map_of_mem (f := (·.1)) h)
      rw [e]
      exact ih nd.2 h
theorem putP_new {κ : Type} [DecidableEq κ] {kvs : List (κ × D)} {k : κ} {d : D} (h : k ∉ kvs.map (·.1)) : putP kvs k d = kvs ++ [(k, d)] := by
  unfold putP
  rw [if_neg]
  intro z
  obtain ⟨q, h1, h2⟩ := List.any_eq_true.mp z
  exact h (by rw [← of_decide_eq_true h2]; exact List.mem_map_of_mem (f := (·.1)) h1)
end Fs

namespace Fs
open PySem PySem.Spec PyProof.Rows L2
/-! ### functions whose captured values are known for good -/
section
variable {F : List (V × D)} {σ : L2.St} {H : Hp} {M : List ME} {Q : VK} {Pt : Addr} {pos : Pos} {L : LW} {φ : V → Hp → Prop}
theorem n_lamI (w : Wf F H M) (hm : .tb Pt L.qual ∈ M) (hφ : ∀ f c I, (∀ g ∈ F, Is I g.1 g.2) → I f = some (LamO f L c) → I c = some (LamX.CodeO c L.qual) → φ (.ref f) I) (q : ∀ f H', Wf ((.ref f, .fact φ) :: F) H' M → Q (.ref f) H') : tLamV Pt pos L σ H Q := by
  obtain ⟨I, Mc, w, a, hF⟩ := w.ex
  obtain ⟨M1, m, M2, rfl, c1, c2⟩ := a.foc (Foc.self hm)
  cases c1 with
  | @tb _ _ ps tok tell =>
    have hP : H Pt = some (.tbl ps) := w.at
    refine ⟨ps, hP, ⟨tok, fun p cv e => let ⟨k, h1, h2⟩ := tell p cv e; ⟨k, h1, w.imm _ _ h2⟩⟩, fun f k nk nf ne => q f _ ?_, fun f k hk nf => q f _ ?_⟩
    · have kP : k ≠ Pt := fun e => by rw [e, hP] at nk; cases nk
      have fP : f ≠ Pt := fun e => by rw [e, hP] at nf; cases nf
      have w1 : W I (upd H Pt (.tbl (ps ++ #[rawInt pos.line, rawInt pos.col, .ref k]))) _ := w.put
      have n1 : upd H Pt (.tbl (ps ++ #[rawInt pos.line, rawInt pos.col, .ref k])) k = none := by rw [upd_ne kP]; exact nk
      have w2 := w1.newI (o := LamX.CodeO k L.qual) n1
      have n2 : upd (upd H Pt (.tbl (ps ++ #[rawInt pos.line, rawInt pos.col, .ref k]))) k (LamX.CodeO k L.qual) f = none := by rw [upd_ne ne, upd_ne fP]; exact nf
      have w3 := w2.newI (o := LamO f L k) n2
      have s1 : Same I (upd I k (LamX.CodeO k L.qual)) := w1.same n1
      have s2 : Same (upd I k (LamX.CodeO k L.qual)) (upd (upd I k (LamX.CodeO k L.qual)) f (LamO f L k)) := w2.same n2
      refine ⟨_, _, w3, c2 _ _ (s1.trans s2) (.tb ?_ fun p cv e => ?_), fun g hg => ?_⟩
      · rw [show (ps ++ #[rawInt pos.line, rawInt pos.col, .ref k]).toList = ps.toList ++ [rawInt pos.line, rawInt pos.col, .ref k] by simp]
        exact PySem.TriplesOk_snoc _ _ _ _ tok
      · rw [show (ps ++ #[rawInt pos.line, rawInt pos.col, .ref k]).toList = ps.toList ++ [rawInt pos.line, rawInt pos.col, .ref k] by simp] at e
        rcases LamX.among_app _ tok e with z | z
        · obtain ⟨j, h1, h2⟩ := tell p cv z
          exact ⟨j, h1, s2 _ _ (s1 _ _ h2)⟩
        · exact ⟨k, z, s2 _ _ upd_same⟩
      · rcases List.mem_cons.mp hg with rfl | hg
        · exact .fact (Same.refl _) (hφ f k _ (fun g hg => (hF g hg).mono (s1.trans s2)) upd_same (by rw [upd_ne ne.symm]; exact upd_same))
        · exact (hF g hg).mono (s1.trans s2)
    · have w3 := w.newI (o := LamO f L k) nf
      have s2 : Same I (upd I f (LamO f L k)) := w.same nf
      obtain ⟨j, e1, ho⟩ := tell pos _ hk
      cases e1
      refine ⟨_, _, w3, c2 _ _ s2 (.tb tok fun p cv e => let ⟨j, h1, h2⟩ := tell p cv e; ⟨j, h1, s2 _ _ h2⟩), fun g hg => ?_⟩
      rcases List.mem_cons.mp hg with rfl | hg
      · exact .fact (Same.refl _) (hφ f k _ (fun g hg => (hF g hg).mono s2) upd_same (s2 _ _ ho))
      · exact (hF g hg).mono s2
end
section
variable {P : Program} {w : World} {K : PySem.W.Frag} {mg : Str → Option Value} {base : Heap} {N ps fr : List Str} {f c : Addr} {k : Nat} {sp : Sp} {L : LW} {I : Hp}
theorem fnV_lamI (S : NdefX.NScope N ps fr L.scope) (hb : ∀ (pm cv ctv : Value) (us : List Value), us.length = ps.length → bindArgs (PySem.W.kla_fn "<lambda>" L.qual L.params L.body L.scope L.cl pm cv ctv) ⟨us, []⟩ = pure (ps.zip us))
    (hinj : ∀ x y c, L.cl.lookup x = some c → L.cl.lookup y = some c → x = y) (hfr : ∀ y c, L.cl.lookup y = some c → y ∈ fr)
    (hsp : ∀ vs H Q, Same I H → sp vs H Q E0 → vs.length = ps.length ∧ ∃ (cs : List (Addr × Obj)) (ws : List V), Paired (fun y (c : Addr × Obj) => L.cl.lookup y = some c.1) fr cs ∧ Paired (fun (c : Addr × Obj) w => CelO c.2 w) cs ws ∧ (∀ c ∈ cs, H c.1 = some (.frz c.2 topO)) ∧
      ∀ (A : Around) (outer : List Env) (s : Shared) (f c : Addr), Room k (A.deeper (NdefX.envF (L.nf c) f s.heap.objs.size)) → ∃ t, PE (NdefX.ncx CX0 P w K mg base N (L.nf c) f A outer s (cutC cs H) E0) L.body t ∧ t (NdefX.startF N vs (ws.map some)) (cutC cs H) (fun v H2 => (∀ d ∈ cs, H2 d.1 = none) → Q v (addC cs H2)))
    (hf : I f = some (LamO f L c)) (hc : I c = some (LamX.CodeO c L.qual)) : FnV P w K mg base (k + 1) sp (.ref f) I := by
  refine ⟨f, rfl, fun H h x sm => ?_, fun A outer s H us vs Q hr e0 rv sm q => ?_⟩
  · obtain ⟨pm, ctv, e⟩ := lamO_at x (sm _ _ hf)
    exact ⟨_, _, _, _, e⟩
  obtain ⟨hl, cs, ws, p1, p2, hcs, body⟩ := hsp vs H Q sm q
  obtain ⟨pm, ctv, ho⟩ := lamO_at e0.hok (sm _ _ hf)
  obtain ⟨⟨oc, cvs, t, hoc, hdc, hvc⟩, _, _⟩ := e0.hok c _ (sm _ _ hc)
  have ndf : fr.Nodup := by
    have z := S.nd.sublist (List.take_sublist (ps.length + fr.length) N)
    rw [S.pre] at z
    exact (List.nodup_append.mp z).2.1
  have nd := paired_nodup hinj p1 ndf
  have e1 := env0_cut e0 hcs
  have C : NdefX.CellsAt L.cl fr (ws.map some) s.heap (cutC cs H) := by
    have one : ∀ (i : Nat) (y : Str), fr[i]? = some y → ∃ d ∈ cs, L.cl.lookup y = some d.1 ∧ ∃ v u, ws[i]? = some v ∧ RelV v u ∧ s.heap.IsCell d.1 (some u) := fun i y hy => by
      obtain ⟨d, q1, q2⟩ := paired_at p1 hy
      obtain ⟨v, q3, u, q4, q5⟩ := paired_at p2 q1
      exact ⟨d, List.mem_of_getElem? q1, q2, v, u, q3, q5, d.2, (e0.hok _ _ (hcs d (List.mem_of_getElem? q1))).1, q4⟩
    refine ⟨?_, fun y a ha => ?_, hinj, fun i y hy => ?_⟩
    · rw [List.length_map, ← p2.length, ← p1.length]
    · obtain ⟨i, hi⟩ := List.mem_iff_getElem?.mp (hfr y a ha)
      obtain ⟨d, q1, q2, v, u, _, _, q3⟩ := one i y hi
      rw [ha] at q2
      cases q2
      exact ⟨cutC_in (List.mem_map_of_mem q1), _, q3⟩
    · obtain ⟨d, q1, q2, v, u, q3, q4, q5⟩ := one i y hy
      refine ⟨d.1, q2, fun v2 h2 => ⟨u, ?_, q5⟩⟩
      rw [List.getElem?_map, q3] at h2
      cases h2
      exact q4
  have fin : codeAny (model P w) A (.call (.ref f) ⟨us, []⟩) (CR CX0 outer P w (cutC cs H) s (fun v H2 => (∀ d ∈ cs, H2 d.1 = none) → Q v (addC cs H2)) E0) s := by
    have lim : s.heap.NoLimit := e0.mod.nolimit.keeps fun b o e => (e0.bs b o e).1
    refine PySem.W.kla_callFunE hr.depth ho rfl S.co S.gen rfl ⟨c, oc, cvs, t, rfl, hoc, hdc, hvc⟩ ?_
    rw [hb _ _ _ us (by rw [← rv.length]; exact hl)]
    refine wpAny_pure (wpAny_newFunctionEnv S.nocell (fun ⟨n, _⟩ hy => S.par n (List.of_mem_zip hy).1) (fun h1 hns hsb => ⟨lim.fresh _ hsb, ?_⟩) S.kind)
    have keep : ∀ b o, s.heap.get? b = some o → h1.get? b = some o := fun b o e => hsb.extBut b o (Nat.ne_of_lt (Heap.lt_size e)) (Heap.get?_push_of_some _ e)
    obtain ⟨t2, ht, hq⟩ := body A outer s f c (hr.deeper _)
    have J : Inv (NdefX.ncx CX0 P w K mg base N (L.nf c) f A outer s (cutC cs H) E0) [] (NdefX.startF N vs (ws.map some)) (cutC cs H) { s with heap := h1, toks := s.toks + (ps.zip us).length } :=
      NdefX.inv_startN S hr.hd e1 hl rv C hns keep
    refine PySem.W.kla_codeExpr (wpAny_mono (ht.run [] _ _ _ _ J hq) (fun u s' hz => ?_) fun e s' hz => hz)
    obtain ⟨v, H2, J2, r2, q2⟩ := hz
    exact ⟨v, H2, J2.os, J2.bare, J2.base, J2.hok, r2, q2⟩
  refine codeAny_mono fin fun r s' z => ?_
  match r, z with
  | .ok (.ret u), z => exact ce_add nd e0 hcs z
  | .ok .next, z => exact False.elim z
  | .ok .brk, z => exact False.elim z
  | .ok .cont, z => exact False.elim z
  | .error er, z => exact False.elim z
theorem fnV_lam1I {y : Str} {ca : Addr} (hcl : L.cl = [(y, ca)]) (S : NdefX.NScope N ps [y] L.scope) (hb : ∀ (pm cv ctv : Value) (us : List Value), us.length = ps.length → bindArgs (PySem.W.kla_fn "<lambda>" L.qual L.params L.body L.scope L.cl pm cv ctv) ⟨us, []⟩ = pure (ps.zip us))
    (hsp : ∀ vs H Q, Same I H → sp vs H Q E0 → vs.length = ps.length ∧ ∃ (F : List (V × D)) (M : List ME) (v : V), Wf F H M ∧ .cel ca v ∈ M ∧ ∀ (H1 : Hp) (M1 : List ME) (Q1 : VK), Wf F H1 M1 → (∀ e ∈ M, (∀ c u, e ≠ .cel c u) → e ∈ M1) → (∀ u H2, Wf F H2 M1 → (∀ H3, Wf F H3 M → Q u H3) → Q1 u H2) →
      ∀ (A : Around) (outer : List Env) (s : Shared) (f c : Addr), Room k (A.deeper (NdefX.envF (L.nf c) f s.heap.objs.size)) → ∃ t, PE (NdefX.ncx CX0 P w K mg base N (L.nf c) f A outer s H1 E0) L.body t ∧ t (NdefX.startF N vs [some v]) H1 Q1)
    (hf : I f = some (LamO f L c)) (hc : I c = some (LamX.CodeO c L.qual)) : FnV P w K mg base (k + 1) sp (.ref f) I := by
  refine fnV_lamI (fr := [y]) S hb (fun x z c h1 h2 => ?_) (fun x c h => ?_) (fun vs H Q sm q => ?_) hf hc
  · rw [hcl] at h1 h2
    exact (lk1 h1).trans (lk1 h2).symm
  · rw [hcl] at h
    exact List.mem_singleton.mpr (lk1 h)
  · obtain ⟨hl, F, M, v, w', hm, body⟩ := hsp vs H Q sm q
    obtain ⟨M1, pm, hM1⟩ := cels_ahead (G := []) (as := [ca]) (ws := [v]) (M := M) (by simp) (fun e he => by rw [List.mem_singleton.mp he]; exact hm)
    obtain ⟨cs, e1, p2, hcs, nd, w2, back⟩ := n_cels (M := []) (as := [ca]) (ws := [v]) (G := M1) (w'.perm pm) rfl
    have w2 : Wf F (cutC cs H) M1 := w2
    have bk : ∀ H2, Wf F H2 M1 → (∀ d ∈ cs, H2 d.1 = none) → Wf F (addC cs H2) M := fun H2 w3 hn => Wf.perm (back F H2 [] M1 w3 hn) pm.symm
    have b2 := body (cutC cs H) M1 (fun v H2 => (∀ d ∈ cs, H2 d.1 = none) → Q v (addC cs H2)) w2 hM1 (fun u H2 w3 q3 hn => q3 _ (bk H2 w3 hn))
    refine ⟨hl, cs, [v], ?_, p2, hcs, fun A outer s f c hr => ?_⟩
    rotate_left
    · exact b2 A outer s f c hr
    have one : ∃ c0, cs = [c0] ∧ c0.1 = ca := by
      clear p2 hcs back bk b2 w2 nd
      cases cs with
      | nil => cases e1
      | cons c0 r =>
        cases r with
        | nil => exact ⟨c0, rfl, (List.cons.inj e1).1⟩
        | cons d r => cases (List.cons.inj e1).2
    obtain ⟨c0, e3, e2⟩ := one
    rw [e3]
    exact .cons (by rw [hcl, e2, List.lookup_cons, beq_self_eq_true]) .nil
end
/-- nothing that may be changed is a tuple -/
theorem CnA.noTup {I : Hp} : ∀ {M : List ME} {Mc : List (Addr × HO)}, CnA I M Mc → ∀ m ∈ Mc, ∀ vs, m.2 ≠ .tup vs
  | _, _, .nil, _, h, _ => nomatch h
  | _, _, .cons h a, m, hm, vs => by
    rcases List.mem_cons.mp hm with rfl | hm
    · cases h with
      | raw hn => exact hn vs
      | ml _ => exact fun e => nomatch e
      | mi _ => exact fun e => nomatch e
      | bag b =>
        obtain ⟨_, x, y, z, b⟩ := b
        rw [b.ob]
        exact fun e => nomatch e
      | dk _ => exact fun e => nomatch e
      | dt _ => exact fun e => nomatch e
      | cel _ => exact fun e => nomatch e
      | tb _ _ => exact fun e => nomatch e
    · exact CnA.noTup a m hm vs
/-- a tuple of numbers that was known is known -/
theorem Wf.ofTup {F : List (V × D)} {I H : Hp} {M : List ME} {v : V} {ns : List Int} (w : Wf F H M) (s : Same I H) (h : Is I v (.tup (ns.map D.int))) : Wf ((v, .tup (ns.map D.int)) :: F) H M := by
  obtain ⟨J, Mc, w, a, hF⟩ := w.ex
  obtain ⟨p, vs, rfl, hp, b⟩ := h.tup_ex
  have hH := s _ _ hp
  have sj : Same J (upd J p (.tup vs)) := fun b x e => by
    by_cases hb : b = p
    · subst hb
      rw [upd_same]
      have := w.imm _ _ e
      rw [hH] at this
      exact this
    · rw [upd_ne hb]; exact e
  refine ⟨upd J p (.tup vs), Mc, ⟨fun b x e => ?_, fun m hm => ?_, w.nd⟩, a.mono sj, fun f hf => ?_⟩
  · by_cases hb : b = p
    · subst hb
      rw [upd_same] at e
      rw [hH]
      exact e
    · rw [upd_ne hb] at e
      exact w.imm _ _ e
  · obtain ⟨h1, h2⟩ := w.mu m hm
    refine ⟨h1, ?_⟩
    rw [upd_ne]
    · exact h2
    · intro e
      rw [e, hH] at h1
      exact a.noTup m hm vs (Option.some.inj h1).symm
  · rcases List.mem_cons.mp hf with rfl | hf
    · refine .tup upd_same ?_
      have : ∀ {vs : List V} {ns : List Int}, IsA I vs (ns.map D.int) → IsA (upd J p (.tup vs)) vs (ns.map D.int) := fun {vs ns} => by
        intro h
        have e : ∀ {ns : List Int} {us : List V}, IsA I us (ns.map D.int) → ∀ J' : Hp, IsA J' us (ns.map D.int) := fun {ns} => by
          induction ns with
          | nil => intro us h J'; cases h; exact .nil
          | cons n ns ih =>
            intro us h J'
            rw [List.map_cons] at h ⊢
            cases h with
            | cons h1 h2 => exact .cons (by rw [h1.int_eq]; exact .int _) (ih h2 J')
        exact e h _
      exact this b
    · exact (hF f hf).mono sj
end Fs

namespace Fs
open PySem PySem.Spec PyProof.Rows L2
/-! ### a list comprehension whose items make functions: its block's cells are the def's own -/
/-- the block's environment, its cells those that the def around gives it -/
abbrev ownEnv (X : Cx) (scope : Scope) (C : Addr) : Env := compEnvC scope (cellsFrom (C + 1) scope.names (cloFrom X.env.cells scope.names [])) C X.env
section
variable {X : Cx} {elt tg iter : Expr} {ifs : List Expr} {scope : Scope} {pos : Pos} {g : TG} {tt : TT} {te : TE}
/-- the turns, in one context -/
theorem lc_turns {B : Cx} {b0 : Shared} {Hb : Hp} {ce : Env} {fp : List Addr} {it D : Addr} {tn : Nat → Heap → Prop} {J : It} {σb σ : L2.St} {vs : List Nat} {W : Nat → Nat → Hp → Prop} {Z : Hp → Prop} {R : Result → Shared → Prop} {s4 : Shared} {m0 : Nat} {H4 : Hp}
    (eB : B = X.blk b0 Hb scope ce fp) (eσ : σb = wipe σ vs) (hc : X.calm = true) (T : Turn X.prog X.w X.K tg J fp it tn) (pg : PG B tg g) (pt : PTs B ifs tt) (pe : PE B elt te)
    (turn : ∀ i m H, W i m H → (J.stop i H ∧ Z H) ∨ (J.go i H ∧ ∃ Nx : Hp → Prop, (∀ H', Nx H' → ∃ m', m' < m ∧ W (i + 1) m' H') ∧ ∀ x H', J.yld i H x H' → g x σb H' fun σ2 H2 => wipe σ2 vs = σb ∧ tt σ2 H2 fun b H3 =>
      if b = true then te σ2 H3 fun y H5 => ∃ acc, H5 D = some (.lst acc) ∧ acc.length < sizeLine ∧ Nx (upd H5 D (.lst (acc ++ [y]))) else Nx H3))
    (out : ∀ s' H', Inv B [] σb H' s' → Z H' → R (.ok .next) s') (I4 : Inv B [] σb H4 s4) (st4 : tn 0 s4.heap) (free4 : ∀ b ∈ fp, H4 b = none) (w4 : W 0 m0 H4) :
    codeAny (model X.prog X.w) X.A (.compLoop (.ListComp elt [⟨tg, iter, ifs, 0⟩] scope pos) 0 (.ref it) (.ref D) ce) R s4 := by
  subst eB
  have fpok : ∀ {τ : L2.St} {G : Hp} {t : Shared}, Inv (X.blk b0 Hb scope ce fp) [] τ G t → (∀ b ∈ fp, G b = none) → ∀ b ∈ fp, FpOk (X.blk b0 Hb scope ce fp) [] G b := by
    intro τ G t J0 hn b hb
    obtain ⟨e1, e2⟩ := J0.ok.exf b hb
    exact ⟨hn b hb, e1, J0.ok.exfs b hb, Or.inl hb, e2, fun p hp => by simp at hp⟩
  apply compLoop_any (I := fun n t => ∃ i G, Inv (X.blk b0 Hb scope ce fp) [] σb G t ∧ tn i t.heap ∧ (∀ b ∈ fp, G b = none) ∧ W i n G) (n := m0) (h := ⟨0, H4, I4, st4, free4, w4⟩)
  intro n t ⟨i, G, JG, tnG, frG, wG⟩
  cases turn i n G wG with
  | inl z =>
    refine thnF (T.done (X.blk b0 Hb scope ce fp) rfl rfl rfl hc i [] t _ G (fun _ _ => False) JG (fpok JG frG) tnG z.1) ?_
    intro r t1 ⟨er, J1⟩
    rw [er]
    exact out t1 G J1 z.2
  | inr z =>
    obtain ⟨hgo, Nx, shrink, body⟩ := z
    refine thnF (T.item (X.blk b0 Hb scope ce fp) rfl rfl rfl hc i [] t _ G (fun _ _ => False) JG (fpok JG frG) tnG hgo) ?_
    intro r t1 ⟨u, er, h1⟩
    rw [er]
    refine thnF h1 ?_
    intro _ t2 ⟨x, G2, J2, rx, yx, tn2, fr2⟩
    refine thnF (pg.run _ t2 _ G2 x u _ (J2.pinned (fpok J2 fr2) (T.obj _ _ tn2)) rx (body x G2 yx)) ?_
    intro _ t3 ⟨σ3, G3, J3, e3, q3⟩
    have close : ∀ (t5 : Shared) (G5 : Hp), Inv (X.blk b0 Hb scope ce fp) ([] ++ pinsAt fp t2.heap) σ3 G5 t5 → Nx G5 → ∃ m, m < n ∧ ∃ i G', Inv (X.blk b0 Hb scope ce fp) [] σb G' t5 ∧ tn i t5.heap ∧ (∀ b ∈ fp, G' b = none) ∧ W i m G' := by
      intro t5 G5 J5 nx
      have held : ∀ b ∈ fp, ∀ o, t2.heap.get? b = some o → t5.heap.get? b = some o ∧ G5 b = none := by
        intro b hb o eo
        have p5 := J5.pin (b, o) (by simp [mem_pinsAt hb eo])
        exact ⟨p5.1, p5.2.1⟩
      obtain ⟨m', hm', w'⟩ := shrink G5 nx
      refine ⟨m', hm', i + 1, G5, (J5.unpinned (pins := [])).weak (by rw [← e3, wipe_length]) ?_, T.keep _ _ _ tn2 (fun b hb o eo => (held b hb o eo).1), ?_, w'⟩
      · intro j v ev
        rw [← e3] at ev
        exact (wipe_some ev).1
      · intro b hb
        obtain ⟨o, eo, _⟩ := T.obj _ _ tn2 b hb
        exact (held b hb o eo).2
    refine thnF (pt.run _ t3 σ3 G3 _ J3 q3) ?_
    intro b t4 ⟨G4, J4, q4⟩
    cases b
    · exact close t4 G4 J4 q4
    · refine thnF (pe.run _ t4 σ3 G4 _ J4 q4) ?_
      intro y t5 ⟨yv, G5, J5, ry, acc, eD, hz, nx⟩
      exact app_ok (X := X.blk b0 Hb scope ce fp) J5 eD hz ry fun t6 J6 => close t6 _ J6 nx
theorem lc_own {pins : List (Addr × Obj)} {s : Shared} {σ : L2.St} {H : Hp} {Q : VK} {own : List (Str × Nat)} {pos' : Pos} {wi : TI} {use : Option (Value → Sem Unit)} {Qf : Value → Shared → Prop} (hc : X.calm = true) (hN : X.N.Nodup) (J : L2.Inv X pins σ H s) (hi : PI X tg iter wi) (ok : BlkOk X.N X.env.scope scope own)
    (hg : ∀ (b0 : Shared) (Hb : Hp) (C : Addr) (fp : List Addr), PG (X.blk b0 Hb scope (ownEnv X scope C) fp) tg g) (ht : ∀ (b0 : Shared) (Hb : Hp) (C : Addr) (fp : List Addr), PTs (X.blk b0 Hb scope (ownEnv X scope C) fp) ifs tt)
    (he : ∀ (b0 : Shared) (Hb : Hp) (C : Addr) (fp : List Addr), PE (X.blk b0 Hb scope (ownEnv X scope C) fp) elt te) (hs : ∀ x, foldedSetIterable iter X.env x = pure x) (h : tLc wi g tt te (own.map (·.2)) σ H Q)
    (back : ∀ D C s' m G, L2.Inv X pins σ G s' → Q (.ref D) G → s'.heap.Ns C m → FpOk X pins G C → compPost (model X.prog X.w) X.A X.xe use Qf (.ref D) C (.ok .next) s') :
    wpAny (model X.prog X.w) X.A (comprehension (.ListComp elt [⟨tg, iter, ifs, 0⟩] scope pos) scope X.env pos' (newList []) false (eval iter X.env) use) Qf X.xe s := by
  have cap : ∀ y ∈ scope.names, y.2 = .free → ∃ c, X.env.cells.lookup y.1 = some c := by
    intro y hy e
    exact J.ok.has y.1 (ok.free y hy e)
  apply wpAny_comprehension_free (use := use) rfl hs (closure_ok cap) ok.kind (fun y hy e => (ok.uniq y hy).trans (congrArg some e))
  refine thn (hi.run pins s σ H _ J h) fun xv s1 h1 => thn h1 ?_
  intro itv s2 ⟨it, fp, tn, Jt, H2, eit, J2, T, tn2, fp2, q2⟩
  rw [eit]
  refine wpAny_newObj_type (newEnv_comp ?_) (by show 0 ≤ sizeLine; decide)
  obtain ⟨D, eD⟩ : ∃ D, D = s2.heap.objs.size := ⟨_, rfl⟩
  rw [← eD]
  have freeD : H2 D = none := J2.hok.fresh (Nat.le_of_eq eD.symm)
  obtain ⟨W, ⟨m0, w0⟩, turn⟩ := q2 D freeD
  obtain ⟨s3, e3⟩ : ∃ s3 : Shared, s3 = { s2 with heap := s2.heap.push { cls := .type "list", data := .seq ([] : List Value).toArray } } := ⟨_, rfl⟩
  rw [← e3]
  have hp3 : s3.heap = s2.heap.push { cls := .type "list", data := .seq ([] : List Value).toArray } := congrArg Shared.heap e3
  have up3 : ∀ b o, s2.heap.get? b = some o → s3.heap.get? b = some o := fun b o z => by rw [hp3]; exact Heap.get?_push_of_some _ z
  have J3 : L2.Inv X pins σ (upd H2 D (.lst [])) s3 := by
    rw [e3]
    refine J2.laid (t' := s2.toks) (fun _ _ z => Heap.get?_push_of_some _ z) (Nat.le_of_eq eD.symm) ⟨Nat.zero_le _, [], 0, .nil, ?_⟩
    rw [eD]
    exact Heap.get?_push_size _ rfl
  have low : ∀ b ∈ fp, b < s2.heap.objs.size := by
    intro b hb
    obtain ⟨o, z, _⟩ := T.obj _ _ tn2 b hb
    exact Heap.lt_size z
  have fp3 : ∀ b ∈ fp, FpOk X pins (upd H2 D (.lst [])) b ∧ b < s3.heap.objs.size := by
    intro b hb
    have lb := low b hb
    obtain ⟨z1, z2⟩ := fp2 b hb
    have nb : b ≠ D := fun z => Nat.lt_irrefl _ (by rw [z, eD] at lb; exact lb)
    exact ⟨⟨by rw [upd_ne nb]; exact z1, z2⟩, by rw [hp3, Heap.size_push]; exact Nat.lt_succ_of_lt lb⟩
  have J4 := block_start J3 ok hN fp3
  have tn4 : tn 0 (pushCells (s3.heap.push { cls := .type "dict", data := .dict #[] }) scope.names) := T.keep _ _ _ tn2 fun b _ o z => pushCells_keeps _ _ _ _ (Heap.get?_push_of_some _ (up3 b o z))
  have loop := lc_turns (R := compPost (model X.prog X.w) X.A X.xe use Qf (.ref D) s3.heap.objs.size) (elt := elt) (tg := tg) (iter := iter) (ifs := ifs) (pos := pos) (scope := scope) (D := D) (vs := own.map (·.2)) rfl rfl hc T (hg s3 (upd H2 D (.lst [])) s3.heap.objs.size fp) (ht s3 (upd H2 D (.lst [])) s3.heap.objs.size fp) (he s3 (upd H2 D (.lst [])) s3.heap.objs.size fp) turn ?_ J4 tn4 (fun b hb => (fp3 b hb).1.1) w0
  · exact codeAny_compStart_list loop (T.self X.A 0 _ _ _ tn4 loop)
  · intro s' G JG qG
    have JX : L2.Inv X pins σ G s' := J3.call' (ch := fp) JG.os JG.base JG.hok JG.bare fun b hb => ⟨(fp3 b hb).1.2.2.2.1, (fp3 b hb).1.2.1, (fp3 b hb).1.2.2.2.2.1, (fp3 b hb).1.2.2.2.2.2⟩
    obtain ⟨m, hn, _⟩ := JG.loc
    exact back D s3.heap.objs.size s' m G JX qG hn (J3.fpOk (Nat.le_refl _) JG.free)
/-- name = [..] on one line, the name a local -/
theorem ps_setLcO {i : Nat} {y : Str} {py spos : Pos} {own : List (Str × Nat)} {wi : TI} (hc : X.calm = true) (hN : X.N.Nodup) (hy : X.N[i]? = some y) (hyl : X.env.scope.names.lookup y = some .local)
    (hsw : swapsWith (.ListComp elt [⟨tg, iter, ifs, 0⟩] scope pos) (some (.Name y py)) spos.line X.env = pure true) (hi : PI X tg iter wi) (ok : BlkOk X.N X.env.scope scope own)
    (hg : ∀ (b0 : Shared) (Hb : Hp) (C : Addr) (fp : List Addr), PG (X.blk b0 Hb scope (ownEnv X scope C) fp) tg g) (ht : ∀ (b0 : Shared) (Hb : Hp) (C : Addr) (fp : List Addr), PTs (X.blk b0 Hb scope (ownEnv X scope C) fp) ifs tt)
    (he : ∀ (b0 : Shared) (Hb : Hp) (C : Addr) (fp : List Addr), PE (X.blk b0 Hb scope (ownEnv X scope C) fp) elt te) (hs : ∀ x, foldedSetIterable iter X.env x = pure x := by intro _; rfl) :
    PS X (.Assign [.Name y py] (.ListComp elt [⟨tg, iter, ifs, 0⟩] scope pos) spos) (tAsg (tLc wi g tt te (own.map (·.2))) (gName i)) := by
  constructor
  intro pins s σ H D J h
  rw [exec_Assign_Name_used _ _ _ _ hsw]
  refine wpAny_bind (wpAny_standAt (wpAny_bind ?_))
  refine wpAny_bind (thn (lc_own (Q := fun x G => gName i x σ G D.nx) (use := some (assign (.Name y py) X.env)) (Qf := fun _ s' => SP X pins D .next s') hc hN J hi ok hg ht he hs h ?_) fun _ s' q => wpAny_pure (wpAny_pure q))
  intro L C s' m G JG q hn fpC
  show wpAny _ _ (assign (.Name y py) X.env (.ref L)) _ _ _
  refine wpAny_assign_Name (store_ok2 (v := V.ref L) JG hN hy (.inl hyl) rfl ?_ (.inr hyl))
  intro s2 J2 ⟨a, same, ha⟩
  obtain ⟨c0, c1, c2, c3, c4, c5⟩ := fpC
  have ne : C ≠ a := by
    cases ha with
    | inl z => rw [z]; exact c1
    | inr z => exact fun e => c4 y a z e.symm
  exact ⟨m, hn.sameBut same ne, fun h3 same3 => ⟨_, G, J2.turned (t' := s2.toks) (fun b o hb z => (same3.2 b hb).trans z) c0 c1 c3 c4 c5, q⟩⟩
end
theorem own_cells : ∀ {names : List (Str × NameKind)} {n : Nat} {cl : List (Str × Addr)}, (names.all fun p => p.2 != .cell) = true → cellsFrom n names cl = cl
  | [], _, _, _ => rfl
  | (y, k) :: r, n, cl, h => by
    rw [List.all_cons, Bool.and_eq_true] at h
    unfold cellsFrom
    split
    · rename_i z
      have h1 := h.1
      simp only [bne_iff_ne, ne_eq] at h1
      exact absurd (by simpa using z) h1
    · exact own_cells h.2
section
variable {X : Cx} {c P : Addr} {params : Arguments} {body : Expr} {scope bscope : Scope} {pos : Pos}
/-- a lambda within the items of a comprehension -/
theorem pe_lamO {b0 : Shared} {Hb : Hp} {C : Addr} {fp : List Addr} (B : LamX.TabB X.base X.mg c P) (hcode : X.env.code = .ref c) (hdef : defaultsOf params (ownEnv X bscope C) = ([], [])) (hnc : (bscope.names.all fun p => p.2 != .cell) = true) (hfree : ∀ y ∈ scope.names, y.2 = .free → (ownEnv X bscope C).scope.names.lookup y.1 = some .cell ∨ (ownEnv X bscope C).scope.names.lookup y.1 = some .free) :
    PE (X.blk b0 Hb bscope (ownEnv X bscope C) fp) (.Lambda params body scope pos) (tLamV P pos ⟨params, body, scope, X.env.qual ++ "<lambda>", cloFrom (cloFrom X.env.cells bscope.names []) scope.names []⟩) := by
  have h := pe_lamV (X := X.blk b0 Hb bscope (ownEnv X bscope C) fp) (pos := pos) (body := body) B hcode hdef hfree
  have e : (ownEnv X bscope C).cells = cloFrom X.env.cells bscope.names [] := own_cells hnc
  rw [e] at h
  exact h
end
theorem celled2 {X : Cx} {i j : Nat} {x y : Str} (nij : i ≠ j) (nN : X.N.Nodup) (h1 : X.N[i]? = some x) (h2 : X.env.scope.names.lookup x = some .cell) (h3 : X.N[j]? = some y) (h4 : X.env.scope.names.lookup y = some .cell) (fn : ∀ y, X.fn y = true) : Celled X [i, j] :=
  ⟨by simp [nij], nN, fun k hk => by
    simp only [List.mem_cons, List.not_mem_nil, or_false] at hk
    rcases hk with rfl | rfl
    · exact ⟨x, h1, h2⟩
    · exact ⟨y, h3, h4⟩, fn⟩
section
variable {P : Program} {w : World} {K : PySem.W.Frag} {mg : Str → Option Value} {base : Heap} {N ps : List Str} {f c : Addr} {k : Nat} {sp : Sp} {L : LW} {I : Hp}
/-- a lambda with two captured names; what they hold may be changed by the call -/
theorem fnV_lam2 {y z : Str} {ca cb : Addr} (hcl : L.cl = [(y, ca), (z, cb)]) (nyz : y ≠ z) (nab : ca ≠ cb) (S : NdefX.NScope N ps [y, z] L.scope) (hb : ∀ (pm cv ctv : Value) (us : List Value), us.length = ps.length → bindArgs (PySem.W.kla_fn "<lambda>" L.qual L.params L.body L.scope L.cl pm cv ctv) ⟨us, []⟩ = pure (ps.zip us))
    (hsp : ∀ vs H Q, sp vs H Q E0 → vs.length = ps.length ∧ ∃ (F : List (V × D)) (M : List ME) (u v : V), Wf F H (.cel ca u :: .cel cb v :: M) ∧ ∀ (H1 : Hp) (Q1 : VK), Wf F H1 M → (∀ r H2 F' M', Wf F' H2 M' → (∀ H3, Wf F' H3 (.cel ca u :: .cel cb v :: M') → Q r H3) → Q1 r H2) →
      ∀ (A : Around) (outer : List Env) (s : Shared) (f c : Addr), Room k (A.deeper (NdefX.envF (L.nf c) f s.heap.objs.size)) → ∃ t, PE (NdefX.ncx CX0 P w K mg base N (L.nf c) f A outer s H1 E0) L.body t ∧ t (NdefX.startF N vs [some u, some v]) H1 Q1)
    (hf : I f = some (LamO f L c)) (hc : I c = some (LamX.CodeO c L.qual)) : FnV P w K mg base (k + 1) sp (.ref f) I := by
  have lk : ∀ {x : Str} {a : Addr}, L.cl.lookup x = some a → (x = y ∧ a = ca) ∨ (x = z ∧ a = cb) := by
    intro x a h
    rw [hcl, List.lookup_cons] at h
    by_cases e : x = y
    · subst e
      rw [beq_self_eq_true] at h
      exact .inl ⟨rfl, (Option.some.inj h).symm⟩
    · rw [beq_false_of_ne e, List.lookup_cons] at h
      by_cases e2 : x = z
      · subst e2
        rw [beq_self_eq_true] at h
        exact .inr ⟨rfl, (Option.some.inj h).symm⟩
      · rw [beq_false_of_ne e2] at h
        cases h
  have ly : L.cl.lookup y = some ca := by rw [hcl, List.lookup_cons, beq_self_eq_true]
  have lz : L.cl.lookup z = some cb := by rw [hcl, List.lookup_cons, beq_false_of_ne (Ne.symm nyz), List.lookup_cons, beq_self_eq_true]
  refine fnV_lam (fr := [y, z]) S hb (fun x x' a h1 h2 => ?_) (fun x a h => ?_) (fun vs H Q q => ?_) hf hc
  · rcases lk h1 with ⟨e1, e2⟩ | ⟨e1, e2⟩ <;> rcases lk h2 with ⟨e3, e4⟩ | ⟨e3, e4⟩
    · rw [e1, e3]
    · exact absurd (e2.symm.trans e4) nab
    · exact absurd (e4.symm.trans e2) nab
    · rw [e1, e3]
  · rcases lk h with ⟨e, _⟩ | ⟨e, _⟩ <;> simp [e]
  · obtain ⟨hl, F, M, u, v, w', body⟩ := hsp vs H Q q
    obtain ⟨cs, e1, p2, hcs, nd, w2, back⟩ := n_cels (M := []) (as := [ca, cb]) (ws := [u, v]) (G := M) w' rfl
    have b2 := body (cutC cs H) (fun r H2 => (∀ d ∈ cs, H2 d.1 = none) → Q r (addC cs H2)) w2 (fun r H2 F' M' w3 q3 hn => q3 _ (back F' H2 [] M' w3 hn))
    refine ⟨hl, cs, [u, v], ?_, p2, hcs, fun A outer s f c hr => b2 A outer s f c hr⟩
    have two : ∃ c0 c1, cs = [c0, c1] ∧ c0.1 = ca ∧ c1.1 = cb := by
      clear p2 hcs back b2 w' body
      cases cs with
      | nil => cases e1
      | cons c0 r =>
        cases r with
        | nil => cases (List.cons.inj e1).2
        | cons c1 r =>
          cases r with
          | nil => exact ⟨c0, c1, rfl, (List.cons.inj e1).1, (List.cons.inj (List.cons.inj e1).2).1⟩
          | cons c2 r => cases (List.cons.inj (List.cons.inj e1).2).2
    obtain ⟨c0, c1, e3, e4, e5⟩ := two
    rw [e3]
    exact .cons (by rw [e4]; exact ly) (.cons (by rw [e5]; exact lz) .nil)
end
end Fs

namespace Fs
open PySem PySem.Spec PyProof.Rows L2
/-! ### list(d) of a dict whose keys are tuples of ints and texts -/
def rListKG : List V → Hp → VK → Prop := fun xs H Q => ∃ (d : Addr) (kvs : List (List Key × V)), xs = [.ref d] ∧ Rd H d (.dT kvs) ∧
  ∀ (bs : List Addr) (p : Addr), bs.length = kvs.length → (∀ (i : Nat) (b : Addr) (k : List Key), bs[i]? = some b → (kvs.map (·.1))[i]? = some k → H b = some (.tup (k.map kV))) → H p = none → Q (.ref p) (upd H p (.lst (bs.map V.ref)))
theorem kt_each {H : Hp} {kvs : List (List Key × V)} {ks : List (List Key × Addr × Value)} (r : KT H kvs ks) : ∀ (i : Nat) (b : Addr) (k : List Key), (ks.map fun x => x.2.1)[i]? = some b → (kvs.map (·.1))[i]? = some k → H b = some (.tup (k.map kV)) := by
  induction r with
  | nil => intro i b k h; simp at h
  | @cons p q ps qs h t ih =>
    intro i b k h1 h2
    cases i with
    | zero =>
      simp only [List.map_cons, List.getElem?_cons_zero, Option.some.injEq] at h1 h2
      rw [← h1, ← h2]
      exact h.2.1
    | succ i => exact ih i b k (by simpa using h1) (by simpa using h2)
theorem k_listKG {X : Cx} (hc : X.calm = true) : CallR X (.type "list") rListKG := by
  intro pins s σ H vs us Q J h
  intro h
  obtain ⟨d, kvs, rfl, hd, q⟩ := h
  obtain rfl := Vals.ref1 ‹Vals _ us›
  obtain ⟨z, hs, ks, pr, o, es, ep, ho, hx, hdt, he, hn⟩ := (show ObjOk X.prog X.w H s.heap d (.dT kvs) from hd.ok J.hok)
  have lk : kvs.length = ks.length := Paired.length pr
  have le : es.size = ks.length := by rw [← Array.length_toList, he, List.length_map]
  refine PySem.W.kdl_call (kdl_raw hs hx hdt) (J.ok.hd hc) ho (by omega) fun h' tk acc c' kp hD hacc => ?_
  have ea := keyAcc he hacc
  refine ⟨.ref _, upd H s.heap.objs.size (.lst ((ks.map fun x => x.2.1).map V.ref)), J.laid (t' := tk) kp (Nat.le_refl _) ⟨by rw [List.length_map, List.length_map]; omega, acc.toList, c', ?_, by simpa using hD⟩, rfl, q _ _ (by rw [List.length_map, lk]) (kt_each pr) (J.hok.fresh (Nat.le_refl _))⟩
  rw [ea]
  have refs : ∀ l : List Addr, Vals (l.map V.ref) (l.map Value.ref) := fun l => by
    induction l with
    | nil => exact .nil
    | cons u l ih => exact .cons rfl ih
  exact refs _
def tupK (k : List Key) : D := .tup (k.map keyD)
theorem isA_keyG {I : Hp} : ∀ k : List Key, IsA I (k.map kV) (k.map keyD)
  | [] => .nil
  | .inl i :: r => .cons (.int i) (isA_keyG r)
  | .inr x :: r => .cons (.str x) (isA_keyG r)
theorem knA_key {F : List (V × D)} : ∀ k : List Key, KnA F (k.map kV) (k.map keyD)
  | [] => .nil
  | .inl i :: r => .cons (.int i) (knA_key r)
  | .inr x :: r => .cons (.str x) (knA_key r)
section
variable {K : PySem.W.Frag} {H : Hp} {F : List (V × D)} {M : List ME} {Q : VK} {p : Addr} {kvs : List (List Key × D)}
theorem Wf.keysN (w : Wf F H M) : ∀ {bs : List Addr} {ms : List (List Key)}, bs.length = ms.length → (∀ (i : Nat) (b : Addr) (m : List Key), bs[i]? = some b → ms[i]? = some m → H b = some (.tup (m.map kV))) → ∃ FX, (∀ f ∈ F, f ∈ FX) ∧ Wf FX H M ∧ KnA FX (bs.map V.ref) (ms.map tupK)
  | [], [], _, _ => ⟨F, fun _ h => h, w, .nil⟩
  | [], _ :: _, e, _ => by cases e
  | _ :: _, [], e, _ => by cases e
  | b :: bs, m :: ms, e, h => by
    obtain ⟨FX, h1, h2, h3⟩ := Wf.keysN w (bs := bs) (ms := ms) (Nat.succ.inj e) fun i b' m' => h (i + 1) b' m'
    refine ⟨(.ref b, tupK m) :: FX, fun f hf => List.mem_cons_of_mem _ (h1 f hf), h2.tupN (h 0 b m rfl rfl) fun I => isA_keyG m, .cons (.mem List.mem_cons_self) ?_⟩
    have up : ∀ {xs : List V} {ds : List D}, KnA FX xs ds → KnA ((.ref b, tupK m) :: FX) xs ds := fun {xs ds} a => by
      induction a with
      | nil => exact .nil
      | cons h a ih => exact .cons h.more ih
    exact up h3
theorem n_listKG (w : Wf F H M) (h : .dt p kvs ∈ M) (q : ∀ l H', Wf F H' (.ml l (kvs.map fun kv => tupK kv.1) :: M) → Q (.ref l) H') : rListKG [.ref p] H Q := by
  obtain ⟨I, Mc, vs, w1, a, hF, hp, ha⟩ := w.dtAt h
  have e : vs.map (·.1) = kvs.map (·.1) := by
    clear hp h q
    induction ha with
    | nil => rfl
    | cons _ _ ih => rw [List.map_cons, List.map_cons, ih]
  refine ⟨p, vs, rfl, .inl hp, fun bs l h3 h4 hl => q l _ ?_⟩
  obtain ⟨FX, f1, f2, f3⟩ := w.keysN (ms := kvs.map (·.1)) (by rw [h3, ← List.length_map (f := fun x : List Key × V => x.1), e]) (by rw [← e]; exact h4)
  obtain ⟨I2, Mc2, w2, a2, hF2⟩ := f2.ex
  have f4 := f3.is hF2
  rw [List.map_map] at f4
  exact ⟨I2, _, w2.newM hl, .cons (.ml f4) a2, fun f hf => hF2 f (f1 f hf)⟩
end
end Fs

namespace Fs
open PySem PySem.Spec PyProof.Rows L2
local macro_rules | `(tactic| ktf_call "is") => `(tactic| (first | ((refine' Is.mono ?s ?h); (case s => assumption); (case h => ktf_call "is")) | fail))
local macro_rules | `(tactic| ktf_call "is") => `(tactic| exact Is.str _)
local macro_rules | `(tactic| ktf_call "is") => `(tactic| exact Is.non)
local macro_rules | `(tactic| ktf_call "is") => `(tactic| exact Is.bl _)
local macro_rules | `(tactic| ktf_call "is") => `(tactic| exact Is.int _)
local macro_rules | `(tactic| ktf_call "is") => `(tactic| assumption)
local macro_rules | `(tactic| ktf_call "isa") => `(tactic| assumption)
local macro_rules | `(tactic| ktf_call "isa") => `(tactic| (first | ((refine' IsA.cons ?x ?y); (case x => ktf_call "is"); (case y => ktf_call "isa")) | fail))
local macro_rules | `(tactic| ktf_call "isa") => `(tactic| exact IsA.nil)
local macro_rules | `(tactic| ktf_call "lst") => `(tactic| (first | ((refine' W.imm ?w _ _ ?h); (case w => assumption); (case h => assumption)) | fail))
local macro_rules | `(tactic| ktf_call "lst") => `(tactic| (first | exact W.at2 (by assumption) | fail))
local macro_rules | `(tactic| ktf_call "lst") => `(tactic| (first | exact W.at1 (by assumption) | fail))
local macro_rules | `(tactic| ktf_call "lst") => `(tactic| (first | exact W.at0 (by assumption) | fail))
local macro_rules | `(tactic| ktf_call "lst") => `(tactic| assumption)
local macro_rules | `(tactic| wtm_at "inv") => `(tactic| (intro u hu; first | (have e := Is.int_eq hu; subst e) | (have e := Is.bl_eq hu; subst e) | (have e := Is.non_eq hu; subst e) | (have e := Is.str_eq hu; subst e) | (have e := Is.ref_eq hu; subst e) | skip))
local macro_rules | `(tactic| ktr_call "o1" 0) => `(tactic| (first | with_reducible refine s_iteDn (by omega) ?_ | fail))
local macro_rules | `(tactic| ktr_call "o1" 0) => `(tactic| (first | with_reducible refine s_iteDp (by omega) ?_ | fail))
local macro_rules | `(tactic| ktr_call "o1" 0) => `(tactic| (first | with_reducible refine s_iteIn (by omega) ?_ | fail))
local macro_rules | `(tactic| ktr_call "o1" 0) => `(tactic| (first | with_reducible refine s_iteIp (by omega) ?_ | fail))
local macro_rules | `(tactic| ktr_call "o1" 0) => `(tactic| (first | ((with_reducible refine' s_I ?c ?_); (case c => first | exact cd64 (by omega) (by omega) | (show (0 : Int) < _; omega) | exact ⟨⟨by decide, by decide, by decide⟩, by decide⟩)) | fail))
local macro_rules | `(tactic| ktr_call "o1" 0) => `(tactic| (first | ((with_reducible refine' s_mul ?c ?_); (case c => exact cm64 (by omega) (by omega) (by omega) (by omega))) | fail))
local macro_rules | `(tactic| wtm_at "goo") => `(tactic| repeat (first | wtm_at "go0" | ktr_call "o1" 0))
local macro_rules | `(tactic| wtm_at "st") => `(tactic| (wtm_at "s1"; wtm_at "s1"))
local macro_rules | `(tactic| wtm_at "fork") => `(tactic| with_reducible refine s_ite (fun _ => ?_) (fun _ => ?_))
local macro_rules | `(tactic| wtm_at "fork") => `(tactic| with_reducible refine s_iteD (fun _ => ?_) (fun _ => ?_))
local macro_rules | `(tactic| wtm_at "fork") => `(tactic| with_reducible refine s_iteI (fun _ => ?_) (fun _ => ?_))
local macro_rules | `(tactic| ktf_call "kn0") => `(tactic| with_reducible exact Kn.ty _)
local macro_rules | `(tactic| ktf_call "kn0") => `(tactic| assumption)
local macro_rules | `(tactic| ktf_call "kn0") => `(tactic| (first | ((refine' Kn.mem ?h); (case h => ktf_call "mem")) | fail))
local macro_rules | `(tactic| ktf_call "kn0") => `(tactic| with_reducible exact Kn.non)
local macro_rules | `(tactic| ktf_call "kn0") => `(tactic| with_reducible exact Kn.str _)
local macro_rules | `(tactic| ktf_call "kn0") => `(tactic| with_reducible exact Kn.bl _)
local macro_rules | `(tactic| ktf_call "kn0") => `(tactic| with_reducible exact Kn.int _)
local macro_rules | `(tactic| ktf_call "kna0") => `(tactic| (first | ((refine' KnA.cons ?x ?y); (case x => ktf_call "kn0"); (case y => ktf_call "kna0")) | fail))
local macro_rules | `(tactic| ktf_call "kna0") => `(tactic| exact KnA.nil)
local macro_rules | `(tactic| ktf_call "kna") => `(tactic| (first | ((refine' KnA.cons ?x ?y); (case x => ktf_call "kn"); (case y => ktf_call "kna")) | fail))
local macro_rules | `(tactic| ktf_call "kna") => `(tactic| exact KnA.nil)
local macro_rules | `(tactic| ktf_call "rkF") => `(tactic| (first | ((with_reducible refine' Rk.moreF ?h); (case h => ktf_call "rkF")) | fail))
local macro_rules | `(tactic| ktf_call "rkF") => `(tactic| assumption)
local macro_rules | `(tactic| ktf_call "rkM") => `(tactic| (first | ((with_reducible refine' Rk.more ?h); (case h => ktf_call "rkM")) | fail))
local macro_rules | `(tactic| ktf_call "rkM") => `(tactic| ktf_call "rkF")
local macro_rules | `(tactic| ktf_call "rem") => `(tactic| (first | ((with_reducible refine' Rem.there ?h); (case h => ktf_call "rem")) | fail))
local macro_rules | `(tactic| ktf_call "rem") => `(tactic| with_reducible exact Rem.here)
local macro_rules | `(tactic| ktf_call "ks") => `(tactic| (first | ((with_reducible refine' KS.drop ?h); (case h => ktf_call "ks")) | fail))
local macro_rules | `(tactic| ktf_call "ks") => `(tactic| (first | ((with_reducible refine' KS.cons ?x ?y); (case x => ktf_call "kn"); (case y => ktf_call "ks")) | fail))
local macro_rules | `(tactic| ktf_call "ks") => `(tactic| with_reducible exact KS.nil)
local macro_rules | `(tactic| ktf_call "ks") => `(tactic| with_reducible exact KS.refl)
local macro_rules | `(tactic| ktf_call "sl") => `(tactic| (first | ((with_reducible refine' List.Sublist.cons _ ?h); (case h => ktf_call "sl")) | fail))
local macro_rules | `(tactic| ktf_call "sl") => `(tactic| (first | ((with_reducible refine' List.Sublist.cons_cons _ ?h); (case h => ktf_call "sl")) | fail))
local macro_rules | `(tactic| ktf_call "sl") => `(tactic| with_reducible exact List.nil_sublist _)
local macro_rules | `(tactic| ktf_call "sl") => `(tactic| with_reducible exact List.Sublist.refl _)
local macro_rules | `(tactic| wtm_at "wf") => `(tactic| (first | ((refine' Wf.sub ?w ?k ?s); (case w => assumption); (case k => ktf_call "ks"); (case s => ktf_call "sl")) | fail))
local macro_rules | `(tactic| wtm_at "wf") => `(tactic| assumption)
local macro_rules | `(tactic| wtm_at "wf1") => `(tactic| ((refine' Wf.sub ?w ?k ?s); (case w => assumption); (case k => refine' KS.cons (Kn.mem List.mem_cons_self) ?y; (case y => ktf_call "ks")); (case s => first | ktf_call "sl" | exact List.Sublist.refl _)))
local macro_rules | `(tactic| wtm_at "wfd") => `(tactic| ((refine' Wf.sub ?w ?k ?s); (case w => assumption); (case k => ktf_call "ks"); (case s => exact List.Sublist.refl _)))
local macro_rules | `(tactic| wtm_at "lc") => `(tactic| (simp only [List.length_cons, List.length_nil, List.length_map, List.length_append, List.length_singleton, List.length_reverse, List.length_set, List.length_replicate, List.length_range] at *; omega))
local macro_rules | `(tactic| wtm_at "c1") => `(tactic| fail)
local macro_rules | `(tactic| wtm_at "c0") => `(tactic| fail)
local macro_rules | `(tactic| ktn_call "n2" 0) => `(tactic| with_reducible refine s_iS ?_)
local macro_rules | `(tactic| ktn_call "n2" 0) => `(tactic| (first | ((with_reducible refine' s_iteDp ?h ?_); (case h => with_reducible exact rfl)) | fail))
local macro_rules | `(tactic| ktn_call "n2" 0) => `(tactic| with_reducible refine s_enum ?_)
local macro_rules | `(tactic| ktn_call "n2" 0) => `(tactic| with_reducible refine s_nput ?_)
local macro_rules | `(tactic| ktn_call "n2" 0) => `(tactic| with_reducible refine s_nnotin ?_)
local macro_rules | `(tactic| ktn_call "n2" 0) => `(tactic| with_reducible refine s_nget ?_)
local macro_rules | `(tactic| ktn_call "n2" 0) => `(tactic| with_reducible refine s_notBf ?_)
local macro_rules | `(tactic| ktn_call "n2" 0) => `(tactic| with_reducible refine s_notBt ?_)
local macro_rules | `(tactic| ktn_call "n2" 0) => `(tactic| with_reducible refine s_isBf ?_)
local macro_rules | `(tactic| ktn_call "n2" 0) => `(tactic| with_reducible refine s_isBt ?_)
local macro_rules | `(tactic| ktn_call "n2" 0) => `(tactic| with_reducible refine s_notB ?_)
local macro_rules | `(tactic| ktn_call "n2" 0) => `(tactic| with_reducible refine s_isB ?_)
local macro_rules | `(tactic| ktn_call "n2" 0) => `(tactic| with_reducible refine s_dget1 ?_)
local macro_rules | `(tactic| ktn_call "n2" 0) => `(tactic| with_reducible refine s_dput ?_)
local macro_rules | `(tactic| ktn_call "n2" 0) => `(tactic| with_reducible refine s_dnotin ?_)
local macro_rules | `(tactic| ktn_call "n2" 0) => `(tactic| with_reducible refine s_din ?_)
local macro_rules | `(tactic| ktn_call "n2" 0) => `(tactic| with_reducible refine s_dget ?_)
local macro_rules | `(tactic| wtm_at "no") => `(tactic| repeat (first | ktr_call "n0" 0 | ktr_call "o1" 0))
local macro_rules | `(tactic| wtm_at "na") => `(tactic| repeat (first | ktr_call "n0" 0 | ktr_call "o1" 0 | wtm_at "c1"))
local macro_rules | `(tactic| ktr_call "x1" 0) => `(tactic| (first | ((with_reducible refine' s_aug ?h ?_); (case h => exact rfl)) | fail))
local macro_rules | `(tactic| ktr_call "x1" 0) => `(tactic| with_reducible refine s_gcons ?_)
local macro_rules | `(tactic| ktr_call "x1" 0) => `(tactic| with_reducible refine s_gnil ?_)
local macro_rules | `(tactic| ktr_call "x1" 0) => `(tactic| with_reducible refine s_augS ?_)
local macro_rules | `(tactic| ktr_call "x1" 0) => `(tactic| with_reducible refine s_sfld ?_)
local macro_rules | `(tactic| ktr_call "x1" 0) => `(tactic| with_reducible refine s_gsub ?_)
local macro_rules | `(tactic| ktr_call "x1" 0) => `(tactic| with_reducible refine s_bm0 ?_)
local macro_rules | `(tactic| ktr_call "x1" 0) => `(tactic| with_reducible refine s_bm ?_)
local macro_rules | `(tactic| ktr_call "x1" 0) => `(tactic| with_reducible refine s_par2 ?_)
local macro_rules | `(tactic| ktr_call "x1" 0) => `(tactic| with_reducible refine s_par ?_)
local macro_rules | `(tactic| ktr_call "x1" 0) => `(tactic| with_reducible refine s_drop ?_)
local macro_rules | `(tactic| ktr_call "x1" 0) => `(tactic| with_reducible refine s_gname ?_)
local macro_rules | `(tactic| ktr_call "x1" 0) => `(tactic| with_reducible refine s_asg ?_)
local macro_rules | `(tactic| ktr_call "x1" 0) => `(tactic| with_reducible refine s_nil ?_)
local macro_rules | `(tactic| ktr_call "x1" 0) => `(tactic| with_reducible refine s_cons ?_)
local macro_rules | `(tactic| ktr_call "x1" 0) => `(tactic| with_reducible refine s_op ?_)
local macro_rules | `(tactic| ktr_call "x1" 0) => `(tactic| with_reducible refine s_c ?_)
local macro_rules | `(tactic| ktr_call "x1" 0) => `(tactic| (first | ((with_reducible refine' s_var ?h ?_); (case h => exact rfl)) | fail))
local macro_rules | `(tactic| wtm_at "st2") => `(tactic| repeat wtm_at "st0")
local macro_rules | `(tactic| wtm_at "kk") => `(tactic| repeat (first | with_reducible refine s_k ?_ | with_reducible refine iteT ?_ | with_reducible refine iteF ?_ | with_reducible refine s_iteN ?_))
local macro_rules | `(tactic| wtm_at "sq2") => `(tactic| repeat (first | ktr_call "x1" 0 | k_search "n1" | wtm_at "e1" | wtm_at "b1" | with_reducible refine s_seq ?_ | with_reducible refine s_next ?_))
local macro_rules | `(tactic| ktr_call "b2" 0) => `(tactic| (first | ((with_reducible refine s_iteIp ?h ?_); (case h => exact rfl)) | fail))
local macro_rules | `(tactic| ktr_call "b2" 0) => `(tactic| with_reducible refine s_nonN ?_)
local macro_rules | `(tactic| ktr_call "b2" 0) => `(tactic| with_reducible refine s_refN ?_)
local macro_rules | `(tactic| ktr_call "b2" 0) => `(tactic| with_reducible refine s_intN ?_)
local macro_rules | `(tactic| ktr_call "s2" 0) => `(tactic| with_reducible refine s_brk ?_)
local macro_rules | `(tactic| ktr_call "s2" 0) => `(tactic| with_reducible refine s_cnt ?_)
local macro_rules | `(tactic| ktr_call "s2" 0) => `(tactic| with_reducible refine s_iT ?_)
local macro_rules | `(tactic| ktr_call "s2" 0) => `(tactic| with_reducible refine s_iL ?_)
local macro_rules | `(tactic| ktr_call "s2" 0) => `(tactic| (first | ((with_reducible refine' s_aug ?h ?_); (case h => exact rfl)) | fail))
local macro_rules | `(tactic| ktr_call "s2" 0) => `(tactic| with_reducible refine s_zip ?_)
local macro_rules | `(tactic| ktr_call "s2" 0) => `(tactic| with_reducible refine s_rng2 ?_)
local macro_rules | `(tactic| ktr_call "s2" 0) => `(tactic| with_reducible refine s_rng1 ?_)
local macro_rules | `(tactic| ktr_call "s2" 0) => `(tactic| with_reducible refine s_retN ?_)
local macro_rules | `(tactic| ktr_call "s2" 0) => `(tactic| with_reducible refine s_gcons ?_)
local macro_rules | `(tactic| ktr_call "s2" 0) => `(tactic| with_reducible refine s_gnil ?_)
local macro_rules | `(tactic| ktr_call "s2" 0) => `(tactic| (first | ((with_reducible refine' s_tyL ?h ?_); (case h => ktf_call "lst")) | fail))
local macro_rules | `(tactic| ktr_call "s2" 0) => `(tactic| (first | ((with_reducible refine' s_setW1 (by assumption) ?j ?_); (case j => exact rfl); (intro H' w')) | fail))
local macro_rules | `(tactic| ktr_call "s2" 0) => `(tactic| (first | ((with_reducible refine' s_setW0 (by assumption) ?j ?_); (case j => exact rfl); (intro H' w')) | fail))
local macro_rules | `(tactic| ktr_call "s2" 0) => `(tactic| with_reducible refine s_augS ?_)
local macro_rules | `(tactic| ktr_call "s2" 0) => `(tactic| with_reducible refine s_sfld ?_)
local macro_rules | `(tactic| ktr_call "s2" 0) => `(tactic| with_reducible refine s_gsub ?_)
local macro_rules | `(tactic| ktr_call "s2" 0) => `(tactic| with_reducible refine s_bm0 ?_)
local macro_rules | `(tactic| ktr_call "s2" 0) => `(tactic| with_reducible refine s_bm ?_)
local macro_rules | `(tactic| ktr_call "s2" 0) => `(tactic| with_reducible refine s_for ?_)
local macro_rules | `(tactic| ktr_call "s2" 0) => `(tactic| with_reducible refine s_par2 ?_)
local macro_rules | `(tactic| ktr_call "s2" 0) => `(tactic| with_reducible refine s_par ?_)
local macro_rules | `(tactic| ktr_call "s2" 0) => `(tactic| with_reducible refine s_drop ?_)
local macro_rules | `(tactic| ktn_call "e2" 0) => `(tactic| (first | ((with_reducible refine' s_isi (by assumption) ?h ?e ?k ?_); (case h => ktf_call "is"); (case e => exact rfl); (case k => first | exact kit_ii | exact kit_ib | exact kit_bi | exact kit_bb | exact kit_tt | exact kit_ll | decide +kernel)) | fail))
local macro_rules | `(tactic| ktn_call "e2" 0) => `(tactic| (first | ((with_reducible refine' s_ne ?h ?_); (case h => exact rfl)) | fail))
local macro_rules | `(tactic| ktn_call "e2" 0) => `(tactic| (first | ((with_reducible refine' s_eq ?h ?_); (case h => exact rfl)) | fail))
local macro_rules | `(tactic| ktn_call "e2" 0) => `(tactic| (first | ((with_reducible refine' s_I ?c ?_); (case c => exact ⟨⟨by decide, by decide, by decide⟩, by decide⟩)) | fail))
local macro_rules | `(tactic| ktn_call "e2" 0) => `(tactic| (first | ((with_reducible refine' s_lenM ?h ?_); (case h => ktf_call "lst")) | fail))
local macro_rules | `(tactic| ktn_call "e2" 0) => `(tactic| (first | ((with_reducible refine' s_lenL (by assumption) ?h ?_); (case h => ktf_call "is")) | fail))
local macro_rules | `(tactic| ktn_call "e2" 0) => `(tactic| (first | ((with_reducible refine' s_lenT (by assumption) ?h ?_); (case h => ktf_call "is")) | fail))
local macro_rules | `(tactic| ktn_call "e2" 0) => `(tactic| (first | ((with_reducible refine' s_fldI (by assumption) ?h ?c ?n ?f ?d ?_); (case h => ktf_call "is"); (case c => exact OwnC.cl (by assumption)); (case n => assumption); (case f => decide); (case d => exact rfl); wtm_at "inv") | fail))
local macro_rules | `(tactic| ktn_call "e2" 0) => `(tactic| (first | ((with_reducible refine' s_ixLM ?h ?d ?_); (case h => ktf_call "lst"); (case d => exact rfl)) | fail))
local macro_rules | `(tactic| ktn_call "e2" 0) => `(tactic| (first | ((with_reducible refine' s_ixM ?h ?d ?_); (case h => ktf_call "lst"); (case d => exact rfl)) | fail))
local macro_rules | `(tactic| ktn_call "e2" 0) => `(tactic| (first | ((with_reducible refine' s_ixL (by assumption) ?h ?d ?_); (case h => ktf_call "is"); (case d => exact rfl); wtm_at "inv") | fail))
local macro_rules | `(tactic| ktn_call "e2" 0) => `(tactic| (first | ((with_reducible refine' s_ixT (by assumption) ?h ?d ?_); (case h => ktf_call "is"); (case d => exact rfl); wtm_at "inv") | fail))
local macro_rules | `(tactic| ktn_call "e2" 0) => `(tactic| with_reducible refine s_ipI ?_)
local macro_rules | `(tactic| ktn_call "e2" 0) => `(tactic| with_reducible refine s_max2 ?_)
local macro_rules | `(tactic| ktn_call "e2" 0) => `(tactic| with_reducible refine s_min2 ?_)
local macro_rules | `(tactic| ktn_call "e2" 0) => `(tactic| with_reducible refine s_intI ?_)
local macro_rules | `(tactic| ktn_call "e2" 0) => `(tactic| with_reducible refine s_intB ?_)
local macro_rules | `(tactic| ktn_call "e2" 0) => `(tactic| with_reducible refine s_abs ?_)
local macro_rules | `(tactic| ktn_call "e2" 0) => `(tactic| with_reducible refine s_yes ?_)
local macro_rules | `(tactic| ktn_call "e2" 0) => `(tactic| with_reducible refine s_lcc ?_)
local macro_rules | `(tactic| ktn_call "e2" 0) => `(tactic| with_reducible refine s_part' ?_)
local macro_rules | `(tactic| ktn_call "e2" 0) => `(tactic| with_reducible refine s_part ?_)
local macro_rules | `(tactic| ktn_call "e2" 0) => `(tactic| with_reducible refine s_noP ?_)
local macro_rules | `(tactic| ktn_call "e2" 0) => `(tactic| with_reducible refine s_sl ?_)
local macro_rules | `(tactic| ktn_call "e2" 0) => `(tactic| with_reducible refine s_rev ?_)
local macro_rules | `(tactic| ktn_call "e2" 0) => `(tactic| with_reducible refine s_meth ?_)
local macro_rules | `(tactic| ktn_call "e2" 0) => `(tactic| with_reducible refine s_makeK ?_)
local macro_rules | `(tactic| ktn_call "e2" 0) => `(tactic| with_reducible refine s_make ?_)
local macro_rules | `(tactic| ktn_call "e2" 0) => `(tactic| with_reducible refine s_fldQ ?_)
local macro_rules | `(tactic| ktn_call "e2" 0) => `(tactic| with_reducible refine s_lst ?_)
local macro_rules | `(tactic| ktn_call "e2" 0) => `(tactic| with_reducible refine s_tup ?_)
local macro_rules | `(tactic| ktn_call "e2" 0) => `(tactic| with_reducible refine s_notN ?_)
local macro_rules | `(tactic| ktn_call "e2" 0) => `(tactic| with_reducible refine s_isN ?_)
local macro_rules | `(tactic| ktn_call "e2" 0) => `(tactic| with_reducible refine s_chain ?_)
local macro_rules | `(tactic| ktn_call "e2" 0) => `(tactic| with_reducible refine s_if ?_)
local macro_rules | `(tactic| ktn_call "e2" 0) => `(tactic| with_reducible refine s_notV ?_)
local macro_rules | `(tactic| ktn_call "e2" 0) => `(tactic| with_reducible refine s_orV ?_)
local macro_rules | `(tactic| ktn_call "e2" 0) => `(tactic| with_reducible refine s_andV ?_)
local macro_rules | `(tactic| ktn_call "e2" 0) => `(tactic| with_reducible refine s_or ?_)
local macro_rules | `(tactic| ktn_call "e2" 0) => `(tactic| with_reducible refine s_and ?_)
local macro_rules | `(tactic| ktn_call "e2" 0) => `(tactic| with_reducible refine s_not ?_)
local macro_rules | `(tactic| ktn_call "e2" 0) => `(tactic| with_reducible refine s_fldVC ?_)
local macro_rules | `(tactic| ktn_call "e2" 0) => `(tactic| with_reducible refine s_methC ?_)
local macro_rules | `(tactic| ktn_call "e2" 0) => `(tactic| with_reducible refine s_calKC ?_)
local macro_rules | `(tactic| ktn_call "e2" 0) => `(tactic| with_reducible refine s_calC ?_)
local macro_rules | `(tactic| ktn_call "e2" 0) => `(tactic| with_reducible refine s_B ?_)
local macro_rules | `(tactic| ktn_call "e2" 0) => `(tactic| with_reducible refine s_un ?_)
local macro_rules | `(tactic| ktn_call "e2" 0) => `(tactic| with_reducible refine s_U ?_)
local macro_rules | `(tactic| tbr_iter "ef") => `(tactic| with_reducible refine s_add ?_)
local macro_rules | `(tactic| tbr_iter "ef") => `(tactic| with_reducible refine s_I0 ?_)
local macro_rules | `(tactic| tbr_iter "ef") => `(tactic| with_reducible refine s_cb ?_)
local macro_rules | `(tactic| tbr_iter "ef") => `(tactic| with_reducible refine s_makeX ?_)
local macro_rules | `(tactic| tbr_iter "ef") => `(tactic| with_reducible refine s_callN ?_)
local macro_rules | `(tactic| tbr_iter "ef") => `(tactic| with_reducible refine s_callS ?_)
local macro_rules | `(tactic| tbr_iter "ef") => `(tactic| with_reducible refine s_call ?_)
local macro_rules | `(tactic| tbr_iter "ef") => `(tactic| with_reducible refine s_k ?_)
local macro_rules | `(tactic| tbr_iter "ef") => `(tactic| with_reducible refine s_test ?_)
local macro_rules | `(tactic| tbr_iter "ef") => `(tactic| with_reducible refine s_nil ?_)
local macro_rules | `(tactic| tbr_iter "ef") => `(tactic| with_reducible refine s_cons ?_)
local macro_rules | `(tactic| tbr_iter "ef") => `(tactic| with_reducible refine s_op ?_)
local macro_rules | `(tactic| tbr_iter "ef") => `(tactic| with_reducible refine s_c ?_)
local macro_rules | `(tactic| tbr_iter "ef") => `(tactic| (first | ((with_reducible refine' s_var ?h ?_); (case h => exact rfl)) | fail))
local macro_rules | `(tactic| tbr_iter "sf") => `(tactic| with_reducible refine s_ret ?_)
local macro_rules | `(tactic| tbr_iter "sf") => `(tactic| with_reducible refine s_next ?_)
local macro_rules | `(tactic| tbr_iter "sf") => `(tactic| with_reducible refine s_ifS ?_)
local macro_rules | `(tactic| tbr_iter "sf") => `(tactic| with_reducible refine s_gname ?_)
local macro_rules | `(tactic| tbr_iter "sf") => `(tactic| with_reducible refine s_asg ?_)
local macro_rules | `(tactic| tbr_iter "sf") => `(tactic| with_reducible refine s_seq ?_)
local macro_rules | `(tactic| tbr_iter "bf") => `(tactic| with_reducible refine s_iteN ?_)
local macro_rules | `(tactic| tbr_iter "bf") => `(tactic| with_reducible refine iteF ?_)
local macro_rules | `(tactic| tbr_iter "bf") => `(tactic| with_reducible refine iteT ?_)
local macro_rules | `(tactic| wtm_at "e1") => `(tactic| ktn_call "e2" 0)
local macro_rules | `(tactic| wtm_at "e1") => `(tactic| tbr_iter "ef")
local macro_rules | `(tactic| wtm_at "s1") => `(tactic| ktr_call "s2" 0)
local macro_rules | `(tactic| wtm_at "s1") => `(tactic| tbr_iter "sf")
local macro_rules | `(tactic| wtm_at "b1") => `(tactic| ktr_call "b2" 0)
local macro_rules | `(tactic| wtm_at "b1") => `(tactic| tbr_iter "bf")
local macro_rules | `(tactic| wtm_at "st0") => `(tactic| wtm_at "b1")
local macro_rules | `(tactic| wtm_at "st0") => `(tactic| ktn_call "e2" 0)
local macro_rules | `(tactic| wtm_at "st0") => `(tactic| tbr_iter "ef")
local macro_rules | `(tactic| wtm_at "st0") => `(tactic| k_search "n1")
local macro_rules | `(tactic| wtm_at "st0") => `(tactic| ktr_call "x1" 0)
local macro_rules | `(tactic| wtm_at "go0") => `(tactic| ktr_call "b2" 0)
local macro_rules | `(tactic| wtm_at "go0") => `(tactic| ktr_call "s2" 0)
local macro_rules | `(tactic| wtm_at "go0") => `(tactic| ktn_call "e2" 0)
local macro_rules | `(tactic| wtm_at "go0") => `(tactic| tbr_iter "f1")
local macro_rules | `(tactic| wtm_at "go") => `(tactic| repeat wtm_at "go0")
local macro_rules | `(tactic| ktf_call "kn") => `(tactic| exact Kn.ref _)
local macro_rules | `(tactic| ktf_call "kn") => `(tactic| exact Kn.ty _)
local macro_rules | `(tactic| ktf_call "kn") => `(tactic| assumption)
local macro_rules | `(tactic| ktf_call "kn") => `(tactic| (first | ((refine' Kn.mem ?h); (case h => ktf_call "mem")) | fail))
local macro_rules | `(tactic| ktf_call "kn") => `(tactic| with_reducible exact Kn.non)
local macro_rules | `(tactic| ktf_call "kn") => `(tactic| with_reducible exact Kn.str _)
local macro_rules | `(tactic| ktf_call "kn") => `(tactic| with_reducible exact Kn.bl _)
local macro_rules | `(tactic| ktf_call "kn") => `(tactic| with_reducible exact Kn.int _)
local macro_rules | `(tactic| ktf_call "foc") => `(tactic| (first | ((with_reducible refine' Foc.there ?h); (case h => ktf_call "foc")) | fail))
local macro_rules | `(tactic| ktf_call "foc") => `(tactic| with_reducible exact Foc.here)
local macro_rules | `(tactic| ktf_call "rk") => `(tactic| ktf_call "rkM")
local macro_rules | `(tactic| ktf_call "rk") => `(tactic| (first | ((with_reducible refine' Rk.mi ?h); (case h => ktf_call "mem")) | fail))
local macro_rules | `(tactic| ktf_call "rk") => `(tactic| (first | ((with_reducible refine' Rk.ml ?h); (case h => ktf_call "mem")) | fail))
local macro_rules | `(tactic| ktf_call "rk") => `(tactic| (first | ((refine' Rk.mem ?h); (case h => ktf_call "mem")) | fail))
local macro_rules | `(tactic| ktf_call "rk") => `(tactic| with_reducible exact Rk.non)
local macro_rules | `(tactic| ktf_call "rk") => `(tactic| with_reducible exact Rk.str _)
local macro_rules | `(tactic| ktf_call "rk") => `(tactic| with_reducible exact Rk.bl _)
local macro_rules | `(tactic| ktf_call "rk") => `(tactic| with_reducible exact Rk.int _)
local macro_rules | `(tactic| ktf_call "mem") => `(tactic| (first | ((with_reducible refine' List.mem_cons_of_mem _ ?h); (case h => ktf_call "mem")) | fail))
local macro_rules | `(tactic| ktf_call "mem") => `(tactic| assumption)
local macro_rules | `(tactic| ktf_call "mem") => `(tactic| with_reducible exact List.mem_cons_self)
local macro_rules | `(tactic| k_search "n1") => `(tactic| (first | ((with_reducible refine' n_sf (by assumption) ?f ?h ?c ?n ?z ?g ?_); (case f => ktf_call "foc"); (case h => ktf_call "kn"); (case c => exact OwnC.cl (by assumption)); (case n => assumption); (case z => decide); (case g => first | decide | (simp; done)); (intro H' w')) | fail))
local macro_rules | `(tactic| k_search "n1") => `(tactic| (first | ((with_reducible refine' n_meth (by assumption) ?h ?m ?_); (case h => ktf_call "rk"); (case m => first | decide | (simp only [List.map_cons, List.map_nil]; decide))) | fail))
local macro_rules | `(tactic| k_search "n1") => `(tactic| (first | ((with_reducible refine' n_fld (by assumption) ?h ?c ?n ?f ?d ?_); (case h => ktf_call "rk"); (case c => exact OwnC.cl (by assumption)); (case n => assumption); (case f => decide); (case d => exact rfl); (intro u w')) | fail))
local macro_rules | `(tactic| k_search "n1") => `(tactic| (first | ((with_reducible refine' n_fldn (by assumption) ?h ?c ?n ?f ?d ?_); (case h => ktf_call "rk"); (case c => exact OwnC.cl (by assumption)); (case n => assumption); (case f => decide); (case d => exact rfl)) | fail))
local macro_rules | `(tactic| k_search "n1") => `(tactic| (first | ((with_reducible refine' n_fldr (by assumption) ?h ?c ?n ?f ?d ?_); (case h => ktf_call "rk"); (case c => exact OwnC.cl (by assumption)); (case n => assumption); (case f => decide); (case d => exact rfl)) | fail))
local macro_rules | `(tactic| k_search "n1") => `(tactic| (first | ((with_reducible refine' n_fldi (by assumption) ?h ?c ?n ?f ?d ?_); (case h => ktf_call "rk"); (case c => exact OwnC.cl (by assumption)); (case n => assumption); (case f => decide); (case d => exact rfl)) | fail))
local macro_rules | `(tactic| k_search "n1") => `(tactic| (first | ((with_reducible refine' n_isi (by assumption) ?h ?e ?k ?_); (case h => ktf_call "rk"); (case e => exact rfl); (case k => first | exact kit_ii | exact kit_ib | exact kit_bi | exact kit_bb | exact kit_tt | exact kit_ll | decide +kernel)) | fail))
local macro_rules | `(tactic| k_search "n1") => `(tactic| (first | ((with_reducible refine' n_rev (by assumption) ?h ?_); (case h => ktf_call "rk"); (intro p H' w')) | fail))
local macro_rules | `(tactic| k_search "n1") => `(tactic| (first | ((with_reducible refine' n_listT (by assumption) ?h ?_); (case h => ktf_call "rk"); (intro p H' w')) | fail))
local macro_rules | `(tactic| k_search "n1") => `(tactic| (first | ((with_reducible refine' n_list (by assumption) ?h ?_); (case h => ktf_call "rk"); (intro p H' w')) | fail))
local macro_rules | `(tactic| k_search "n1") => `(tactic| (first | ((with_reducible refine' n_sl (by assumption) ?h ?_); (case h => ktf_call "rk"); (intro p H' w')) | fail))
local macro_rules | `(tactic| k_search "n1") => `(tactic| (first | ((with_reducible refine' n_set (by assumption) ?f ?h ?z ?_); (case f => ktf_call "foc"); (case h => ktf_call "kn"); (case z => exact rfl); (intro H' w')) | fail))
local macro_rules | `(tactic| k_search "n1") => `(tactic| (first | ((with_reducible refine' n_clear (by assumption) ?f ?_); (case f => ktf_call "foc"); (intro H' w')) | fail))
local macro_rules | `(tactic| k_search "n1") => `(tactic| (first | ((with_reducible refine' n_app (by assumption) ?f ?h ?z ?_); (case f => ktf_call "foc"); (case h => ktf_call "kn0"); (case z => first | omega | (simp; done) | (simp; omega)); (intro H' w')) | fail))
local macro_rules | `(tactic| k_search "n1") => `(tactic| (first | ((with_reducible refine' n_tyL (by assumption) ?h ?_); (case h => ktf_call "mem")) | fail))
local macro_rules | `(tactic| k_search "n1") => `(tactic| (first | ((with_reducible refine' n_gtup4 (by assumption) ?h ?_); (case h => ktf_call "rk"); (intro x y z u w')) | fail))
local macro_rules | `(tactic| k_search "n1") => `(tactic| (first | ((with_reducible refine' n_gtup3 (by assumption) ?h ?_); (case h => ktf_call "rk"); (intro x y z w')) | fail))
local macro_rules | `(tactic| k_search "n1") => `(tactic| (first | ((with_reducible refine' n_gtup2 (by assumption) ?h ?_); (case h => ktf_call "rk"); (intro x y w')) | fail))
local macro_rules | `(tactic| k_search "n1") => `(tactic| (first | ((with_reducible refine' n_gtupIII (by assumption) ?h ?_); (case h => ktf_call "rk")) | fail))
local macro_rules | `(tactic| k_search "n1") => `(tactic| (first | ((with_reducible refine' n_gtupII (by assumption) ?h ?_); (case h => ktf_call "rk")) | fail))
local macro_rules | `(tactic| k_search "n1") => `(tactic| (first | ((with_reducible refine' n_newL (by assumption) ?a ?z ?_); (case a => ktf_call "kna0"); (case z => exact Nat.le_of_ble_eq_true rfl); (intro p H' w')) | fail))
local macro_rules | `(tactic| k_search "n1") => `(tactic| (first | ((with_reducible refine' n_newT (by assumption) ?a ?z ?_); (case a => ktf_call "kna0"); (case z => exact Nat.le_of_ble_eq_true rfl); (intro p H' w')) | fail))
local macro_rules | `(tactic| k_search "n1") => `(tactic| (first | ((with_reducible refine' n_lenT (by assumption) ?h ?_); (case h => ktf_call "rk")) | fail))
local macro_rules | `(tactic| k_search "n1") => `(tactic| (first | ((with_reducible refine' n_lenL (by assumption) ?h ?_); (case h => ktf_call "rk")) | fail))
local macro_rules | `(tactic| k_search "n1") => `(tactic| (first | ((with_reducible refine' n_ixL (by assumption) ?h ?d ?_); (case h => ktf_call "rk"); (case d => first | exact rfl | with_reducible exact atI_head | with_reducible exact atI_last _ _); (intro u w')) | fail))
local macro_rules | `(tactic| k_search "n1") => `(tactic| (first | ((with_reducible refine' n_ixT (by assumption) ?h ?d ?_); (case h => ktf_call "rk"); (case d => exact rfl); (intro u w')) | fail))
local macro_rules | `(tactic| k_search "n1") => `(tactic| (first | ((with_reducible refine' n_ixTn (by assumption) ?h ?d ?_); (case h => ktf_call "rk"); (case d => exact rfl)) | fail))
local macro_rules | `(tactic| k_search "n1") => `(tactic| (first | ((with_reducible refine' n_ixLr (by assumption) ?h ?d ?_); (case h => ktf_call "rk"); (case d => exact rfl)) | fail))
local macro_rules | `(tactic| k_search "n1") => `(tactic| (first | ((with_reducible refine' n_ixLi (by assumption) ?h ?d ?_); (case h => ktf_call "rk"); (case d => exact rfl)) | fail))
local macro_rules | `(tactic| k_search "n1") => `(tactic| (first | ((with_reducible refine' n_ixTr (by assumption) ?h ?d ?_); (case h => ktf_call "rk"); (case d => exact rfl)) | fail))
local macro_rules | `(tactic| k_search "n1") => `(tactic| (first | ((with_reducible refine' n_ixTi (by assumption) ?h ?d ?_); (case h => ktf_call "rk"); (case d => exact rfl)) | fail))
local macro_rules | `(tactic| tbr_iter "f1") => `(tactic| with_reducible refine s_ret ?_)
local macro_rules | `(tactic| tbr_iter "f1") => `(tactic| with_reducible refine s_add ?_)
local macro_rules | `(tactic| tbr_iter "f1") => `(tactic| with_reducible refine s_iteN ?_)
local macro_rules | `(tactic| tbr_iter "f1") => `(tactic| with_reducible refine s_next ?_)
local macro_rules | `(tactic| tbr_iter "f1") => `(tactic| with_reducible refine iteF ?_)
local macro_rules | `(tactic| tbr_iter "f1") => `(tactic| with_reducible refine iteT ?_)
local macro_rules | `(tactic| tbr_iter "f1") => `(tactic| with_reducible refine s_I0 ?_)
local macro_rules | `(tactic| tbr_iter "f1") => `(tactic| with_reducible refine s_cb ?_)
local macro_rules | `(tactic| tbr_iter "f1") => `(tactic| with_reducible refine s_makeX ?_)
local macro_rules | `(tactic| tbr_iter "f1") => `(tactic| with_reducible refine s_callN ?_)
local macro_rules | `(tactic| tbr_iter "f1") => `(tactic| with_reducible refine s_callS ?_)
local macro_rules | `(tactic| tbr_iter "f1") => `(tactic| with_reducible refine s_call ?_)
local macro_rules | `(tactic| tbr_iter "f1") => `(tactic| with_reducible refine s_k ?_)
local macro_rules | `(tactic| tbr_iter "f1") => `(tactic| with_reducible refine s_test ?_)
local macro_rules | `(tactic| tbr_iter "f1") => `(tactic| with_reducible refine s_ifS ?_)
local macro_rules | `(tactic| tbr_iter "f1") => `(tactic| with_reducible refine s_gname ?_)
local macro_rules | `(tactic| tbr_iter "f1") => `(tactic| with_reducible refine s_asg ?_)
local macro_rules | `(tactic| tbr_iter "f1") => `(tactic| with_reducible refine s_seq ?_)
local macro_rules | `(tactic| tbr_iter "f1") => `(tactic| with_reducible refine s_nil ?_)
local macro_rules | `(tactic| tbr_iter "f1") => `(tactic| with_reducible refine s_cons ?_)
local macro_rules | `(tactic| tbr_iter "f1") => `(tactic| with_reducible refine s_op ?_)
local macro_rules | `(tactic| tbr_iter "f1") => `(tactic| with_reducible refine s_c ?_)
local macro_rules | `(tactic| tbr_iter "f1") => `(tactic| (first | ((with_reducible refine' s_var ?h ?_); (case h => exact rfl)) | fail))
local macro_rules | `(tactic| ktr_call "n0" 0) => `(tactic| wtm_at "c0")
local macro_rules | `(tactic| ktr_call "n0" 0) => `(tactic| ktr_call "b2" 0)
local macro_rules | `(tactic| ktr_call "n0" 0) => `(tactic| ktr_call "s2" 0)
local macro_rules | `(tactic| ktr_call "n0" 0) => `(tactic| ktn_call "e2" 0)
local macro_rules | `(tactic| ktr_call "n0" 0) => `(tactic| ktn_call "n2" 0)
local macro_rules | `(tactic| ktr_call "n0" 0) => `(tactic| k_search "n1")
local macro_rules | `(tactic| ktr_call "n0" 0) => `(tactic| tbr_iter "f1")
local macro_rules | `(tactic| wtm_at "n") => `(tactic| repeat ktr_call "n0" 0)
section
variable {P : Program} {wd : World} {K : PySem.W.Frag} {mg : Str → Option Value} {base : Heap}
variable {C_Heights : Addr}
def top (i : Nat) : Stmt := PySem.Challenge.pw_fairsheet_k51_heights_kept.main.body.getD i (.Pass ⟨0, 0, 0, 0⟩)
abbrev s_Heights___init__ : Stmt := inClass (top 1) 0
theorem sc_Heights___init__ : FnScope ["self", "measure"] ["self", "measure"] (defScope s_Heights___init__) := ⟨rfl, rfl, rfl, by decide +kernel, rfl, by decide +kernel, by decide +kernel⟩
def hgO (C kd rw : Addr) (φ : V → Hp → Prop) : D := .obj C [("measure", .fact φ), ("known", .ref kd), ("row", .ref rw)]
def sp_Heights___init__ (C : Addr) : Sp := fun vs H Q _ => ∃ F M x f φ, vs = [.ref x, f] ∧ Wf F H (.mi x C [] :: M) ∧ Kn F f (.fact φ) ∧ ∀ kd rw H', Wf ((.ref x, hgO C kd rw φ) :: F) H' (.ml rw [] :: .dt kd [] :: M) → Q .non H'
theorem n_mkH {C : Addr} {F : List (V × D)} {H : Hp} {M : List ME} {f : V} {φ : V → Hp → Prop} {Q : VK} {E : XK} (ww : Wf F H M) (hf : Kn F f (.fact φ)) (q : ∀ x kd rw H', Wf ((.ref x, hgO C kd rw φ) :: F) H' (.ml rw [] :: .dt kd [] :: M) → Q (.ref x) H') : MakeQ C (sp_Heights___init__ C) E Q [f] H := fun x dx hx hd ne => by
  have w1 : Wf F (upd H dx (.own x)) M := ww.more (same_new hd)
  have hx1 : upd H dx (.own x) x = none := by rw [upd_ne ne.symm]; exact hx
  obtain ⟨I, Mc, w1, ac, hF⟩ := w1.ex
  exact ⟨F, M, x, f, φ, rfl, ⟨I, (x, .ins C dx []) :: Mc, w1.newM hx1, .cons (.mi .nil) ac, hF⟩, hf, fun kd rw H' w' => ⟨rfl, q x kd rw H' w'⟩⟩

theorem ok_Heights___init__ {f : Addr} {fd : FuncData} (F : Fun K "__init__" "Heights.__init__" s_Heights___init__ f fd) (B : Bn mg) (o_Heights : OwnC K C_Heights) (n_Heights : ∀ f ∈ (["measure", "known", "row"] : List Str), NoAttr K C_Heights f)  : FnOk P wd K mg base CX0 1 f fd ["self", "measure"] (sp_Heights___init__ C_Heights) := by
  refine F.ok sc_Heights___init__ (fun vs H Q E h => ?_) (fun cdv A outer s H vs Q E hr h => ?_)
  · obtain ⟨F, M, x, f, φ, rfl, w, hf, k⟩ := h
    all_goals rfl
  · obtain ⟨F, M, x, f, φ, rfl, w, hf, k⟩ := h
    refine ⟨_, (pss_cons (kps_fld (K := K) rfl (pv 0) (pv 1) rfl)
      (pss_cons (kps_fld (K := K) rfl (pv 0) pe_dnewT rfl)
      (pss_one (kps_fld (K := K) rfl (pv 0) (pe_lst pa_nil) rfl)))), ?_⟩
    try dsimp only [cxOf, Cx.nox, Cx.wish, Cx.blk]
    wtm_at "n"
    rename_i H1 w1
    rw [putD_new (by (try simp only [List.nil_append, List.cons_append, List.map_cons, List.map_nil]); decide)] at w1
    clear w
    have w := w1
    clear w1
    refine s_dnewT w fun kd H2 w => ?_
    wtm_at "n"
    rename_i H3 w3 rw H4 w4
    rw [putD_new (by (try simp only [List.nil_append, List.cons_append, List.map_cons, List.map_nil]); decide)] at w4
    refine n_sf (f := "row") (d := .ref rw) w4 (.there (.there .here)) (.ref _) o_Heights.cl n_Heights (by decide) (by simp) fun H5 w => ?_
    rw [putD_new (by (try simp only [List.nil_append, List.cons_append, List.map_cons, List.map_nil]); decide)] at w
    wtm_at "n"
    exact k kd rw _ (w.frzI (.there (.there .here)))
/-! ### what is kept behind a forgetting (k51) -/
abbrev KN := List (List Key × D)
def fgP (key : Str) (kv : List Key × D) : Bool := decide (kv.1.head? ≠ some (.inr key))
def fgt (kn : KN) (key : Str) : KN := kn.filter (fgP key)
def fgI (kn : KN) (key : Str) (i : Nat) : KN := (kn.take i).filter (fgP key) ++ kn.drop i
theorem fgI_zero (kn : KN) (key : Str) : fgI kn key 0 = kn := by simp [fgI]
theorem fgI_end (kn : KN) (key : Str) : fgI kn key kn.length = fgt kn key := by simp [fgI, fgt]
theorem kn_split {kn : KN} {i : Nat} {kv : List Key × D} (h : kn[i]? = some kv) : kn = kn.take i ++ kv :: kn.drop (i + 1) ∧ kn.take (i + 1) = kn.take i ++ [kv] ∧ kn.drop i = kv :: kn.drop (i + 1) := by
  obtain ⟨hl, e⟩ := List.getElem?_eq_some_iff.mp h
  have h1 : kn.drop i = kv :: kn.drop (i + 1) := by rw [← e]; exact List.drop_eq_getElem_cons hl
  have h2 : kn.take (i + 1) = kn.take i ++ [kv] := by rw [List.take_add_one, h]; rfl
  exact ⟨by rw [← h1, List.take_append_drop], h2, h1⟩
theorem fgI_miss {kn : KN} {key : Str} {i : Nat} {kv : List Key × D} (h : kn[i]? = some kv) (hp : fgP key kv = true) : fgI kn key (i + 1) = fgI kn key i := by
  obtain ⟨_, h2, h3⟩ := kn_split h
  unfold fgI
  rw [h2, h3, List.filter_append, List.filter_cons, if_pos hp, List.filter_nil, List.append_assoc]
  rfl
theorem getP_app {A B : KN} {k : List Key} (h : ∀ x ∈ A, x.1 ≠ k) : getP (A ++ B) k = getP B k := by
  unfold getP
  rw [List.find?_append, List.find?_eq_none.mpr (fun x hx => by simpa using h x hx)]
  rfl
theorem dropP_none {A : KN} {k : List Key} (h : ∀ x ∈ A, x.1 ≠ k) : dropP A k = A := List.filter_eq_self.mpr fun x hx => by simpa using h x hx
theorem fgI_hit {kn : KN} {key : Str} {i : Nat} {k : List Key} {d : D} (h : kn[i]? = some (k, d)) (hp : fgP key (k, d) = false) (nd : (kn.map (·.1)).Nodup) : getP (fgI kn key i) k = some d ∧ dropP (fgI kn key i) k = fgI kn key (i + 1) := by
  obtain ⟨h1, h2, h3⟩ := kn_split h
  rw [h1, List.map_append, List.map_cons] at nd
  obtain ⟨_, n2, n3⟩ := List.nodup_append.mp nd
  obtain ⟨n4, _⟩ := List.nodup_cons.mp n2
  have hA : ∀ x ∈ (kn.take i).filter (fgP key), x.1 ≠ k := fun x hx e => n3 x.1 (List.mem_map_of_mem (List.mem_filter.mp hx).1) k (.head _) e
  have hB : ∀ x ∈ kn.drop (i + 1), x.1 ≠ k := fun x hx e => by
    have z := List.mem_map_of_mem (f := fun x : List Key × D => x.1) hx
    rw [e] at z
    exact n4 z
  unfold fgI
  refine ⟨?_, ?_⟩
  · rw [getP_app hA, h3]
    unfold getP
    rw [List.find?_cons, decide_eq_true rfl]
    rfl
  · rw [h2, h3, List.filter_append, List.filter_cons, if_neg (by rw [hp]; decide), List.filter_nil, List.append_nil]
    unfold dropP
    rw [List.filter_append, List.filter_cons, if_neg (by simp)]
    have e1 := dropP_none hA
    have e2 := dropP_none hB
    unfold dropP at e1 e2
    rw [e1, e2]
theorem fgt_len (kn : KN) (key : Str) : (fgt kn key).length ≤ kn.length := List.length_filter_le _ _
theorem fgI_len (kn : KN) (key : Str) (i : Nat) : (fgI kn key i).length ≤ kn.length := by
  unfold fgI
  have := List.length_filter_le (fgP key) (kn.take i)
  rw [List.length_append, List.length_drop]
  rw [List.length_take] at this
  omega
/-- the keys are pairs of a text and a number, the values numbers -/
def KpOk (kn : KN) : Prop := (∀ kv ∈ kn, ∃ (s : Str) (n m : Int), kv = ([.inr s, .inl n], .int m)) ∧ (kn.map (·.1)).Nodup
theorem KpOk.nil : KpOk [] := ⟨fun _ h => (nomatch h), List.nodup_nil⟩
theorem KpOk.fgt {kn : KN} (h : KpOk kn) (key : Str) : KpOk (fgt kn key) := ⟨fun kv hk => h.1 kv (List.mem_filter.mp hk).1, (h.2.sublist (List.Sublist.map _ List.filter_sublist))⟩
theorem KpOk.put {kn : KN} (h : KpOk kn) (s : Str) (n m : Int) (hn : getP kn [.inr s, .inl n] = none) : KpOk (putP kn [.inr s, .inl n] (.int m)) ∧ putP kn [.inr s, .inl n] (.int m) = kn ++ [([.inr s, .inl n], .int m)] := by
  have hno : ∀ x ∈ kn, x.1 ≠ [.inr s, .inl n] := fun x hx e => by
    unfold getP at hn
    rw [Option.map_eq_none_iff] at hn
    have := List.find?_eq_none.mp hn x hx
    simp [e] at this
  have e : putP kn [.inr s, .inl n] (.int m) = kn ++ [([.inr s, .inl n], .int m)] := by
    unfold putP
    rw [if_neg]
    intro z
    obtain ⟨x, hx, hz⟩ := List.any_eq_true.mp z
    exact hno x hx (by simpa using hz)
  rw [e]
  refine ⟨⟨fun kv hk => ?_, ?_⟩, rfl⟩
  · rcases List.mem_append.mp hk with hk | hk
    · exact h.1 kv hk
    · exact ⟨s, n, m, List.mem_singleton.mp hk⟩
  · rw [List.map_append, List.nodup_append]
    exact ⟨h.2, by simp, fun a ha b hb => by
      obtain ⟨x, hx, rfl⟩ := List.mem_map.mp ha
      simp only [List.map_cons, List.map_nil, List.mem_singleton] at hb
      rw [hb]
      exact hno x hx⟩
theorem getP_new {kn : KN} {k : List Key} {d : D} (hn : getP kn k = none) : getP (putP kn k d) k = some d := by
  have hno : ∀ x ∈ kn, x.1 ≠ k := fun x hx e => by
    unfold getP at hn
    rw [Option.map_eq_none_iff] at hn
    have := List.find?_eq_none.mp hn x hx
    simp [e] at this
  have e : putP kn k d = kn ++ [(k, d)] := by
    unfold putP
    rw [if_neg]
    intro z
    obtain ⟨x, hx, hz⟩ := List.any_eq_true.mp z
    exact hno x hx (by simpa using hz)
  rw [e, getP_app hno]
  unfold getP
  rw [List.find?_cons, decide_eq_true rfl]
  rfl
theorem KpOk.at {kn : KN} (h : KpOk kn) {k : List Key} {d : D} (e : getP kn k = some d) : ∃ m : Int, d = .int m := by
  unfold getP at e
  obtain ⟨x, hx, rfl⟩ := Option.map_eq_some_iff.mp e
  obtain ⟨s, n, m, rfl⟩ := h.1 x (List.mem_of_find?_eq_some hx)
  exact ⟨m, rfl⟩
/-! texts that may be keys -/
def Nm (z : Str) : Prop := PyData.strOk z = true ∧ z.length ≤ 60
theorem strOk_all {z : Str} : PyData.strOk z = true ↔ ∀ c ∈ z.cps.toList, c < 0x110000 := by
  unfold PyData.strOk
  rw [Array.all_eq_true']
  constructor
  · intro h c hc
    simpa using h c (by simpa using hc)
  · intro h c hc
    simpa using h c (by simpa using hc)
theorem strOk_app {a b : Str} (ha : PyData.strOk a = true) (hb : PyData.strOk b = true) : PyData.strOk (a ++ b) = true := by
  rw [strOk_all] at *
  intro c hc
  rw [Str.cps_append] at hc
  rw [Array.toList_append] at hc
  rcases List.mem_append.mp hc with h | h
  · exact ha c h
  · exact hb c h
theorem strOk_cut {z : Str} {lo hi : Option Int} (h : PyData.strOk z = true) : PyData.strOk (cutS z lo hi) = true := by
  rw [strOk_all] at *
  intro c hc
  unfold cutS at hc
  simp only [List.toList_toArray] at hc
  exact h c (List.mem_of_mem_drop (List.mem_of_mem_take hc))
theorem strOk_one {c : Nat} (h : c < 0x110000) : PyData.strOk ⟨#[c]⟩ = true := by
  rw [strOk_all]
  intro d hd
  have : d = c := by simpa using hd
  rw [this]; exact h
theorem app_len (a b : Str) : (a ++ b).length = a.length + b.length := by
  show (a ++ b).cps.size = a.cps.size + b.cps.size
  rw [Str.cps_append, Array.size_append]
theorem s_cutN {z : Str} {H : Hp} {Q : VK} {lo hi : Option Int} (hz : z.length ≤ 100000) (h : PyData.strOk z = true) (q : ∀ z' : Str, PyData.strOk z' = true → z'.length ≤ z.length → Q (.str z') H) : rSlS (.str z) lo hi H Q := ⟨z, rfl, small_line hz, q _ (strOk_cut h) cut_len⟩
theorem s_ixN {K : PySem.W.Frag} {H : Hp} {Q : VK} {z : Str} {n : Int} (h0 : 0 ≤ n) (h1 : n < z.length) (hz : z.length ≤ 100000) (h : PyData.strOk z = true) (q : ∀ c, PyData.strOk ⟨#[c]⟩ = true → Q (.str ⟨#[c]⟩) H) : rIx K (.str z) (.int n) H Q := by
  obtain ⟨c, hc, e⟩ := at_nat (l := z.cps.toList) h0 (by rw [Array.length_toList]; exact h1)
  exact .inr (.inr ⟨z, n, c, rfl, rfl, small_line hz, e, q c (strOk_one (strOk_all.mp h c hc))⟩)
theorem abc_len : Str.length "abcdefghijklmnopqrstuvwxyz" = 26 := by decide +kernel
theorem abc_ok : PyData.strOk "abcdefghijklmnopqrstuvwxyz" = true := by decide +kernel
theorem cut_tailL (lg es : List D) : cutD (lg ++ es) (some (lg.length : Int)) none = es := by
  unfold cutD
  rw [HT.sIx_nat, List.length_append, Nat.min_eq_left (by omega)]
  show ((lg ++ es).drop lg.length).take (lg.length + es.length - lg.length) = es
  rw [List.drop_left, List.take_of_length_le (by omega)]
theorem getP_put {κ : Type} [DecidableEq κ] (k z : κ) (d : D) : ∀ kvs : List (κ × D), getP (putP kvs k d) z = if z = k then some d else getP kvs z := by
  have A : ∀ kvs : List (κ × D), getP (kvs.map fun kv => if kv.1 = k then (kv.1, d) else kv) z = if z = k then (getP kvs z).map fun _ => d else getP kvs z := by
    intro kvs
    induction kvs with
    | nil => by_cases h : z = k <;> simp [getP, h]
    | cons kv r ih =>
      unfold getP at ih ⊢
      rw [List.map_cons, List.find?_cons, List.find?_cons]
      have ek : (if kv.1 = k then (kv.1, d) else kv).1 = kv.1 := by split <;> rfl
      rw [ek]
      by_cases hz : kv.1 = z
      · rw [decide_eq_true hz]
        by_cases h : z = k
        · simp [h, hz]
        · simp [h, hz]
      · rw [decide_eq_false hz]
        exact ih
  intro kvs
  unfold putP
  split
  · rename_i hany
    rw [A]
    by_cases h : z = k
    · rw [if_pos h, if_pos h]
      obtain ⟨x, hx, hxk⟩ := List.any_eq_true.mp hany
      have hs : (getP kvs z).isSome = true := by
        unfold getP
        rw [Option.isSome_map, List.find?_isSome]
        exact ⟨x, hx, by rw [h]; exact hxk⟩
      obtain ⟨y, hy⟩ := Option.isSome_iff_exists.mp hs
      rw [hy]
      rfl
    · rw [if_neg h, if_neg h]
  · rename_i hany
    have hno : ∀ x ∈ kvs, x.1 ≠ k := fun x hx e => hany (List.any_eq_true.mpr ⟨x, hx, by simpa using e⟩)
    unfold getP
    rw [List.find?_append]
    by_cases h : z = k
    · rw [if_pos h, h, List.find?_eq_none.mpr (fun x hx => by simpa using hno x hx)]
      simp
    · rw [if_neg h]
      cases e : kvs.find? fun kv => decide (kv.1 = z) with
      | some y => rfl
      | none => simp [Ne.symm h]
theorem putP_len {κ : Type} [DecidableEq κ] (kvs : List (κ × D)) (k : κ) (d : D) : (putP kvs k d).length ≤ kvs.length + 1 := by
  unfold putP
  split <;> simp
theorem putP_lenH {κ : Type} [DecidableEq κ] {kvs : List (κ × D)} {k : κ} {d e : D} (h : getP kvs k = some e) : (putP kvs k d).length = kvs.length := by
  unfold putP
  rw [if_pos]
  · rw [List.length_map]
  · unfold getP at h
    obtain ⟨x, hx, _⟩ := Option.map_eq_some_iff.mp h
    exact List.any_eq_true.mpr ⟨x, List.mem_of_find?_eq_some hx, List.find?_some (p := fun kv : κ × D => decide (kv.1 = k)) hx⟩
theorem s_midH {t : TS} {G : Ends} {σ : L2.St} {H : Hp} (Mid : L2.St → Hp → Prop) (k : ∀ σ H, Mid σ H → G.nx σ H) (h : ∀ N : L2.St → Hp → Prop, (∀ σ2 H2, Mid σ2 H2 → N σ2 H2) → t { G with nx := N } σ H) : t G σ H := h _ k
/-- a comprehension over a range whose items leave new things behind -/
theorem n_lcW {xs : List Nat} {lo : Int} {n : Nat} {g : TG} {tt : TT} {te : TE} {σ : L2.St} {H : Hp} {F : List (V × D)} {M : List ME} {Q : VK} (w : Wf F H M) (R : Nat → List D → List (V × D) → List ME → Prop) (h0 : R 0 [] F M) (hn : n ≤ 100000)
    (step : ∀ i D acc H0 F0 M0 (Ap : VK) (Sk : Hp → Prop), i < n → R i acc F0 M0 → Wf F0 H0 (.ml D acc :: M0) → (∀ y d H4 F4 M4, Wf ((y, d) :: F4) H4 (.ml D acc :: M4) → R (i + 1) (acc ++ [d]) F4 M4 → Ap y H4) →
      g (.int (lo + i)) (wipe σ xs) H0 fun σ2 H2 => wipe σ2 xs = wipe σ xs ∧ tt σ2 H2 fun b H3 => if b = true then te σ2 H3 Ap else Sk H3)
    (q : ∀ p es H' F' M', R n es F' M' → Wf F' H' (.ml p es :: M') → Q (.ref p) H') : LcGo (Itr lo n) g tt te xs σ Q H := by
  intro D nD
  have w0 : Wf F (upd H D (.lst [])) (.ml D [] :: M) := by
    obtain ⟨I, Mc, w, a, hF⟩ := w.ex
    exact ⟨I, _, w.newM nD, .cons (.ml .nil) a, hF⟩
  refine ⟨fun i m G => m = n - i ∧ i ≤ n ∧ ∃ acc F0 M0, R i acc F0 M0 ∧ acc.length ≤ i ∧ Wf F0 G (.ml D acc :: M0), ⟨n, rfl, Nat.zero_le _, [], F, M, h0, Nat.le_refl _, w0⟩, ?_⟩
  rintro i m G ⟨rfl, hi, acc, F0, M0, hR, hl, w⟩
  by_cases hlt : i < n
  · refine .inr ⟨src_range.go i G _ _ hlt trivial w, fun G' => ∃ acc F4 M4, R (i + 1) acc F4 M4 ∧ acc.length ≤ i + 1 ∧ Wf F4 G' (.ml D acc :: M4), fun G' ⟨acc', F4, M4, h1, h2, h3⟩ => ⟨n - (i + 1), by omega, rfl, hlt, acc', F4, M4, h1, h2, h3⟩, fun x G' y => ?_⟩
    have w2 := src_range.yld i G _ _ x G' hlt trivial w y
    rw [w2.eq0.1]
    refine step i D acc G' F0 M0 _ _ hlt hR w2.eq0.2 fun y d H4 F4 M4 w4 r => ?_
    obtain ⟨vs, h1, h2⟩ := w4.lstAt List.mem_cons_self
    have w5 : Wf F4 (upd H4 D (.lst (vs ++ [y]))) (.ml D (acc ++ [d]) :: M4) := by
      obtain ⟨I, Mc, w, a, hF⟩ := w4.ex
      cases a with
      | cons h a =>
        cases h with
        | ml b =>
          have := w.at0
          rw [this] at h1
          cases h1
          exact ⟨I, _, w.put0, .cons (.ml (b.app (.one (hF _ List.mem_cons_self)))) a, fun f hf => hF f (List.mem_cons_of_mem _ hf)⟩
    exact ⟨vs, h1, by rw [h2]; exact Nat.lt_of_le_of_lt hl (Nat.lt_of_lt_of_le hlt (Nat.le_trans hn (by decide))), acc ++ [d], F4, M4, r, by rw [List.length_append]; exact Nat.add_le_add_right hl 1, w5⟩
  · have e : i = n := by omega
    subst e
    exact .inl ⟨src_range.stop G _ _ trivial w, q D acc G F0 M0 hR w⟩
/-- what a lambda within a comprehension closes over: two names of the def around -/
theorem clo2 {cells : List (Str × Addr)} {bn ln : List (Str × NameKind)} {y z : Str} (ne : y ≠ z) (hb : ((bn.filter fun p => p.2 == .free).map fun p => p.1) = [z, y] ∨ ((bn.filter fun p => p.2 == .free).map fun p => p.1) = [y, z]) (hl : ((ln.filter fun p => p.2 == .free).map fun p => p.1) = [z, y]) : cloFrom (cloFrom cells bn []) ln [] = [(y, (cells.lookup y).getD 0), (z, (cells.lookup z).getD 0)] := by
  have go : ∀ (cs : List (Str × Addr)) (ns : List (Str × NameKind)), cloFrom cs ns [] = (((ns.filter fun p => p.2 == .free).map fun p => p.1).map fun n => (n, (cs.lookup n).getD 0)).reverse := fun cs ns => by
    rw [cloFrom_app, List.append_nil, List.map_map]
    rfl
  rw [go, hl, go cells bn]
  have e1 : (y == z) = false := beq_false_of_ne ne
  have e2 : (z == y) = false := beq_false_of_ne (Ne.symm ne)
  rcases hb with hb | hb <;> rw [hb] <;> simp [List.lookup_cons, e1, e2]
theorem cells_nd : ∀ (names : List (Str × NameKind)) (n : Nat) (acc : List (Str × Addr)), (∀ p ∈ acc, p.2 < n) → (acc.map (·.2)).Nodup → ((cellsFrom n names acc).map (·.2)).Nodup
  | [], _, _, _, h => h
  | (y, k) :: r, n, acc, ha, h => by
    unfold cellsFrom
    split
    · exact cells_nd r (n + 1) _ (fun p hp => by
        rcases List.mem_cons.mp hp with rfl | hp
        · exact Nat.lt_succ_self _
        · exact Nat.lt_succ_of_lt (ha p hp)) (by
        rw [List.map_cons]
        refine List.nodup_cons.mpr ⟨fun hm => ?_, h⟩
        obtain ⟨p, hp, e⟩ := List.mem_map.mp hm
        exact Nat.lt_irrefl _ (by have := ha p hp; rw [e] at this; exact this))
    · exact cells_nd r n acc ha h
theorem cells_acc : ∀ (names : List (Str × NameKind)) (n : Nat) (acc : List (Str × Addr)), ∀ p ∈ acc, p ∈ cellsFrom n names acc
  | [], _, _, p, hp => hp
  | (y, k) :: r, n, acc, p, hp => by
    unfold cellsFrom
    split
    · exact cells_acc r _ _ p (.tail _ hp)
    · exact cells_acc r _ _ p hp
theorem cells_has : ∀ (names : List (Str × NameKind)) (n : Nat) (acc : List (Str × Addr)) (y : Str), (names.any fun p => decide (p.1 = y) && (p.2 == .cell)) = true → ∃ c, (y, c) ∈ cellsFrom n names acc
  | [], _, _, _, h => by simp at h
  | (z, k) :: r, n, acc, y, h => by
    unfold cellsFrom
    rw [List.any_cons, Bool.or_eq_true] at h
    split
    · rename_i hk
      rcases h with h | h
      · simp only [Bool.and_eq_true, decide_eq_true_eq] at h
        exact ⟨n, cells_acc r _ _ _ (by rw [h.1]; exact .head _)⟩
      · exact cells_has r _ _ y h
    · rename_i hk
      rcases h with h | h
      · simp only [Bool.and_eq_true, decide_eq_true_eq] at h
        exact absurd h.2 (by simpa using hk)
      · exact cells_has r _ _ y h
theorem cells_ne {names : List (Str × NameKind)} {n : Nat} {y z : Str} (hy : (names.any fun p => decide (p.1 = y) && (p.2 == .cell)) = true) (hz : (names.any fun p => decide (p.1 = z) && (p.2 == .cell)) = true) (ne : y ≠ z) : ((cellsFrom n names []).lookup y).getD 0 ≠ ((cellsFrom n names []).lookup z).getD 0 := by
  obtain ⟨c, hc⟩ := cells_has names n [] y hy
  obtain ⟨d, hd⟩ := cells_has names n [] z hz
  obtain ⟨c', ec⟩ := L2.mem_lookup hc
  obtain ⟨d', ed⟩ := L2.mem_lookup hd
  rw [ec, ed]
  intro e
  have e : c' = d' := e
  have m1 := PySem.mem_of_lookup ec
  have m2 := PySem.mem_of_lookup ed
  rw [← e] at m2
  have nd := cells_nd names n [] (fun _ h => (nomatch h)) List.nodup_nil
  obtain ⟨i, hi⟩ := List.mem_iff_getElem?.mp m1
  obtain ⟨j, hj⟩ := List.mem_iff_getElem?.mp m2
  have k1 : ((cellsFrom n names []).map (·.2))[i]? = some c' := by rw [List.getElem?_map, hi]; rfl
  have k2 : ((cellsFrom n names []).map (·.2))[j]? = some c' := by rw [List.getElem?_map, hj]; rfl
  obtain ⟨l1, _⟩ := List.getElem?_eq_some_iff.mp k1
  have ij : i = j := (List.getElem?_inj l1 nd).mp (k1.trans k2.symm)
  rw [ij, hj] at hi
  exact ne (by injection hi with h; injection h with h1 _; exact h1.symm)

abbrev s_Heights_height_of : Stmt := inClass (top 1) 1
theorem sc_Heights_height_of : FnScope ["self", "key", "wide", "measure"] ["self", "key", "wide"] (defScope s_Heights_height_of) := ⟨rfl, rfl, rfl, by decide +kernel, rfl, by decide +kernel, by decide +kernel⟩
def msr (a b wide : Int) : Int := (a + b / (wide + 1)) % 1000001
def spMeas (ca cb : Addr) : Sp := fun vs H Q _ => ∃ F M pt pl tb lg key wide a b, vs = [.str key, .int wide] ∧ Wf F H (.cel ca (.ref pt) :: .cel cb (.ref pl) :: .dk pt tb :: .ml pl lg :: M) ∧ getP tb (.inr key) = some (.tup [.int a, .int b]) ∧ 0 ≤ wide ∧ wide ≤ 1000000000000 ∧ 0 ≤ a ∧ a ≤ 1000000 ∧ 0 ≤ b ∧ b ≤ 1000000000 ∧ lg.length ≤ 10000 ∧ ∀ H', Wf F H' (.cel ca (.ref pt) :: .cel cb (.ref pl) :: .dk pt tb :: .ml pl (lg ++ [.tup [.str key, .int wide]]) :: M) → Q (.int (msr a b wide)) H'
def meD (P : Program) (wd : World) (K : PySem.W.Frag) (mg : Str → Option Value) (base : Heap) (ca cb : Addr) : V → Hp → Prop := FnV P wd K mg base 8 (spMeas ca cb)
def sp_Heights_height_of (P : Program) (wo : World) (K : PySem.W.Frag) (mg : Str → Option Value) (base : Heap) (C : Addr) : Sp := fun vs H Q _ => ∃ F M x kd rw ca cb pt pl tb lg kn as key wide a b, vs = [.ref x, .str key, .int wide] ∧ Wf F H (.dt kd kn :: .ml rw as :: .cel ca (.ref pt) :: .cel cb (.ref pl) :: .dk pt tb :: .ml pl lg :: M) ∧ Kn F (.ref x) (hgO C kd rw (meD P wo K mg base ca cb)) ∧ KpOk kn ∧ kn.length ≤ 1000 ∧ as.length ≤ 1000 ∧ getP tb (.inr key) = some (.tup [.int a, .int b]) ∧ 0 ≤ wide ∧ wide ≤ 1000000000000 ∧ 0 ≤ a ∧ a ≤ 1000000 ∧ 0 ≤ b ∧ b ≤ 1000000000 ∧ lg.length ≤ 10000 ∧
  (∀ m H', getP kn [.inr key, .inl wide] = some (.int m) → Wf F H' (.dt kd kn :: .ml rw as :: .cel ca (.ref pt) :: .cel cb (.ref pl) :: .dk pt tb :: .ml pl lg :: M) → Q (.int m) H') ∧
  (∀ H', getP kn [.inr key, .inl wide] = none → Wf F H' (.dt kd (kn ++ [([.inr key, .inl wide], .int (msr a b wide))]) :: .ml rw (as ++ [.tup [.str key, .int wide]]) :: .cel ca (.ref pt) :: .cel cb (.ref pl) :: .dk pt tb :: .ml pl (lg ++ [.tup [.str key, .int wide]]) :: M) → Q (.int (msr a b wide)) H')

theorem ok_Heights_height_of {f : Addr} {fd : FuncData} (F : Fun K "height_of" "Heights.height_of" s_Heights_height_of f fd) (B : Bn mg) (o_Heights : OwnC K C_Heights) (n_Heights : ∀ f ∈ (["measure", "known", "row"] : List Str), NoAttr K C_Heights f)  : FnOk P wd K mg base CX0 9 f fd ["self", "key", "wide"] (sp_Heights_height_of P wd K mg base C_Heights) := by
  refine F.ok sc_Heights_height_of (fun vs H Q E h => ?_) (fun cdv A outer s H vs Q E hr h => ?_)
  · obtain ⟨F, M, x, kd, rw, ca, cb, pt, pl, tb, lg, kn, as, key, wide, a, b, rfl, w, hx, ok, hkl, hal, hg, w0, w1, a0, a1, b0, b1, hll, k1, k2⟩ := h
    all_goals rfl
  · obtain ⟨F, M, x, kd, rw, ca, cb, pt, pl, tb, lg, kn, as, key, wide, a, b, rfl, w, hx, ok, hkl, hal, hg, w0, w1, a0, a1, b0, b1, hll, k1, k2⟩ := h
    refine ⟨_, (pss_cons (ps_if (pt_cmp (pc_dnotin (hu1 hr.units) (pe_tup (pa_cons (pv 1) (pa_cons (pv 2) pa_nil))) (kpe_fld (K := K) rfl (pv 0) rfl))) (pss_cons (ps_set (i := 3) sc_Heights_height_of.nd rfl (Or.inl rfl) (kpe_fld (K := K) rfl (pv 0) rfl))
      (pss_cons (ps_expr (pe_bm PySem.F.plainAttrs_list PySem.F.slot_list_append PySem.F.type_list_append mt_append (kpe_fld (K := K) rfl (pv 0) rfl) (pa_cons (pe_tup (pa_cons (pv 1) (pa_cons (pv 2) pa_nil))) pa_nil)))
      (pss_one (ps_dput (hu1 hr.units) (kpe_fld (K := K) rfl (pv 0) rfl) (pe_tup (pa_cons (pv 1) (pa_cons (pv 2) pa_nil))) (pe_callV (i := 3) (k := 8) rfl (Or.inl rfl) (hr.mono (by decide)) (pa_cons (pv 1) (pa_cons (pv 2) pa_nil))) rfl)))) pss_nil)
      (pss_one (ps_ret (pe_dget (hu1 hr.units) (kpe_fld (K := K) rfl (pv 0) rfl) (pe_tup (pa_cons (pv 1) (pa_cons (pv 2) pa_nil))) (fun _ _ => rfl))))), ?_⟩
    try dsimp only [cxOf, Cx.nox, Cx.wish, Cx.blk]
    rw [show L2.start (["self", "key", "wide", "measure"] : List Str) [.ref x, .str key, .int wide] = [some (.ref x), some (.str key), some (.int wide), none] from rfl]
    have hx2 : Rk F (.dt kd kn :: .ml rw as :: .cel ca (.ref pt) :: .cel cb (.ref pl) :: .dk pt tb :: .ml pl lg :: M) (.ref x) (.obj C_Heights [("measure", .fact (meD P wd K mg base ca cb)), ("known", .ref kd), ("row", .ref rw)]) := .of hx (by simp)
    wtm_at "n"
    rename_i pk H1 w2
    clear w hx2
    refine n_dinT (k := [.inr key, .inl wide]) w2 (.head _) (.mem (.head _)) ?_
    cases hkn : getP kn [.inr key, .inl wide] with
    | some d =>
      rw [Option.isSome_some]
      obtain ⟨m, rfl⟩ := ok.at hkn
      have hx2 : Rk ((V.ref pk, .tup [.str key, .int wide]) :: F) (.dt kd kn :: .ml rw as :: .cel ca (.ref pt) :: .cel cb (.ref pl) :: .dk pt tb :: .ml pl lg :: M) (.ref x) (.obj C_Heights [("measure", .fact (meD P wd K mg base ca cb)), ("known", .ref kd), ("row", .ref rw)]) := .of hx.more (by simp)
      wtm_at "n"
      rename_i pk2 H2 w3
      refine n_dgetT (k := [.inr key, .inl wide]) w3 (.head _) (.mem (.head _)) hkn fun u w => ?_
      have e := (w.rd (.mem (.head _)) : Is _ u (.int m)).int_eq
      subst e
      wtm_at "n"
      exact k1 m _ hkn (w.sub (fun f hf => .mem (by simp [hf])) (.refl _))
    | none =>
      rw [Option.isSome_none]
      have hx2 : Rk ((V.ref pk, .tup [.str key, .int wide]) :: F) (.dt kd kn :: .ml rw as :: .cel ca (.ref pt) :: .cel cb (.ref pl) :: .dk pt tb :: .ml pl lg :: M) (.ref x) (.obj C_Heights [("measure", .fact (meD P wd K mg base ca cb)), ("known", .ref kd), ("row", .ref rw)]) := .of hx.more (by simp)
      wtm_at "n"
      rename_i u wu pk3 H3 w3 H4 w4
      clear wu w3 hx2
      refine ⟨_, rfl, n_isFn (sp := spMeas ca cb) w4 (.mem (.tail _ (.head _))), ?_⟩
      wtm_at "n"
      have w5 : Wf _ H4 (.cel ca (.ref pt) :: .cel cb (.ref pl) :: .dk pt tb :: .ml pl lg :: .dt kd kn :: .ml rw (as ++ [.tup [.str key, .int wide]]) :: M) := Wf.perm w4 ((List.perm_append_comm (l₁ := [_, _]) (l₂ := [_, _, _, _])).append_right _)
      clear w4
      refine n_callV (sp := spMeas ca cb) w5 (.mem (.tail _ (.head _))) ⟨_, _, pt, pl, tb, lg, key, wide, a, b, rfl, w5, hg, w0, w1, a0, a1, b0, b1, hll, fun H5 w => ?_⟩
      replace w : Wf _ H5 (.dt kd kn :: .ml rw (as ++ [.tup [.str key, .int wide]]) :: .cel ca (.ref pt) :: .cel cb (.ref pl) :: .dk pt tb :: .ml pl (lg ++ [.tup [.str key, .int wide]]) :: M) := Wf.perm w ((List.perm_append_comm (l₁ := [_, _, _, _]) (l₂ := [_, _])).append_right _)
      clear w5
      have w6 : Wf ((u, D.fact (meD P wd K mg base ca cb)) :: F) H5 (.dt kd kn :: .ml rw (as ++ [.tup [.str key, .int wide]]) :: .cel ca (.ref pt) :: .cel cb (.ref pl) :: .dk pt tb :: .ml pl (lg ++ [.tup [.str key, .int wide]]) :: M) := w.sub (fun f hf => .mem (by rcases List.mem_cons.mp hf with rfl | hf <;> simp_all)) (.refl _)
      clear w
      have hx2 : Rk ((u, D.fact (meD P wd K mg base ca cb)) :: F) (.dt kd kn :: .ml rw (as ++ [.tup [.str key, .int wide]]) :: .cel ca (.ref pt) :: .cel cb (.ref pl) :: .dk pt tb :: .ml pl (lg ++ [.tup [.str key, .int wide]]) :: M) (.ref x) (.obj C_Heights [("measure", .fact (meD P wd K mg base ca cb)), ("known", .ref kd), ("row", .ref rw)]) := .of hx.more (by simp)
      wtm_at "n"
      rename_i pk4 H6 w7
      clear w6 hx2
      refine n_dputT (k := [.inr key, .inl wide]) (d := .int (msr a b wide)) w7 .here (.mem (.head _)) (.int _) (by omega) fun H7 w => ?_
      rw [(ok.put key wide (msr a b wide) hkn).2] at w
      clear w7
      have hx2 : Rk ((V.ref pk4, D.tup [D.str key, D.int wide]) :: (u, D.fact (meD P wd K mg base ca cb)) :: F) (.dt kd (kn ++ [([.inr key, .inl wide], .int (msr a b wide))]) :: .ml rw (as ++ [.tup [.str key, .int wide]]) :: .cel ca (.ref pt) :: .cel cb (.ref pl) :: .dk pt tb :: .ml pl (lg ++ [.tup [.str key, .int wide]]) :: M) (.ref x) (.obj C_Heights [("measure", .fact (meD P wd K mg base ca cb)), ("known", .ref kd), ("row", .ref rw)]) := .of hx.more.more (by simp)
      wtm_at "n"
      rename_i pk5 H8 w8
      clear w hx2
      have hnew : getP (kn ++ [(([.inr key, .inl wide] : List Key), D.int (msr a b wide))]) [.inr key, .inl wide] = some (.int (msr a b wide)) := by
        rw [← (ok.put key wide (msr a b wide) hkn).2]
        exact getP_new hkn
      refine n_dgetT (k := [.inr key, .inl wide]) w8 (.head _) (.mem (.head _)) hnew fun v w => ?_
      have e := (w.rd (.mem (.head _)) : Is _ v (.int (msr a b wide))).int_eq
      subst e
      wtm_at "n"
      exact k2 _ hkn (w.sub (fun f hf => .mem (by simp [hf])) (.refl _))
abbrev s_Heights_forget : Stmt := inClass (top 1) 2
theorem sc_Heights_forget : FnScope ["self", "key", "pair"] ["self", "key"] (defScope s_Heights_forget) := ⟨rfl, rfl, rfl, by decide +kernel, rfl, by decide +kernel, by decide +kernel⟩
def sp_Heights_forget (C : Addr) : Sp := fun vs H Q _ => ∃ F M x kd rw φ kn, ∃ (key : Str), vs = [.ref x, .str key] ∧ Wf F H (.dt kd kn :: M) ∧ Kn F (.ref x) (hgO C kd rw φ) ∧ KpOk kn ∧ kn.length ≤ 1000 ∧ ∀ H', Wf F H' (.dt kd (fgt kn key) :: M) → Q .non H'
theorem n_forget {C : Addr} {F : List (V × D)} {H : Hp} {M : List ME} {x kd rw : Addr} {φ : V → Hp → Prop} {kn : KN} {key : Str} {Q : VK} {E : XK} (w : Wf F H (.dt kd kn :: M)) (hx : Kn F (.ref x) (hgO C kd rw φ)) (ok : KpOk kn) (hl : kn.length ≤ 1000) (q : ∀ H', Wf F H' (.dt kd (fgt kn key) :: M) → Q .non H') : sp_Heights_forget C ([.ref x, .str key] ++ []) H Q E := ⟨F, M, x, kd, rw, φ, kn, key, rfl, w, hx, ok, hl, q⟩

theorem ok_Heights_forget {f : Addr} {fd : FuncData} (F : Fun K "forget" "Heights.forget" s_Heights_forget f fd) (B : Bn mg) (o_Heights : OwnC K C_Heights) (n_Heights : ∀ f ∈ (["measure", "known", "row"] : List Str), NoAttr K C_Heights f)  : FnOk P wd K mg base CX0 1 f fd ["self", "key"] (sp_Heights_forget C_Heights) := by
  refine F.ok sc_Heights_forget (fun vs H Q E h => ?_) (fun cdv A outer s H vs Q E hr h => ?_)
  · obtain ⟨F, M, x, kd, rw, φ, kn, key, rfl, w, hx, ok, hl, k⟩ := h
    all_goals rfl
  · obtain ⟨F, M, x, kd, rw, φ, kn, key, rfl, w, hx, ok, hl, k⟩ := h
    refine ⟨_, (pss_one (ps_for PassesOwn.never rfl (kpi_list (K := K) rfl (pe_callTy (k_listKG rfl) (by rfl) B.list_ (by decide +kernel) (pa_cons (kpe_fld (K := K) rfl (pv 0) rfl) pa_nil))) (pg_name (i := 2) sc_Heights_forget.nd rfl (Or.inl rfl)) (pss_one (ps_if (pt_cmpR (k_eq (K := K) rfl hr.units) (pe_ix (k_ix (K := K) rfl) (pv 2) pe_int (fun _ _ => rfl)) (pv 1) (nomark _)) (pss_one (ps_expr (pe_dpopT (hu1 hr.units) (kpe_fld (K := K) rfl (pv 0) rfl) (pv 2) ⟨rfl, rfl, rfl, rfl⟩))) pss_nil)))), ?_⟩
    try dsimp only [cxOf, Cx.nox, Cx.wish, Cx.blk]
    have hx2 : Rk F (.dt kd kn :: M) (.ref x) (.obj C_Heights [("measure", .fact φ), ("known", .ref kd), ("row", .ref rw)]) := .of hx (by simp)
    wtm_at "n"
    refine n_listKG w (.head _) fun l H1 w => ?_
    clear hx2
    refine n_forL w (ds := kn.map fun kv => tupK kv.1) (fun i σ' F' M' => ∃ x2, σ' = [some (.ref x), some (.str key), x2] ∧ F = F' ∧ M' = .ml l (kn.map fun kv => tupK kv.1) :: .dt kd (fgI kn key i) :: M) (by rintro i σ' F' M' ⟨_, rfl, rfl, rfl⟩; exact .ml (.head _)) ⟨_, rfl, rfl, by rw [fgI_zero]⟩ ?_ ?_
    · clear w
      rintro i d z σ' H2 F' M' hd ⟨x2, rfl, rfl, rfl⟩ w
      rw [List.getElem?_map] at hd
      obtain ⟨kv, hkv, rfl⟩ := Option.map_eq_some_iff.mp hd
      obtain ⟨s, n, m, rfl⟩ := ok.1 kv (List.mem_of_getElem? hkv)
      replace w : Wf ((z, .tup [.str s, .int n]) :: F) H2 (.ml l (kn.map fun kv => tupK kv.1) :: .dt kd (fgI kn key i) :: M) := w
      have hx2 : Rk ((z, .tup [.str s, .int n]) :: F) (.ml l (kn.map fun kv => tupK kv.1) :: .dt kd (fgI kn key i) :: M) (.ref x) (.obj C_Heights [("measure", .fact φ), ("known", .ref kd), ("row", .ref rw)]) := .of hx.more (by simp)
      wtm_at "n"
      rename_i u wu
      have e0 := (wu.rd (.mem (.head _)) : Is _ u (.str s)).str_eq
      subst e0
      clear wu
      wtm_at "n"
      by_cases he : s = key
      · subst he
        wtm_at "n"
        refine s_dpopT ?_
        wtm_at "n"
        obtain ⟨g1, g2⟩ := fgI_hit hkv (key := s) (by unfold fgP; simp) ok.2
        refine n_dOn w (.tail _ (.head _)) ?_
        wtm_at "n"
        refine n_dpopT (k := [.inr s, .inl n]) w (.there .here) (.mem (.head _)) g1 fun u H3 w => ?_
        rw [g2] at w
        wtm_at "n"
        exact ⟨_, _, ⟨_, rfl, rfl, rfl⟩, w.sub (fun f hf => .mem (by simp [hf])) (.refl _)⟩
      · rw [decide_eq_false (show ¬ V.str s = V.str key from fun h => he (V.str.inj h))]
        wtm_at "n"
        exact ⟨_, _, ⟨_, rfl, rfl, by rw [fgI_miss hkv (by unfold fgP; simp [he])]⟩, w.tail⟩
    · clear w
      rintro σ' H2 F' M' ⟨x2, rfl, rfl, rfl⟩ w
      rw [List.length_map, fgI_end] at w
      wtm_at "n"
      exact k _ (w.sub KS.refl (.cons _ (.refl _)))
abbrev s_Heights_asked : Stmt := inClass (top 1) 3
theorem sc_Heights_asked : FnScope ["self"] ["self"] (defScope s_Heights_asked) := ⟨rfl, rfl, rfl, by decide +kernel, rfl, by decide +kernel, by decide +kernel⟩
def sp_Heights_asked (C : Addr) : Sp := fun vs H Q _ => ∃ F M x kd rw φ as, vs = [.ref x] ∧ Wf F H M ∧ Kn F (.ref x) (hgO C kd rw φ) ∧ .ml rw as ∈ M ∧ ∀ p H', Wf F H' (.ml p as :: M) → Q (.ref p) H'
theorem n_asked {C : Addr} {F : List (V × D)} {H : Hp} {M : List ME} {x kd rw : Addr} {φ : V → Hp → Prop} {as : List D} {Q : VK} {E : XK} (w : Wf F H M) (hx : Kn F (.ref x) (hgO C kd rw φ)) (hr : .ml rw as ∈ M) (q : ∀ p H', Wf F H' (.ml p as :: M) → Q (.ref p) H') : sp_Heights_asked C ([.ref x] ++ []) H Q E := ⟨F, M, x, kd, rw, φ, as, rfl, w, hx, hr, q⟩

theorem ok_Heights_asked {f : Addr} {fd : FuncData} (F : Fun K "asked" "Heights.asked" s_Heights_asked f fd) (B : Bn mg) (o_Heights : OwnC K C_Heights) (n_Heights : ∀ f ∈ (["measure", "known", "row"] : List Str), NoAttr K C_Heights f)  : FnOk P wd K mg base CX0 1 f fd ["self"] (sp_Heights_asked C_Heights) := by
  refine F.ok sc_Heights_asked (fun vs H Q E h => ?_) (fun cdv A outer s H vs Q E hr h => ?_)
  · obtain ⟨F, M, x, kd, rw, φ, as, rfl, w, hx, hr, k⟩ := h
    all_goals rfl
  · obtain ⟨F, M, x, kd, rw, φ, as, rfl, w, hx, hr, k⟩ := h
    refine ⟨_, (pss_one (ps_ret (pe_callTy (k_list (K := K) rfl) (by rfl) B.list_ (by decide +kernel) (pa_cons (kpe_fld (K := K) rfl (pv 0) rfl) pa_nil)))), ?_⟩
    try dsimp only [cxOf, Cx.nox, Cx.wish, Cx.blk]
    have hx2 : Rk F M (.ref x) (.obj C_Heights [("measure", .fact φ), ("known", .ref kd), ("row", .ref rw)]) := .of hx (by simp)
    wtm_at "n"
    rename_i p H1 w1
    exact k p _ w1
abbrev s__law_bag : Stmt := top 3
theorem sc__law_bag : FnScope ["_law_script", "_law_cell"] ["_law_script"] (defScope s__law_bag) := ⟨rfl, rfl, rfl, by decide +kernel, rfl, by decide +kernel, by decide +kernel⟩
def sp__law_bag (K : PySem.W.Frag) : Sp := fun vs H Q _ => ∃ I M a, ∃ ns : List Int, vs = [.ref a] ∧ W I H M ∧ SqL K H a (ns.map V.int) ∧ ∀ p c o J H', Same I J → W J H' ((p, o) :: M) → Bag J c o → Q (.ref p) H'
theorem use_bag {K : PySem.W.Frag} {H : Hp} {a : Addr} {ns : List Int} {Q : VK} {E : XK} (hS : SqL K H a (ns.map V.int)) (q : ∀ p c o J H', W J H' ((p, o) :: []) → Bag J c o → Q (.ref p) H') : sp__law_bag K ([.ref a] ++ []) H Q E :=
  ⟨_, _, a, ns, rfl, W.zero, hS, fun p c o J H' _ w b => q p c o J H' w b⟩
theorem n_bag {K : PySem.W.Frag} {H : Hp} {a : Addr} {ns : List Int} {Q : VK} {E : XK} (hS : SqL K H a (ns.map V.int)) (q : ∀ p H', Wf [] H' [.bag p] → Q (.ref p) H') : sp__law_bag K ([.ref a] ++ []) H Q E :=
  use_bag hS fun p c o J H' w hb => q p H' ⟨J, _, w, .cons (.bag hb) .nil, fun _ h => nomatch h⟩

theorem ok__law_bag {f : Addr} {fd : FuncData} (F : Fun K "_law_bag" "_law_bag" s__law_bag f fd) (B : Bn mg)  : FnOk P wd K mg base CX0 1 f fd ["_law_script"] (sp__law_bag K) := by
  refine F.ok sc__law_bag (fun vs H Q E h => ?_) (fun cdv A outer s H vs Q E hr h => ?_)
  · obtain ⟨I, M, a, ns, rfl, w, hS, k⟩ := h
    all_goals rfl
  · obtain ⟨I, M, a, ns, rfl, w, hS, k⟩ := h
    refine ⟨_, (pss_one (ps_ret (pe_lst (pa_cons pe_int (pa_cons pe_int (pa_cons pe_int (pa_cons (pe_lc (own := [("_law_cell", 1)]) (by rfl) sc__law_bag.nd (kpi_list (K := K) rfl (pe_slice (k_sl (K := K) rfl) (pv 0) po_none (po_some pe_int))) (blkOk_by (own := [("_law_cell", 1)]) (N := ["_law_script", "_law_cell"]) (sc := defScope s__law_bag) (by decide +kernel)) (fun _ _ _ _ _ => (pg_name (i := 1) sc__law_bag.nd rfl (Or.inl rfl))) (fun _ _ _ _ _ => pts_nil) (fun _ _ _ _ _ => (pe_callB uc_abs (by rfl) B.abs_ (by decide +kernel) (pa_cons (pv 1) pa_nil)))) pa_nil))))))), ?_⟩
    try dsimp only [cxOf, Cx.nox, Cx.wish, Cx.blk]
    wtm_at "go"
    obtain ⟨ms, hm⟩ := cut63 ns none (some 63)
    refine s_slK hS fun p np => ?_
    rw [hm]
    have w1 := w.newI (o := .lst (ms.map V.int)) np
    have s1 : Same I (upd I p (.lst (ms.map V.int))) := w.same np
    refine s_iL' w1 (.lst upd_same (IsA.ints ms)) fun a' vs' ea ha hA => ?_
    cases ea
    rw [upd_same] at ha
    cases ha
    intro D nD
    have w2 := w1.newM (o := .lst []) nD
    refine lc_it (walk_list (xs := ms.map V.int)) (fun i H' => ∃ acc : List Int, W (upd I p (.lst (ms.map V.int))) H' ((D, .lst (acc.map V.int)) :: M) ∧ acc.length = i ∧ ∀ n ∈ acc, 0 ≤ n) ⟨[], w2, rfl, fun _ h => nomatch h⟩ (fun i H' _ ⟨acc, w3, _⟩ => .inl (.inl (w3.imm _ _ upd_same))) ?_ ?_
    · rintro i x H3 H4 hi ⟨acc, w3, hl, hp⟩ ⟨rfl, e⟩
      obtain ⟨z, rfl⟩ : ∃ z, x = V.int z := by
        rw [List.getElem?_map] at e
        cases q : ms[i]? with
        | none => rw [q] at e; cases e
        | some z => rw [q] at e; exact ⟨z, (Option.some.inj e).symm⟩
      refine s_gname ⟨rfl, ?_⟩
      wtm_at "go"
      have hlen : acc.length < 16777216 := by
        rw [hl]
        have := (List.getElem?_eq_some_iff.mp e).1
        have h5 : (ms.map V.int).length ≤ 64 := by
          rw [← hm]
          unfold cutV
          rw [List.length_take]
          have : HT.sIx (ns.map V.int).length (ns.map V.int).length (some 63) ≤ 63 := by
            show min (63 : Int).toNat _ ≤ 63
            exact Nat.min_le_left _ _
          omega
        omega
      refine ⟨_, w3.at0, (by rw [List.length_map]; exact Nat.lt_of_lt_of_le hlen (by decide)), acc ++ [if z < 0 then -z else z], ?_, by rw [List.length_append, hl]; rfl, fun n hn => ?_⟩
      · have q := w3.put0 (o' := .lst (acc.map V.int ++ [V.int (if z < 0 then -z else z)]))
        rw [List.map_append]
        exact q
      · rcases List.mem_append.mp hn with h | h
        · exact hp n h
        · rw [List.mem_singleton.mp h]
          split <;> omega
    · rintro H3 ⟨acc, w3, _, hp⟩
      obtain ⟨J, s2, w4, h4⟩ := w3.done0 (IsA.ints acc)
      wtm_at "go"
      refine s_newM w4 (by simp) fun q H5 w5 => ?_
      obtain ⟨_, vs, e, h6, a6⟩ := h4.lst_ex
      cases e
      exact k q D _ J H5 (s1.trans s2) w5 ⟨⟨acc, by rw [h6, a6.ints_eq], hp⟩, 0, 1234567891, 0, rfl, by decide, by decide, by decide, by decide⟩
abbrev s__law_take : Stmt := top 4
theorem sc__law_take : FnScope ["_law_bag_here", "_law_many", "_law_more", "_law_cell", "_law_value", "_law_first", "_law_second"] ["_law_bag_here", "_law_many"] (defScope s__law_take) := ⟨rfl, rfl, rfl, by decide +kernel, rfl, by decide +kernel, by decide +kernel⟩
def sp__law_take : Sp := fun vs H Q _ => ∃ I M b c o, ∃ m : Int, vs = [.ref b, .int m] ∧ W I H ((b, o) :: M) ∧ Bag I c o ∧ 0 < m ∧ Bd 4000 m ∧ ∀ v o' H', 0 ≤ v → v < m → Bag I c o' → W I H' ((b, o') :: M) → Q (.int v) H'
theorem use_take {I H : Hp} {M : List (Addr × HO)} {b c : Addr} {o : HO} {m : Int} {Q : VK} {E : XK} (w : W I H ((b, o) :: M)) (hb : Bag I c o) (h0 : 0 < m) (h1 : m < 10 ^ 200) (q : ∀ v o' H', 0 ≤ v → v < m → Bag I c o' → W I H' ((b, o') :: M) → Q (.int v) H') : sp__law_take ([.ref b, .int m] ++ []) H Q E :=
  ⟨I, M, b, c, o, m, rfl, w, hb, h0, Bd.of (10 ^ 200) (by omega) (by decide +kernel), q⟩
theorem take_end {I : Hp} {M : List (Addr × HO)} {b c : Addr} {ns : List Int} {x y z m : Int} {Q : VK} (cs : I c = some (.lst (ns.map V.int))) (nn : ∀ n ∈ ns, 0 ≤ n) (x0 : 0 ≤ x) (y0 : 0 ≤ y) (y1 : y < 2147483647) (z0 : 0 ≤ z)
    (k : ∀ v o' H', 0 ≤ v → v < m → Bag I c o' → W I H' ((b, o') :: M) → Q (.int v) H') : ∀ v H', 0 ≤ v → v < m → W I H' ((b, .lst [.int x, .int y, .int z, .ref c]) :: M) → Q (.int v) H' := fun v H' h1 h2 w => k v _ H' h1 h2 ⟨⟨ns, cs, nn⟩, x, y, z, rfl, x0, y0, y1, z0⟩ w
theorem n_take {F : List (V × D)} {H : Hp} {M : List ME} {b : Addr} {m : Int} {Q : VK} {E : XK} (w : Wf F H M) (hb : .bag b ∈ M) (h0 : 0 < m) (h1 : m < 10 ^ 200) (q : ∀ v H', 0 ≤ v → v < m → Wf F H' M → Q (.int v) H') : sp__law_take ([.ref b, .int m] ++ []) H Q E := by
  obtain ⟨I, Mc, c, o, w, hb, _, up, _⟩ := w.oldB hb
  exact use_take w hb h0 h1 fun v o' H' v0 v1 hb' w' => q v H' v0 v1 (up I H' o' (Same.refl _) w' hb')
local macro_rules | `(tactic| wtm_at "c1") => `(tactic| ((with_reducible refine' n_take (by assumption) ?b ?c ?d ?_); (case b => ktf_call "mem"); (case c => omega); (case d => omega); (intro v H' v0 v1 w')))

theorem ok__law_take {f : Addr} {fd : FuncData} (F : Fun K "_law_take" "_law_take" s__law_take f fd) (B : Bn mg)  : FnOk P wd K mg base CX0 1 f fd ["_law_bag_here", "_law_many"] sp__law_take := by
  refine F.ok sc__law_take (fun vs H Q E h => ?_) (fun cdv A outer s H vs Q E hr h => ?_)
  · obtain ⟨I, M, b, c, o, m, rfl, w, ⟨⟨ns, cs, nn⟩, x, y, z, rfl, x0, y0, y1, z0⟩, h0, h1, k⟩ := h
    all_goals rfl
  · obtain ⟨I, M, b, c, o, m, rfl, w, ⟨⟨ns, cs, nn⟩, x, y, z, rfl, x0, y0, y1, z0⟩, h0, h1, k⟩ := h
    refine ⟨_, (pss_cons (ps_if (pt_cmpR (k_eq (K := K) rfl hr.units) (pe_ix (k_ix (K := K) rfl) (pv 0) pe_int (fun _ _ => rfl)) pe_int (nomark _)) (pss_cons (ps_set (i := 2) sc__law_take.nd rfl (Or.inl rfl) pe_int)
      (pss_cons (ps_if (pt_cmpR op_lt (pe_ix (k_ix (K := K) rfl) (pv 0) pe_int (fun _ _ => rfl)) (pe_callB (k_len (K := K) rfl) (by rfl) B.len_ (by decide +kernel) (pa_cons (pe_ix (k_ix (K := K) rfl) (pv 0) pe_int (fun _ _ => rfl)) pa_nil)) (nomark _)) (pss_cons (ps_set (i := 3) sc__law_take.nd rfl (Or.inl rfl) (pe_ix (k_ix (K := K) rfl) (pe_ix (k_ix (K := K) rfl) (pv 0) pe_int (fun _ _ => rfl)) (pe_ix (k_ix (K := K) rfl) (pv 0) pe_int (fun _ _ => rfl)) (fun _ _ => rfl)))
      (pss_cons (ps_augL (pv 0) pe_int pe_int)
      (pss_cons (ps_if (pt_cmpR op_ge (pv 3) pe_int (nomark _)) (pss_one (ps_asg (pv 3) (pg_sub (pv 0) pe_int set_list))) pss_nil)
      (pss_one (ps_set (i := 2) sc__law_take.nd rfl (Or.inl rfl) (pe_op (k_add (K := K) rfl) (pe_op op_mod (pv 3) pe_int) pe_int)))))) pss_nil)
      (pss_one (ps_asg (pe_op op_mod (pe_op (k_add (K := K) rfl) (pe_op uo_mul (pe_ix (k_ix (K := K) rfl) (pv 0) pe_int (fun _ _ => rfl)) pe_int) (pv 2)) pe_int) (pg_sub (pv 0) pe_int set_list))))) pss_nil)
      (pss_cons (ps_if (pt_cmpR op_gt (pe_ix (k_ix (K := K) rfl) (pv 0) pe_int (fun _ _ => rfl)) pe_int (nomark _)) (pss_cons (ps_set (i := 4) sc__law_take.nd rfl (Or.inl rfl) (pe_op op_mod (pe_ix (k_ix (K := K) rfl) (pv 0) pe_int (fun _ _ => rfl)) (pv 1)))
      (pss_cons (ps_asg (pe_op op_fdivW (pe_ix (k_ix (K := K) rfl) (pv 0) pe_int (fun _ _ => rfl)) (pv 1)) (pg_sub (pv 0) pe_int set_list))
      (pss_one (ps_ret (pv 4))))) pss_nil)
      (pss_cons (ps_set (i := 5) sc__law_take.nd rfl (Or.inl rfl) (pe_op op_mod (pe_op uo_mul (pe_ix (k_ix (K := K) rfl) (pv 0) pe_int (fun _ _ => rfl)) pe_int) pe_int))
      (pss_cons (ps_set (i := 6) sc__law_take.nd rfl (Or.inl rfl) (pe_op op_mod (pe_op uo_mul (pv 5) pe_int) pe_int))
      (pss_cons (ps_if (pt_cmpR op_gt (pv 1) pe_int (nomark _)) (pss_one (ps_ret (pe_op op_mod (pe_op (k_add (K := K) rfl) (pe_op uo_mul (pv 6) pe_int) (pv 5)) (pv 1)))) pss_nil)
      (pss_one (ps_ret (pe_op op_mod (pe_op op_fdivW (pv 6) pe_int) (pv 1))))))))), ?_⟩
    try dsimp only [cxOf, Cx.nox, Cx.wish, Cx.blk]
    have hc : Is I (.ref c) (.lst (ns.map D.int)) := .lst cs (IsA.ints ns)
    with_reducible refine s_mid (fun σ' H' => ∃ x y z v2 v3, σ' = [some (.ref b), some (.int m), v2, v3, none, none, none] ∧ 0 ≤ x ∧ 0 ≤ y ∧ y < 2147483647 ∧ 0 ≤ z ∧ W I H' ((b, .lst [.int x, .int y, .int z, .ref c]) :: M)) ?_ (fun N1 fin => ?_)
    · clear x0 y0 y1 z0 w
      rintro σ' H' ⟨x, y, z, v2, v3, rfl, x0, y0, y1, z0, w⟩
      wtm_at "go"
      wtm_at "fork"
      · wtm_at "go"
        refine s_I (show (0 : Int) < m from h0) ?_
        wtm_at "go"
        refine s_I (h1.cd h0) ?_
        wtm_at "go"
        refine take_end (x := x / m) (y := y) (z := z) cs nn (Int.ediv_nonneg x0 (by omega)) y0 y1 z0 k _ _ (Int.emod_nonneg _ (by omega)) (Int.emod_lt_of_pos _ h0) (by assumption)
      · wtm_at "go"
        wtm_at "goo"
        wtm_at "fork"
        · wtm_at "goo"
          exact take_end (x := x) (y := y) (z := z) cs nn x0 y0 y1 z0 k _ _ (Int.emod_nonneg _ (by omega)) (Int.emod_lt_of_pos _ h0) w
        · wtm_at "goo"
          exact take_end (x := x) (y := y) (z := z) cs nn x0 y0 y1 z0 k _ _ (Int.emod_nonneg _ (by omega)) (Int.emod_lt_of_pos _ h0) w
    · wtm_at "go"
      wtm_at "fork"
      · wtm_at "s1"; wtm_at "s1"; wtm_at "e1"; wtm_at "s1"
        with_reducible refine s_mid (fun σ' H' => ∃ x z v3, ∃ r : Int, σ' = [some (.ref b), some (.int m), some (.int r), v3, none, none, none] ∧ 0 ≤ r ∧ r ≤ 2147483647 ∧ 0 ≤ x ∧ 0 ≤ z ∧ W I H' ((b, .lst [.int x, .int y, .int z, .ref c]) :: M)) ?_ (fun N2 fin2 => ?_)
        · rintro σ' H' ⟨x', z', v3, r, rfl, r0, r1, x0', z0', w'⟩
          wtm_at "goo"
          exact fin _ _ ⟨x', (y * 48271 + r) % 2147483647, z', _, v3, rfl, x0', Int.emod_nonneg _ (by decide), Int.emod_lt_of_pos _ (by decide), z0', by assumption⟩
        · wtm_at "go"
          wtm_at "fork"
          · rename_i hz
            rw [List.length_map] at hz
            obtain ⟨n, hn, e⟩ := at_ints z0 hz
            have hn0 := nn n hn
            wtm_at "go"
            refine s_ixL w hc e ?_
            wtm_at "inv"
            wtm_at "go"
            wtm_at "fork"
            · wtm_at "goo"
              exact fin2 _ _ ⟨n, z + 1, _, _, rfl, by omega, by omega, by omega, by omega, by assumption⟩
            · wtm_at "goo"
              exact fin2 _ _ ⟨x, z + 1, _, _, rfl, by omega, by omega, by omega, by omega, by assumption⟩
          · wtm_at "go"
            exact fin2 _ _ ⟨x, z, none, 12345, rfl, by decide, by decide, x0, z0, w⟩
      · wtm_at "go"
        exact fin _ _ ⟨x, y, z, none, none, rfl, x0, y0, y1, z0, w⟩
abbrev s__law_length : Stmt := top 5
theorem sc__law_length : FnScope ["_law_bag_here", "_law_most", "_law_way"] ["_law_bag_here", "_law_most"] (defScope s__law_length) := ⟨rfl, rfl, rfl, by decide +kernel, rfl, by decide +kernel, by decide +kernel⟩
def sp__law_length : Sp := fun vs H Q _ => ∃ I M b c o, ∃ m : Int, vs = [.ref b, .int m] ∧ W I H ((b, o) :: M) ∧ Bag I c o ∧ 0 ≤ m ∧ m ≤ 1000000000000000000000000000000000000000000000 ∧ ∀ v o' H', 0 ≤ v → v ≤ m → Bag I c o' → W I H' ((b, o') :: M) → Q (.int v) H'
theorem use_length {I H : Hp} {M : List (Addr × HO)} {b c : Addr} {o : HO} {m : Int} {Q : VK} {E : XK} (w : W I H ((b, o) :: M)) (hb : Bag I c o) (h0 : 0 ≤ m) (h1 : m ≤ 1000000000000) (q : ∀ v o' H', 0 ≤ v → v ≤ m → Bag I c o' → W I H' ((b, o') :: M) → Q (.int v) H') : sp__law_length ([.ref b, .int m] ++ []) H Q E :=
  ⟨I, M, b, c, o, m, rfl, w, hb, h0, by omega, q⟩
theorem n_length {F : List (V × D)} {H : Hp} {M : List ME} {b : Addr} {m : Int} {Q : VK} {E : XK} (w : Wf F H M) (hb : .bag b ∈ M) (h0 : 0 ≤ m) (h1 : m ≤ 1000000000000) (q : ∀ v H', 0 ≤ v → v ≤ m → Wf F H' M → Q (.int v) H') : sp__law_length ([.ref b, .int m] ++ []) H Q E := by
  obtain ⟨I, Mc, c, o, w, hb, _, up, _⟩ := w.oldB hb
  exact use_length w hb h0 h1 fun v o' H' v0 v1 hb' w' => q v H' v0 v1 (up I H' o' (Same.refl _) w' hb')
theorem n_lengthB {F : List (V × D)} {H : Hp} {M : List ME} {b : Addr} {m : Int} {Q : VK} {E : XK} (w : Wf F H M) (hb : .bag b ∈ M) (h0 : 0 ≤ m) (h1 : m ≤ 1000000000000000000000000000000000000000000000) (q : ∀ v H', 0 ≤ v → v ≤ m → Wf F H' M → Q (.int v) H') : sp__law_length ([.ref b, .int m] ++ []) H Q E := by
  obtain ⟨I, Mc, c, o, w, hb, _, up, _⟩ := w.oldB hb
  exact ⟨I, Mc, b, c, o, m, rfl, w, hb, h0, h1, fun v o' H' v0 v1 hb' w' => q v H' v0 v1 (up I H' o' (Same.refl _) w' hb')⟩
local macro_rules | `(tactic| wtm_at "c1") => `(tactic| ((with_reducible refine' n_length (by assumption) ?b ?c ?d ?_); (case b => ktf_call "mem"); (case c => omega); (case d => omega); (intro v H' v0 v1 w')))

theorem ok__law_length {f : Addr} {fd : FuncData} (F : Fun K "_law_length" "_law_length" s__law_length f fd) (B : Bn mg) (c__law_take : Cal P wd K mg base "_law_take" 1 ["_law_bag_here", "_law_many"] [] sp__law_take)  : FnOk P wd K mg base CX0 2 f fd ["_law_bag_here", "_law_most"] sp__law_length := by
  refine F.ok sc__law_length (fun vs H Q E h => ?_) (fun cdv A outer s H vs Q E hr h => ?_)
  · obtain ⟨I, M, b, c, o, m, rfl, w, hb, h0, h1, k⟩ := h
    all_goals rfl
  · obtain ⟨I, M, b, c, o, m, rfl, w, hb, h0, h1, k⟩ := h
    refine ⟨_, (pss_cons (ps_set (i := 2) sc__law_length.nd rfl (Or.inl rfl) (pe_cal c__law_take (hr.mono (by decide)) (by rfl) (pa_cons (pv 0) (pa_cons pe_int pa_nil))))
      (pss_cons (ps_if (pt_cmpR (k_eq (K := K) rfl hr.units) (pv 2) pe_int (nomark _)) (pss_one (ps_ret (pe_cal c__law_take (hr.mono (by decide)) (by rfl) (pa_cons (pv 0) (pa_cons (pe_op (k_add (K := K) rfl) (pe_callB (k_min (K := K) rfl rfl) (by rfl) B.min_ (by decide +kernel) (pa_cons (pv 1) (pa_cons pe_int pa_nil))) pe_int) pa_nil))))) pss_nil)
      (pss_cons (ps_if (pt_cmpR (k_eq (K := K) rfl hr.units) (pv 2) pe_int (nomark _)) (pss_one (ps_ret (pe_cal c__law_take (hr.mono (by decide)) (by rfl) (pa_cons (pv 0) (pa_cons (pe_op (k_add (K := K) rfl) (pe_callB (k_min (K := K) rfl rfl) (by rfl) B.min_ (by decide +kernel) (pa_cons (pv 1) (pa_cons pe_int pa_nil))) pe_int) pa_nil))))) pss_nil)
      (pss_cons (ps_if (pt_cmpR (k_eq (K := K) rfl hr.units) (pv 2) pe_int (nomark _)) (pss_one (ps_ret (pe_op op_sub (pv 1) (pe_cal c__law_take (hr.mono (by decide)) (by rfl) (pa_cons (pv 0) (pa_cons (pe_op (k_add (K := K) rfl) (pe_callB (k_min (K := K) rfl rfl) (by rfl) B.min_ (by decide +kernel) (pa_cons (pv 1) (pa_cons pe_int pa_nil))) pe_int) pa_nil)))))) pss_nil)
      (pss_one (ps_ret (pe_cal c__law_take (hr.mono (by decide)) (by rfl) (pa_cons (pv 0) (pa_cons (pe_op (k_add (K := K) rfl) (pv 1) pe_int) pa_nil))))))))), ?_⟩
    try dsimp only [cxOf, Cx.nox, Cx.wish, Cx.blk]
    wtm_at "go"
    refine use_take w hb (by omega) (by omega) fun v o1 H1 v0 v1 hb1 w1 => ?_
    wtm_at "go"
    wtm_at "fork"
    · wtm_at "go"
      refine use_take w1 hb1 (by split <;> omega) (by split <;> omega) fun u o2 H2 u0 u1 hb2 w2 => ?_
      exact k u o2 H2 u0 (by split at u1 <;> omega) hb2 w2
    wtm_at "go"
    wtm_at "fork"
    · wtm_at "go"
      refine use_take w1 hb1 (by split <;> omega) (by split <;> omega) fun u o2 H2 u0 u1 hb2 w2 => ?_
      exact k u o2 H2 u0 (by split at u1 <;> omega) hb2 w2
    wtm_at "go"
    wtm_at "fork"
    · wtm_at "go"
      refine use_take w1 hb1 (by split <;> omega) (by split <;> omega) fun u o2 H2 u0 u1 hb2 w2 => ?_
      wtm_at "go"
      exact k _ o2 H2 (by split at u1 <;> omega) (by omega) hb2 w2
    wtm_at "go"
    refine use_take w1 hb1 (by omega) (by omega) fun u o2 H2 u0 u1 hb2 w2 => ?_
    exact k u o2 H2 u0 (by omega) hb2 w2
abbrev s__law_whole : Stmt := top 6
theorem sc__law_whole : FnScope ["_law_found"] ["_law_found"] (defScope s__law_whole) := ⟨rfl, rfl, rfl, by decide +kernel, rfl, by decide +kernel, by decide +kernel⟩
def sp__law_whole : Sp := fun vs H Q _ => ∃ I M v d a, vs = [v] ∧ W I H M ∧ Is I v d ∧ d.tn = some a ∧ Q (.bl d.whole) H
theorem use_wholeI {I H : Hp} {M : List (Addr × HO)} {n : Int} {Q : VK} {E : XK} (w : W I H M) (q : Q (.bl true) H) : sp__law_whole ([.int n] ++ []) H Q E := ⟨I, M, _, _, _, rfl, w, .int n, rfl, q⟩
theorem use_wholeN {I H : Hp} {M : List (Addr × HO)} {v : V} {d : D} {a : String} {Q : VK} {E : XK} (w : W I H M) (h : Is I v d) (ha : d.tn = some a) (hd : d.whole = false) (q : Q (.bl false) H) : sp__law_whole ([v] ++ []) H Q E := ⟨I, M, _, _, _, rfl, w, h, ha, by rw [hd]; exact q⟩
theorem n_wh {F : List (V × D)} {H : Hp} {M : List ME} {v : V} {d : D} {Q : VK} {E : XK} (w : Wf F H M) (hv : Rk F M v d) (ht : Ty d) (q : Q (.bl d.whole) H) : sp__law_whole ([v] ++ []) H Q E := by
  obtain ⟨a, ha⟩ := ht
  exact ⟨H, [], v, d, a, rfl, W.self, w.rd hv, ha, q⟩
theorem n_whI {n : Int} {H : Hp} {Q : VK} {E : XK} (q : Q (.bl true) H) : sp__law_whole ([.int n] ++ []) H Q E := ⟨H, [], .int n, .int n, _, rfl, W.self, .int n, rfl, q⟩
local macro_rules | `(tactic| wtm_at "c0") => `(tactic| with_reducible refine n_whI ?_)

theorem ok__law_whole {f : Addr} {fd : FuncData} (F : Fun K "_law_whole" "_law_whole" s__law_whole f fd) (B : Bn mg)  : FnOk P wd K mg base CX0 1 f fd ["_law_found"] sp__law_whole := by
  refine F.ok sc__law_whole (fun vs H Q E h => ?_) (fun cdv A outer s H vs Q E hr h => ?_)
  · obtain ⟨I, M, v, d, a, rfl, w, hv, ha, k⟩ := h
    all_goals rfl
  · obtain ⟨I, M, v, d, a, rfl, w, hv, ha, k⟩ := h
    refine ⟨_, (pss_one (ps_ret (pe_and (pe_callB (k_isi (K := K) rfl) (by rfl) B.isinstance_ (by decide +kernel) (pa_cons (pv 0) (pa_cons (pe_bltn (v := .ty "int") (by rfl) B.int_ (by decide +kernel) rfl) pa_nil))) (pe_one (pe_not (pe_callB (k_isi (K := K) rfl) (by rfl) B.isinstance_ (by decide +kernel) (pa_cons (pv 0) (pa_cons (pe_bltn (v := .ty "bool") (by rfl) B.bool_ (by decide +kernel) rfl) pa_nil)))))))), ?_⟩
    try dsimp only [cxOf, Cx.nox, Cx.wish, Cx.blk]
    cases d with
    | int n => wtm_at "go"; exact k
    | bl n => wtm_at "go"; exact k
    | non => wtm_at "go"; exact k
    | str n => wtm_at "go"; exact k
    | tup n => wtm_at "go"; exact k
    | lst n => wtm_at "go"; exact k
    | ref n => cases ha
    | ty n => cases ha
    | obj n m => cases ha
    | fact _ => cases ha
    | dict => wtm_at "go"; exact k
abbrev s__law_name : Stmt := top 8
theorem sc__law_name : FnScope ["_law_bag_here", "_law_name_here", "_law_k"] ["_law_bag_here"] (defScope s__law_name) := ⟨rfl, rfl, rfl, by decide +kernel, rfl, by decide +kernel, by decide +kernel⟩
def sp__law_name : Sp := fun vs H Q _ => ∃ F M b, vs = [.ref b] ∧ Wf F H M ∧ .bag b ∈ M ∧ ∀ H' (z : Str), PyData.strOk z = true → 1 ≤ z.length → z.length ≤ 8 → Wf F H' M → Q (.str z) H'
theorem n_lname {F : List (V × D)} {H : Hp} {M : List ME} {b : Addr} {Q : VK} {E : XK} (w : Wf F H M) (hb : .bag b ∈ M) (q : ∀ H' (z : Str), PyData.strOk z = true → 1 ≤ z.length → z.length ≤ 8 → Wf F H' M → Q (.str z) H') : sp__law_name ([.ref b] ++ []) H Q E := ⟨F, M, b, rfl, w, hb, q⟩

theorem ok__law_name {f : Addr} {fd : FuncData} (F : Fun K "_law_name" "_law_name" s__law_name f fd) (B : Bn mg) (c__law_take : Cal P wd K mg base "_law_take" 1 ["_law_bag_here", "_law_many"] [] sp__law_take)  : FnOk P wd K mg base CX0 2 f fd ["_law_bag_here"] (sp__law_name) := by
  refine F.ok sc__law_name (fun vs H Q E h => ?_) (fun cdv A outer s H vs Q E hr h => ?_)
  · obtain ⟨F, M, b, rfl, w, hb, k⟩ := h
    all_goals rfl
  · obtain ⟨F, M, b, rfl, w, hb, k⟩ := h
    refine ⟨_, (pss_cons (ps_set (i := 1) sc__law_name.nd rfl (Or.inl rfl) pe_str)
      (pss_cons (ps_for PassesOwn.never rfl (pi_range1 (by rfl) B.range_ (pa_cons (pe_op (k_add (K := K) rfl) pe_int (pe_cal c__law_take (hr.mono (by decide)) (by rfl) (pa_cons (pv 0) (pa_cons pe_int pa_nil)))) pa_nil)) (pg_name (i := 2) sc__law_name.nd rfl (Or.inl rfl)) (pss_one (ps_set (i := 1) sc__law_name.nd rfl (Or.inl rfl) (pe_op (k_add (K := K) rfl) (pv 1) (pe_ix (k_ix (K := K) rfl) pe_str (pe_cal c__law_take (hr.mono (by decide)) (by rfl) (pa_cons (pv 0) (pa_cons pe_int pa_nil))) (fun _ _ => rfl))))))
      (pss_one (ps_ret (pv 1))))), ?_⟩
    try dsimp only [cxOf, Cx.nox, Cx.wish, Cx.blk]
    rw [show L2.start (["_law_bag_here", "_law_name_here", "_law_k"] : List Str) [.ref b] = [some (.ref b), none, none] from rfl]
    wtm_at "n"
    refine n_take w hb (by omega) (by omega) fun c H1 c0 c1 w => ?_
    wtm_at "n"
    refine s_rng1' (by omega) (by omega) ?_
    refine n_forR w (fun i σ' F' M' => ∃ (z : Str) (x2 : Option V), σ' = [some (.ref b), some (.str z), x2] ∧ F = F' ∧ M = M' ∧ PyData.strOk z = true ∧ z.length = i) ⟨_, _, rfl, rfl, rfl, by decide +kernel, by decide +kernel⟩ ?_ ?_
    · clear w
      rintro i σ' H2 F' M' hi ⟨z, x2, rfl, rfl, rfl, hz, hzl⟩ w
      wtm_at "n"
      refine n_take w hb (by omega) (by omega) fun d H3 d0 d1 w => ?_
      wtm_at "n"
      refine s_ixN d0 (by rw [abc_len]; omega) (by rw [abc_len]; decide) abc_ok fun e he => ?_
      wtm_at "n"
      refine s_addT (by show z.length + 1 ≤ 100000; omega) ?_
      wtm_at "n"
      exact ⟨_, _, ⟨_, _, rfl, rfl, rfl, strOk_app hz he, by rw [app_len, hzl]; rfl⟩, w⟩
    · clear w
      rintro σ' H2 F' M' ⟨z, x2, rfl, rfl, rfl, hz, hzl⟩ w
      wtm_at "n"
      exact k _ z hz (by omega) (by omega) w
abbrev s__law_keys : Stmt := top 9
theorem sc__law_keys : FnScope ["_law_bag_here", "_law_keys_here", "_law_k", "_law_way", "_law_first", "_law_at"] ["_law_bag_here"] (defScope s__law_keys) := ⟨rfl, rfl, rfl, by decide +kernel, rfl, by decide +kernel, by decide +kernel⟩
def sp__law_keys : Sp := fun vs H Q _ => ∃ F M b, vs = [.ref b] ∧ Wf F H M ∧ .bag b ∈ M ∧ ∀ p H' (ks : List Str), ks ≠ [] → ks.length ≤ 12 → (∀ z ∈ ks, Nm z) → Wf F H' (.ml p (ks.map D.str) :: M) → Q (.ref p) H'
theorem n_lkeys {F : List (V × D)} {H : Hp} {M : List ME} {b : Addr} {Q : VK} {E : XK} (w : Wf F H M) (hb : .bag b ∈ M) (q : ∀ p H' (ks : List Str), ks ≠ [] → ks.length ≤ 12 → (∀ z ∈ ks, Nm z) → Wf F H' (.ml p (ks.map D.str) :: M) → Q (.ref p) H') : sp__law_keys ([.ref b] ++ []) H Q E := ⟨F, M, b, rfl, w, hb, q⟩

theorem ok__law_keys {f : Addr} {fd : FuncData} (F : Fun K "_law_keys" "_law_keys" s__law_keys f fd) (B : Bn mg) (c__law_name : Cal P wd K mg base "_law_name" 2 ["_law_bag_here"] [] (sp__law_name)) (c__law_take : Cal P wd K mg base "_law_take" 1 ["_law_bag_here", "_law_many"] [] sp__law_take)  : FnOk P wd K mg base CX0 3 f fd ["_law_bag_here"] (sp__law_keys) := by
  refine F.ok sc__law_keys (fun vs H Q E h => ?_) (fun cdv A outer s H vs Q E hr h => ?_)
  · obtain ⟨F, M, b, rfl, w, hb, k⟩ := h
    all_goals rfl
  · obtain ⟨F, M, b, rfl, w, hb, k⟩ := h
    refine ⟨_, (pss_cons (ps_set (i := 1) sc__law_keys.nd rfl (Or.inl rfl) (pe_lst (pa_cons (pe_cal c__law_name (hr.mono (by decide)) (by rfl) (pa_cons (pv 0) pa_nil)) pa_nil)))
      (pss_cons (ps_for PassesOwn.never rfl (pi_range1 (by rfl) B.range_ (pa_cons (pe_cal c__law_take (hr.mono (by decide)) (by rfl) (pa_cons (pv 0) (pa_cons (pe_op (k_add (K := K) rfl) pe_int (pe_op uo_mul pe_int (pe_callTy uc_int (by rfl) B.int_ (by decide +kernel) (pa_cons (pe_cmpR (k_eq (K := K) rfl hr.units) (pe_cal c__law_take (hr.mono (by decide)) (by rfl) (pa_cons (pv 0) (pa_cons pe_int pa_nil))) pe_int (nomark _)) pa_nil)))) pa_nil))) pa_nil)) (pg_name (i := 2) sc__law_keys.nd rfl (Or.inl rfl)) (pss_cons (ps_set (i := 3) sc__law_keys.nd rfl (Or.inl rfl) (pe_cal c__law_take (hr.mono (by decide)) (by rfl) (pa_cons (pv 0) (pa_cons pe_int pa_nil))))
      (pss_cons (ps_set (i := 4) sc__law_keys.nd rfl (Or.inl rfl) (pe_ix (k_ix (K := K) rfl) (pv 1) pe_int (fun _ _ => rfl)))
      (pss_cons (ps_set (i := 5) sc__law_keys.nd rfl (Or.inl rfl) (pe_cal c__law_take (hr.mono (by decide)) (by rfl) (pa_cons (pv 0) (pa_cons (pe_callB (k_len (K := K) rfl) (by rfl) B.len_ (by decide +kernel) (pa_cons (pv 4) pa_nil)) pa_nil))))
      (pss_one (ps_if (pt_cmpR (k_eq (K := K) rfl hr.units) (pv 3) pe_int (nomark _)) (pss_one (ps_expr (pe_bm PySem.F.plainAttrs_list PySem.F.slot_list_append PySem.F.type_list_append mt_append (pv 1) (pa_cons (pe_cal c__law_name (hr.mono (by decide)) (by rfl) (pa_cons (pv 0) pa_nil)) pa_nil)))) (pss_one (ps_if (pt_cmpR (k_eq (K := K) rfl hr.units) (pv 3) pe_int (nomark _)) (pss_one (ps_expr (pe_bm PySem.F.plainAttrs_list PySem.F.slot_list_append PySem.F.type_list_append mt_append (pv 1) (pa_cons (pe_ix (k_ix (K := K) rfl) (pe_lst (pa_cons pe_str (pa_cons pe_str (pa_cons pe_str (pa_cons pe_str (pa_cons pe_str (pa_cons pe_str pa_nil))))))) (pe_cal c__law_take (hr.mono (by decide)) (by rfl) (pa_cons (pv 0) (pa_cons pe_int pa_nil))) (fun _ _ => rfl)) pa_nil)))) (pss_one (ps_if (pt_cmpR (k_eq (K := K) rfl hr.units) (pv 3) pe_int (nomark _)) (pss_one (ps_expr (pe_bm PySem.F.plainAttrs_list PySem.F.slot_list_append PySem.F.type_list_append mt_append (pv 1) (pa_cons (pe_slice sl_str (pv 4) po_none (po_some (pe_op (k_add (K := K) rfl) (pv 5) pe_int))) pa_nil)))) (pss_one (ps_expr (pe_bm PySem.F.plainAttrs_list PySem.F.slot_list_append PySem.F.type_list_append mt_append (pv 1) (pa_cons (pe_op (k_add (K := K) rfl) (pe_op (k_add (K := K) rfl) (pe_slice sl_str (pv 4) po_none (po_some (pv 5))) (pe_ix (k_ix (K := K) rfl) pe_str (pe_cal c__law_take (hr.mono (by decide)) (by rfl) (pa_cons (pv 0) (pa_cons pe_int pa_nil))) (fun _ _ => rfl))) (pe_slice sl_str (pv 4) (po_some (pe_op (k_add (K := K) rfl) (pv 5) pe_int)) po_none)) pa_nil))))))))))))))
      (pss_one (ps_ret (pv 1))))), ?_⟩
    try dsimp only [cxOf, Cx.nox, Cx.wish, Cx.blk]
    rw [show L2.start (["_law_bag_here", "_law_keys_here", "_law_k", "_law_way", "_law_first", "_law_at"] : List Str) [.ref b] = [some (.ref b), none, none, none, none, none] from rfl]
    wtm_at "n"
    refine n_lname w hb fun H1 z0 hz0 z1 z8 w => ?_
    wtm_at "sq2"
    rename_i pk H2 w2
    clear w
    simp only [List.set_cons_succ, List.set_cons_zero]
    wtm_at "n"
    refine n_take w2 (by simp [hb]) (by omega) (by omega) fun c H3 c0 c1 w => ?_
    clear w2
    wtm_at "n"
    refine s_mul (Bd.cm (j := 8) (k := 60) (Bd.of 8 (by decide)) (Bd.of 1 (by split <;> decide))) ?_
    obtain ⟨m, em⟩ : ∃ m : Int, m = 8 * (if decide (V.int c = V.int 0) = true then 1 else 0) := ⟨_, rfl⟩
    have m0 : 0 ≤ m := by rw [em]; split <;> omega
    have m1 : m ≤ 8 := by rw [em]; split <;> omega
    rw [← em]
    clear em
    wtm_at "n"
    refine n_take w (by simp [hb]) (by omega) (by omega) fun t H4 t0 t1 w => ?_
    wtm_at "n"
    refine s_rng1' (by omega) (by omega) ?_
    refine n_forR w (fun i σ' F' M' => ∃ (ks : List Str) (x2 x3 x4 x5 : Option V), σ' = [some (.ref b), some (.ref pk), x2, x3, x4, x5] ∧ F = F' ∧ M' = .ml pk ((z0 :: ks).map D.str) :: M ∧ ks.length = i ∧ ∀ z ∈ z0 :: ks, Nm z) ⟨[], _, _, _, _, rfl, rfl, rfl, rfl, fun z hz => by rw [List.mem_singleton.mp hz]; exact ⟨hz0, by omega⟩⟩ ?_ ?_
    · clear w
      rintro i σ' H5 F' M' hi ⟨ks, x2, x3, x4, x5, rfl, rfl, rfl, hkl, hks⟩ w
      have fin : ∀ (H6 : Hp) (z : Str) (y2 y3 y4 y5 : Option V) (F6 : List (V × D)), Nm z → Wf F6 H6 (.ml pk ((z0 :: ks).map D.str ++ [.str z]) :: M) → (∀ f ∈ F, f ∈ F6) → LI (fun σ' F' M' => ∃ (ks : List Str) (x2 x3 x4 x5 : Option V), σ' = [some (.ref b), some (.ref pk), x2, x3, x4, x5] ∧ F = F' ∧ M' = .ml pk ((z0 :: ks).map D.str) :: M ∧ ks.length = i + 1 ∧ ∀ z ∈ z0 :: ks, Nm z) [some (.ref b), some (.ref pk), y2, y3, y4, y5] H6 := fun H6 z y2 y3 y4 y5 F6 hz w6 hF6 => ⟨F, _, ⟨ks ++ [z], y2, y3, y4, y5, rfl, rfl, rfl, by rw [List.length_append, hkl]; rfl, fun y hy => by
        rw [← List.cons_append] at hy
        rcases List.mem_append.mp hy with hy | hy
        · exact hks y hy
        · rw [List.mem_singleton.mp hy]; exact hz⟩, by
          rw [← List.cons_append, List.map_append]
          exact w6.sub (fun f hf => .mem (hF6 f hf)) (.refl _)⟩
      wtm_at "n"
      refine n_take w (by simp [hb]) (by omega) (by omega) fun way H6 w0 w1 w => ?_
      wtm_at "n"
      refine n_ixL (d := .str z0) w (.ml (.head _)) atI_head fun u w => ?_
      have e0 := (w.rd (.mem (.head _)) : Is _ u (.str z0)).str_eq
      subst e0
      replace w := w.tail
      wtm_at "n"
      refine s_lenS (by omega) ?_
      wtm_at "n"
      refine n_take w (by simp [hb]) (by omega) (by omega) fun at0 H7 a0 a1 w => ?_
      wtm_at "n"
      by_cases hw0 : way = 0
      · subst hw0
        wtm_at "no"
        refine n_lname w (by simp [hb]) fun H8 z hz z9 z10 w => ?_
        wtm_at "n"
        rename_i H9 w9
        exact fin _ z _ _ _ _ _ ⟨hz, by omega⟩ w9 (fun f hf => hf)
      rw [decide_eq_false (show ¬ V.int way = V.int 0 from fun h => hw0 (V.int.inj h))]
      wtm_at "n"
      by_cases hw1 : way = 1
      · subst hw1
        wtm_at "no"
        rename_i pl H9 w9
        refine n_take w9 (by simp [hb]) (by decide) (by simp) fun t9 H10 t10 t11 w => ?_
        refine n_ixAny w (.ml (.head _)) t10 (by simpa using t11) fun d u hd w => ?_
        have hm := List.mem_of_getElem? hd
        obtain ⟨z, rfl, hz⟩ : ∃ z, d = .str z ∧ Nm z := by
          simp only [List.mem_cons, List.not_mem_nil, or_false] at hm
          rcases hm with rfl | rfl | rfl | rfl | rfl | rfl <;> exact ⟨_, rfl, by decide +kernel, by decide +kernel⟩
        have e1 := (w.rd (.mem (.head _)) : Is _ u (.str z)).str_eq
        subst e1
        wtm_at "n"
        rename_i H11 w11
        exact fin _ z _ _ _ _ _ hz (w11.sub KS.refl (.cons _ (.refl _))) (fun f hf => .tail _ hf)
      rw [decide_eq_false (show ¬ V.int way = V.int 1 from fun h => hw1 (V.int.inj h))]
      wtm_at "n"
      by_cases hw2 : way = 2
      · subst hw2
        wtm_at "no"
        refine s_cutN (by omega) hz0 fun z hz zl => ?_
        wtm_at "n"
        rename_i H9 w9
        exact fin _ z _ _ _ _ _ ⟨hz, by omega⟩ w9 (fun f hf => hf)
      rw [decide_eq_false (show ¬ V.int way = V.int 2 from fun h => hw2 (V.int.inj h))]
      wtm_at "n"
      refine s_cutN (by omega) hz0 fun za hza zal => ?_
      wtm_at "n"
      refine n_take w (by simp [hb]) (by omega) (by omega) fun t9 H8 t10 t11 w => ?_
      wtm_at "n"
      refine s_ixN t10 (by rw [abc_len]; omega) (by rw [abc_len]; decide) abc_ok fun e he => ?_
      wtm_at "n"
      refine s_addT (by show za.length + 1 ≤ 100000; omega) ?_
      wtm_at "n"
      refine s_cutN (by omega) hz0 fun zb hzb zbl => ?_
      wtm_at "n"
      refine s_addT (by rw [app_len]; show za.length + 1 + zb.length ≤ 100000; omega) ?_
      wtm_at "n"
      rename_i H9 w9
      exact fin _ _ _ _ _ _ _ ⟨strOk_app (strOk_app hza he) hzb, by rw [app_len, app_len]; show za.length + 1 + zb.length ≤ 60; omega⟩ w9 (fun f hf => hf)
    · clear w
      rintro σ' H5 F' M' ⟨ks, x2, x3, x4, x5, rfl, rfl, rfl, hkl, hks⟩ w
      wtm_at "n"
      exact k pk _ (z0 :: ks) (by simp) (by rw [List.length_cons, hkl]; omega) hks w
abbrev s__law_high : Stmt := top 10
theorem sc__law_high : FnScope ["_law_table", "_law_log", "_law_key", "_law_wide"] ["_law_table", "_law_log", "_law_key", "_law_wide"] (defScope s__law_high) := ⟨rfl, rfl, rfl, by decide +kernel, rfl, by decide +kernel, by decide +kernel⟩
def sp__law_high : Sp := fun vs H Q _ => ∃ F M pt pl tb lg key wide a b, vs = [.ref pt, .ref pl, .str key, .int wide] ∧ Wf F H (.dk pt tb :: .ml pl lg :: M) ∧ getP tb (.inr key) = some (.tup [.int a, .int b]) ∧ 0 ≤ wide ∧ wide ≤ 1000000000000 ∧ 0 ≤ a ∧ a ≤ 1000000 ∧ 0 ≤ b ∧ b ≤ 1000000000 ∧ lg.length ≤ 10000 ∧ ∀ H', Wf F H' (.dk pt tb :: .ml pl (lg ++ [.tup [.str key, .int wide]]) :: M) → Q (.int (msr a b wide)) H'

theorem ok__law_high {f : Addr} {fd : FuncData} (F : Fun K "_law_high" "_law_high" s__law_high f fd) (B : Bn mg)  : FnOk P wd K mg base CX0 1 f fd ["_law_table", "_law_log", "_law_key", "_law_wide"] (sp__law_high) := by
  refine F.ok sc__law_high (fun vs H Q E h => ?_) (fun cdv A outer s H vs Q E hr h => ?_)
  · obtain ⟨F, M, pt, pl, tb, lg, key, wide, a, b, rfl, w, hg, w0, w1, a0, a1, b0, b1, hl, k⟩ := h
    all_goals rfl
  · obtain ⟨F, M, pt, pl, tb, lg, key, wide, a, b, rfl, w, hg, w0, w1, a0, a1, b0, b1, hl, k⟩ := h
    refine ⟨_, (pss_cons (ps_expr (pe_bm PySem.F.plainAttrs_list PySem.F.slot_list_append PySem.F.type_list_append mt_append (pv 1) (pa_cons (pe_tup (pa_cons (pv 2) (pa_cons (pv 3) pa_nil))) pa_nil)))
      (pss_one (ps_ret (pe_op op_mod (pe_op (k_add (K := K) rfl) (pe_ix (k_ix (K := K) rfl) (pe_dget (hu1 hr.units) (pv 0) (pv 2) (fun _ _ => rfl)) pe_int (fun _ _ => rfl)) (pe_op op_fdivW (pe_ix (k_ix (K := K) rfl) (pe_dget (hu1 hr.units) (pv 0) (pv 2) (fun _ _ => rfl)) pe_int (fun _ _ => rfl)) (pe_op (k_add (K := K) rfl) (pv 3) pe_int))) pe_int)))), ?_⟩
    try dsimp only [cxOf, Cx.nox, Cx.wish, Cx.blk]
    wtm_at "n"
    rename_i pk H1 w2 H2 w3
    clear w w2
    refine n_dgetK (k := .inr key) w3 (.head _) (.str _) hg fun u w => ?_
    wtm_at "n"
    refine n_dgetK (k := .inr key) w (.head _) (.str _) hg fun u2 w => ?_
    wtm_at "n"
    refine s_I (cd64 (by omega) (by omega)) ?_
    wtm_at "n"
    refine s_I (show (0 : Int) < 1000001 by decide) ?_
    wtm_at "n"
    exact k _ (w.sub (fun f hf => .mem (by simp [hf])) (.refl _))
abbrev s__law_asked_well : Stmt := top 11
theorem sc__law_asked_well : FnScope ["_law_found", "_law_due", "_law_pair_here"] ["_law_found", "_law_due"] (defScope s__law_asked_well) := ⟨rfl, rfl, rfl, by decide +kernel, rfl, by decide +kernel, by decide +kernel⟩
def PrK (d : D) : Prop := ∃ (s : Str) (n : Int), d = .tup [.str s, .int n] ∧ PyData.strOk s = true
def sp__law_asked_well : Sp := fun vs H Q _ => ∃ F M v u as, vs = [v, u] ∧ Wf F H M ∧ Rk F M v (.lst as) ∧ Rk F M u (.lst as) ∧ (∀ d ∈ as, PrK d) ∧ as.length ≤ 10000 ∧ ∀ H', Wf F H' M → Q (.bl true) H'
theorem n_lasked {F : List (V × D)} {H : Hp} {M : List ME} {v u : V} {as : List D} {Q : VK} {E : XK} (w : Wf F H M) (hv : Rk F M v (.lst as)) (hu : Rk F M u (.lst as)) (ha : ∀ d ∈ as, PrK d) (hl : as.length ≤ 10000) (q : ∀ H', Wf F H' M → Q (.bl true) H') : sp__law_asked_well ([v, u] ++ []) H Q E := ⟨F, M, v, u, as, rfl, w, hv, hu, ha, hl, q⟩

theorem ok__law_asked_well {f : Addr} {fd : FuncData} (F : Fun K "_law_asked_well" "_law_asked_well" s__law_asked_well f fd) (B : Bn mg) (c__law_whole : Cal P wd K mg base "_law_whole" 1 ["_law_found"] [] sp__law_whole)  : FnOk P wd K mg base CX0 2 f fd ["_law_found", "_law_due"] (sp__law_asked_well) := by
  refine F.ok sc__law_asked_well (fun vs H Q E h => ?_) (fun cdv A outer s H vs Q E hr h => ?_)
  · obtain ⟨F, M, v, u, as, rfl, w, hv, hu, ha, hl, k⟩ := h
    all_goals rfl
  · obtain ⟨F, M, v, u, as, rfl, w, hv, hu, ha, hl, k⟩ := h
    refine ⟨_, (pss_cons (ps_if (pw_or (pt_not (pt_val (pe_callB (k_isi (K := K) rfl) (by rfl) B.isinstance_ (by decide +kernel) (pa_cons (pv 0) (pa_cons (pe_bltn (v := .ty "list") (by rfl) B.list_ (by decide +kernel) rfl) pa_nil))))) (pw_or1 (pt_cmpR (k_ne (K := K) rfl hr.units) (pv 0) (pv 1) (nomark _)))).pt (pss_one (ps_ret pe_bl)) pss_nil)
      (pss_cons (ps_for PassesOwn.never rfl (kpi_list (K := K) rfl (pv 0)) (pg_name (i := 2) sc__law_asked_well.nd rfl (Or.inl rfl)) (pss_one (ps_if (pw_or (pt_not (pt_val (pe_callB (k_isi (K := K) rfl) (by rfl) B.isinstance_ (by decide +kernel) (pa_cons (pv 2) (pa_cons (pe_bltn (v := .ty "tuple") (by rfl) B.tuple_ (by decide +kernel) rfl) pa_nil))))) (pw_or1 (pt_not (pt_val (pe_cal c__law_whole (hr.mono (by decide)) (by rfl) (pa_cons (pe_ix (k_ix (K := K) rfl) (pv 2) pe_int (fun _ _ => rfl)) pa_nil)))))).pt (pss_one (ps_ret pe_bl)) pss_nil)))
      (pss_one (ps_ret pe_bl)))), ?_⟩
    try dsimp only [cxOf, Cx.nox, Cx.wish, Cx.blk]
    wtm_at "n"
    have nb : NB 3 (.lst as) := .lst fun d hd => by
      obtain ⟨s, n, rfl, hs⟩ := ha d hd
      exact .tup fun e he => by
        simp only [List.mem_cons, List.not_mem_nil, or_false] at he
        rcases he with rfl | rfl
        · exact .str hs
        · exact .int _
    refine n_neT (d := .lst as) w hv hu (nb.mono (by decide)) ?_
    wtm_at "n"
    refine n_forL w (ds := as) (fun i σ' F' M' => ∃ x2, σ' = [some v, some u, x2] ∧ F = F' ∧ M = M') (by rintro i σ' F' M' ⟨_, rfl, rfl, rfl⟩; exact hv) ⟨_, rfl, rfl, rfl⟩ ?_ ?_
    · clear w
      rintro i d z σ' H2 F' M' hd ⟨x2, rfl, rfl, rfl⟩ w
      obtain ⟨s, n, rfl, hs⟩ := ha d (List.mem_of_getElem? hd)
      wtm_at "n"
      exact ⟨_, _, ⟨_, rfl, rfl, rfl⟩, w.tail⟩
    · clear w
      rintro σ' H2 F' M' ⟨x2, rfl, rfl, rfl⟩ w
      wtm_at "n"
      exact k _ w
abbrev s__law_asking : Stmt := top 12
theorem sc__law_asking : FnScope ["_law_both", "_law_kept", "_law_due", "_law_log", "_law_table", "_law_at", "_law_key", "_law_wide", "_law_begin", "_law_found", "_law_fresh"] ["_law_both", "_law_kept", "_law_due", "_law_log", "_law_table", "_law_at", "_law_key", "_law_wide"] (defScope s__law_asking) := ⟨rfl, rfl, rfl, by decide +kernel, rfl, by decide +kernel, by decide +kernel⟩
/-- both heights with what the law keeps beside them -/
structure BothAt (C : Addr) (F : List (V × D)) (vb vk : V) (i : Int) (x kd rw q : Addr) (φ : V → Hp → Prop) : Prop where
  b : ∃ ds, (vb, D.lst ds) ∈ F ∧ ds[i.toNat]? = some (.ref x)
  k : ∃ ds, (vk, D.lst ds) ∈ F ∧ ds[i.toNat]? = some (.ref q)
  i0 : 0 ≤ i
  o : (V.ref x, hgO C kd rw φ) ∈ F
theorem n_ixRf {K : PySem.W.Frag} {F : List (V × D)} {H : Hp} {M : List ME} {v : V} {ds : List D} {i : Int} {a : Addr} {Q : VK} (w : Wf F H M) (h : (v, D.lst ds) ∈ F) (e : ds[i.toNat]? = some (.ref a)) (i0 : 0 ≤ i) (q : Q (.ref a) H) : rIx K v (.int i) H Q := n_ixAny w (.mem h) i0 (by have := (List.getElem?_eq_some_iff.mp e).1; omega) fun d u hd w2 => by
  rw [e] at hd
  cases hd
  rw [w2.ref0.1]
  exact q
theorem n_forgetQ {C : Addr} {F : List (V × D)} {H : Hp} {M : List ME} {x kd rw : Addr} {φ : V → Hp → Prop} {m : Str} {A : Prop} (w : Wf F H M) (hx : (V.ref x, hgO C kd rw φ) ∈ F) (hm : m ∉ (["measure", "known", "row"] : List Str)) (q : A) : MethQ C m (.ref x) H A := n_meth w (.mem hx) (by simpa only [List.map_cons, List.map_nil] using hm) q
/-- all that a deed may change: one of both heights, what the law keeps and is due of it, the table, the log -/
abbrev wld (kd q rw dd : Addr) (kn : KN) (as : List D) (ca cb pt pl : Addr) (tb : List (Key × D)) (lg : List D) (M : List ME) : List ME := .dt kd kn :: .ml rw as :: .cel ca (.ref pt) :: .cel cb (.ref pl) :: .dk pt tb :: .ml pl lg :: .dt q kn :: .ml dd as :: M
def sp__law_asking (P : Program) (wo : World) (K : PySem.W.Frag) (mg : Str → Option Value) (base : Heap) (C : Addr) : Sp := fun vs H Q _ => ∃ F M vb vk vd x kd rw q dd ca cb pt pl kn as tb lg key, ∃ i wide a b : Int, vs = [vb, vk, vd, .ref pl, .ref pt, .int i, .str key, .int wide] ∧ BothAt C F vb vk i x kd rw q (meD P wo K mg base ca cb) ∧ (∃ ds, (vd, D.lst ds) ∈ F ∧ ds[i.toNat]? = some (.ref dd)) ∧ Wf F H (wld kd q rw dd kn as ca cb pt pl tb lg M) ∧ KpOk kn ∧ kn.length ≤ 900 ∧ as.length ≤ 900 ∧ (∀ d ∈ as, PrK d) ∧ PyData.strOk key = true ∧ getP tb (.inr key) = some (.tup [.int a, .int b]) ∧ 0 ≤ wide ∧ wide ≤ 1000000000000 ∧ 0 ≤ a ∧ a ≤ 1000000 ∧ 0 ≤ b ∧ b ≤ 1000000000 ∧ lg.length ≤ 9000 ∧
  ∀ H' kn' as' lg', KpOk kn' → kn'.length ≤ kn.length + 1 → as'.length ≤ as.length + 1 → (∀ d ∈ as', PrK d) → lg'.length ≤ lg.length + 1 → Wf F H' (wld kd q rw dd kn' as' ca cb pt pl tb lg' M) → Q (.bl true) H'

theorem ok__law_asking {f : Addr} {fd : FuncData} (F : Fun K "_law_asking" "_law_asking" s__law_asking f fd) (B : Bn mg) (c__law_whole : Cal P wd K mg base "_law_whole" 1 ["_law_found"] [] sp__law_whole) (t_Heights_height_of : Met P wd K mg base "height_of" C_Heights 9 ["self", "key", "wide"] [] (sp_Heights_height_of P wd K mg base C_Heights)) (o_Heights : OwnC K C_Heights) (n_Heights : ∀ f ∈ (["measure", "known", "row"] : List Str), NoAttr K C_Heights f)  : FnOk P wd K mg base CX0 10 f fd ["_law_both", "_law_kept", "_law_due", "_law_log", "_law_table", "_law_at", "_law_key", "_law_wide"] (sp__law_asking P wd K mg base C_Heights) := by
  refine F.ok sc__law_asking (fun vs H Q E h => ?_) (fun cdv A outer s H vs Q E hr h => ?_)
  · obtain ⟨F, M, vb, vk, vd, x, kd, rw, q, dd, ca, cb, pt, pl, kn, as, tb, lg, key, i, wide, a, b, rfl, bo, hdd, w, ok, hkl, hal, hpr, hso, hg, w0, w1, a0, a1, b0, b1, hll, k⟩ := h
    all_goals rfl
  · obtain ⟨F, M, vb, vk, vd, x, kd, rw, q, dd, ca, cb, pt, pl, kn, as, tb, lg, key, i, wide, a, b, rfl, bo, hdd, w, ok, hkl, hal, hpr, hso, hg, w0, w1, a0, a1, b0, b1, hll, k⟩ := h
    refine ⟨_, (pss_cons (ps_set (i := 8) sc__law_asking.nd rfl (Or.inl rfl) (pe_callB (k_len (K := K) rfl) (by rfl) B.len_ (by decide +kernel) (pa_cons (pv 3) pa_nil)))
      (pss_cons (ps_set (i := 9) sc__law_asking.nd rfl (Or.inl rfl) (pe_met (pe_ix (k_ix (K := K) rfl) (pv 0) (pv 5) (fun _ _ => rfl)) t_Heights_height_of (hr.mono (by decide)) (pa_cons (pv 6) (pa_cons (pv 7) pa_nil))))
      (pss_cons (ps_set (i := 10) sc__law_asking.nd rfl (Or.inl rfl) (pe_lst pa_nil))
      (pss_cons (ps_if (pt_cmp (pc_dnotin (hu1 hr.units) (pe_tup (pa_cons (pv 6) (pa_cons (pv 7) pa_nil))) (pe_ix (k_ix (K := K) rfl) (pv 1) (pv 5) (fun _ _ => rfl)))) (pss_cons (ps_dput (hu1 hr.units) (pe_ix (k_ix (K := K) rfl) (pv 1) (pv 5) (fun _ _ => rfl)) (pe_tup (pa_cons (pv 6) (pa_cons (pv 7) pa_nil))) (pe_op op_mod (pe_op (k_add (K := K) rfl) (pe_ix (k_ix (K := K) rfl) (pe_dget (hu1 hr.units) (pv 4) (pv 6) (fun _ _ => rfl)) pe_int (fun _ _ => rfl)) (pe_op op_fdivW (pe_ix (k_ix (K := K) rfl) (pe_dget (hu1 hr.units) (pv 4) (pv 6) (fun _ _ => rfl)) pe_int (fun _ _ => rfl)) (pe_op (k_add (K := K) rfl) (pv 7) pe_int))) pe_int) rfl)
      (pss_cons (ps_expr (pe_bm PySem.F.plainAttrs_list PySem.F.slot_list_append PySem.F.type_list_append mt_append (pe_ix (k_ix (K := K) rfl) (pv 2) (pv 5) (fun _ _ => rfl)) (pa_cons (pe_tup (pa_cons (pv 6) (pa_cons (pv 7) pa_nil))) pa_nil)))
      (pss_one (ps_set (i := 10) sc__law_asking.nd rfl (Or.inl rfl) (pe_lst (pa_cons (pe_tup (pa_cons (pv 6) (pa_cons (pv 7) pa_nil))) pa_nil)))))) pss_nil)
      (pss_one (ps_ret (pe_and (pe_cal c__law_whole (hr.mono (by decide)) (by rfl) (pa_cons (pv 9) pa_nil)) (pe_and (pe_cmpR (k_eq (K := K) rfl hr.units) (pv 9) (pe_dget (hu1 hr.units) (pe_ix (k_ix (K := K) rfl) (pv 1) (pv 5) (fun _ _ => rfl)) (pe_tup (pa_cons (pv 6) (pa_cons (pv 7) pa_nil))) (fun _ _ => rfl)) (nomark _)) (pe_one (pe_cmpR (k_eq (K := K) rfl hr.units) (pe_slice (k_sl (K := K) rfl) (pv 3) (po_some (pv 8)) po_none) (pv 10) (nomark _))))))))))), ?_⟩
    try dsimp only [cxOf, Cx.nox, Cx.wish, Cx.blk]
    rw [show L2.start (["_law_both", "_law_kept", "_law_due", "_law_log", "_law_table", "_law_at", "_law_key", "_law_wide", "_law_begin", "_law_found", "_law_fresh"] : List Str) [vb, vk, vd, .ref pl, .ref pt, .int i, .str key, .int wide] = [some vb, some vk, some vd, some (.ref pl), some (.ref pt), some (.int i), some (.str key), some (.int wide), none, none, none] from rfl]
    have bo2 := bo
    obtain ⟨⟨bs, hb, hbi⟩, ⟨kl, hk, hki⟩, i0, ho⟩ := bo
    obtain ⟨ds, hd, hdi⟩ := hdd
    wtm_at "sq2"
    simp only [List.set_cons_succ, List.set_cons_zero]
    wtm_at "n"
    refine n_ixRf w hb hbi i0 ?_
    wtm_at "n"
    refine ⟨F, .dt q kn :: .ml dd as :: M, x, kd, rw, ca, cb, pt, pl, tb, lg, kn, as, key, wide, a, b, rfl, w, .mem ho, ok, by omega, by omega, hg, w0, w1, a0, a1, b0, b1, by omega, fun m H1 hm w => ?_, fun H1 hn w => ?_⟩
    · replace w : Wf F H1 (wld kd q rw dd kn as ca cb pt pl tb lg M) := w
      wtm_at "n"
      rename_i pl1 H2 w2 pk3 H3 w3
      refine n_ixRf w3 (.tail _ hk) hki i0 ?_
      wtm_at "n"
      refine n_dinT (kvs := kn) (k := [.inr key, .inl wide]) w3 (by simp) (.mem (.head _)) ?_
      rw [hm, Option.isSome_some]
      wtm_at "n"
      refine n_ixRf w3 (.tail _ hk) hki i0 ?_
      clear w w2
      wtm_at "n"
      rename_i pk4 H4 w4
      refine n_dgetT (kvs := kn) (k := [.inr key, .inl wide]) w4 (by simp) (.mem (.head _)) hm fun u w => ?_
      have e := (w.rd (.mem (.head _)) : Is _ u (.int m)).int_eq
      subst e
      clear w3 w4
      wtm_at "n"
      rename_i ps H5 w5
      clear w
      rw [show cutD lg (some (lg.length : Int)) none = [] by have := cut_tailL lg []; rw [List.append_nil] at this; exact this] at w5
      have nb0 : NB 1 (.lst []) := .lst (k := 0) fun d hd => (nomatch hd)
      refine n_eq (b := true) w5 (d := .lst []) (e := .lst []) (.ml (.head _)) (.ml (.tail _ (.head _))) nb0 nb0 (by decide) (by decide) (by simp) ?_
      wtm_at "n"
      exact k _ kn as lg ok (by omega) (by omega) hpr (by omega) (w5.sub (fun f hf => .mem (by simp [hf])) (.cons _ (.cons _ (.refl _))))
    · replace w : Wf F H1 (.dt kd (kn ++ [([.inr key, .inl wide], .int (msr a b wide))]) :: .ml rw (as ++ [.tup [.str key, .int wide]]) :: .cel ca (.ref pt) :: .cel cb (.ref pl) :: .dk pt tb :: .ml pl (lg ++ [.tup [.str key, .int wide]]) :: .dt q kn :: .ml dd as :: M) := w
      wtm_at "n"
      rename_i pl1 H2 w2 pk3 H3 w3
      refine n_ixRf w3 (.tail _ hk) hki i0 ?_
      wtm_at "n"
      refine n_dinT (kvs := kn) (k := [.inr key, .inl wide]) w3 (by simp) (.mem (.head _)) ?_
      rw [hn, Option.isSome_none]
      wtm_at "n"
      clear w w2
      refine n_dgetK (kvs := tb) (k := .inr key) w3 (by simp) (.str _) hg fun u w => ?_
      clear w3
      wtm_at "n"
      refine n_dgetK (kvs := tb) (k := .inr key) w (by simp) (.str _) hg fun u2 w => ?_
      wtm_at "n"
      refine s_I (cd64 (by omega) (by omega)) ?_
      wtm_at "n"
      refine s_I (show (0 : Int) < 1000001 by decide) ?_
      rw [show (a + b / (wide + 1)) % 1000001 = msr a b wide from rfl]
      wtm_at "n"
      refine n_ixRf w (.tail _ (.tail _ (.tail _ hk))) hki i0 ?_
      wtm_at "n"
      rename_i pk5 H5 w5
      clear w
      refine n_dputT (kvs := kn) (k := [.inr key, .inl wide]) (d := .int (msr a b wide)) w5 (.there (.there (.there (.there (.there (.there (.there .here))))))) (.mem (.head _)) (.int _) (by omega) fun H6 w => ?_
      rw [(ok.put key wide (msr a b wide) hn).2] at w
      clear w5
      wtm_at "n"
      refine n_ixRf w (.tail _ (.tail _ (.tail _ (.tail _ hd)))) hdi i0 ?_
      wtm_at "n"
      rename_i pf H8 w8
      clear w
      refine n_ixRf w8 (by simp [hk]) hki i0 ?_
      wtm_at "n"
      rename_i pk7 H9 w9
      clear w8
      have hnew : getP (kn ++ [(([.inr key, .inl wide] : List Key), D.int (msr a b wide))]) [.inr key, .inl wide] = some (.int (msr a b wide)) := by
        rw [← (ok.put key wide (msr a b wide) hn).2]
        exact getP_new hn
      refine n_dgetT (kvs := kn ++ [(([.inr key, .inl wide] : List Key), D.int (msr a b wide))]) (k := [.inr key, .inl wide]) w9 (by simp) (.mem (.head _)) hnew fun u3 w => ?_
      have e := (w.rd (.mem (.head _)) : Is _ u3 (.int (msr a b wide))).int_eq
      subst e
      clear w9
      wtm_at "n"
      rename_i ps HA wA
      clear w
      rw [cut_tailL lg [.tup [.str key, .int wide]]] at wA
      have nb1 : NB 3 (.lst [.tup [.str key, .int wide]]) := .lst fun d hd => by
        rw [List.mem_singleton.mp hd]
        exact .tup fun e he => by
          simp only [List.mem_cons, List.not_mem_nil, or_false] at he
          rcases he with rfl | rfl
          · exact .str hso
          · exact .int _
      refine n_eq (b := true) wA (d := .lst [.tup [.str key, .int wide]]) (e := .lst [.tup [.str key, .int wide]]) (.ml (.head _)) (.ml (.tail _ (.head _))) nb1 nb1 (by decide) (by decide) (by simp) ?_
      wtm_at "n"
      refine k _ (kn ++ [([.inr key, .inl wide], .int (msr a b wide))]) (as ++ [.tup [.str key, .int wide]]) (lg ++ [.tup [.str key, .int wide]]) ?_ (by simp) (by simp) (fun d hd => ?_) (by simp) (wA.sub (fun f hf => .mem (by simp [hf])) (.cons _ (.cons _ (.cons _ (.refl _)))))
      · rw [← (ok.put key wide (msr a b wide) hn).2]
        exact (ok.put key wide (msr a b wide) hn).1
      · rcases List.mem_append.mp hd with hd | hd
        · exact hpr d hd
        · exact ⟨key, wide, List.mem_singleton.mp hd, hso⟩
abbrev s__law_forgetting : Stmt := top 13
theorem sc__law_forgetting : FnScope ["_law_both", "_law_kept", "_law_at", "_law_key", "_law_pair_here"] ["_law_both", "_law_kept", "_law_at", "_law_key"] (defScope s__law_forgetting) := ⟨rfl, rfl, rfl, by decide +kernel, rfl, by decide +kernel, by decide +kernel⟩
def sp__law_forgetting (C : Addr) : Sp := fun vs H Q _ => ∃ F M vb vk x kd rw q φ kn key, ∃ i : Int, vs = [vb, vk, .int i, .str key] ∧ BothAt C F vb vk i x kd rw q φ ∧ Wf F H (.dt kd kn :: .dt q kn :: M) ∧ KpOk kn ∧ kn.length ≤ 1000 ∧ ∀ H', Wf F H' (.dt kd (fgt kn key) :: .dt q (fgt kn key) :: M) → Q (.bl true) H'
theorem n_lforg {C : Addr} {F : List (V × D)} {H : Hp} {M : List ME} {vb vk : V} {x kd rw q : Addr} {φ : V → Hp → Prop} {kn : KN} {key : Str} {i : Int} {Q : VK} {E : XK} (bo : BothAt C F vb vk i x kd rw q φ) (w : Wf F H (.dt kd kn :: .dt q kn :: M)) (ok : KpOk kn) (hl : kn.length ≤ 1000) (k : ∀ H', Wf F H' (.dt kd (fgt kn key) :: .dt q (fgt kn key) :: M) → Q (.bl true) H') : sp__law_forgetting C ([vb, vk, .int i, .str key] ++ []) H Q E := ⟨F, M, vb, vk, x, kd, rw, q, φ, kn, key, i, rfl, bo, w, ok, hl, k⟩

theorem ok__law_forgetting {f : Addr} {fd : FuncData} (F : Fun K "_law_forgetting" "_law_forgetting" s__law_forgetting f fd) (B : Bn mg) (t_Heights_forget : Met P wd K mg base "forget" C_Heights 1 ["self", "key"] [] (sp_Heights_forget C_Heights)) (o_Heights : OwnC K C_Heights) (n_Heights : ∀ f ∈ (["measure", "known", "row"] : List Str), NoAttr K C_Heights f)  : FnOk P wd K mg base CX0 2 f fd ["_law_both", "_law_kept", "_law_at", "_law_key"] (sp__law_forgetting C_Heights) := by
  refine F.ok sc__law_forgetting (fun vs H Q E h => ?_) (fun cdv A outer s H vs Q E hr h => ?_)
  · obtain ⟨F, M, vb, vk, x, kd, rw, q, φ, kn, key, i, rfl, bo, w, ok, hl, k⟩ := h
    all_goals rfl
  · obtain ⟨F, M, vb, vk, x, kd, rw, q, φ, kn, key, i, rfl, bo, w, ok, hl, k⟩ := h
    refine ⟨_, (pss_cons (ps_for PassesOwn.never rfl (kpi_list (K := K) rfl (pe_callTy (k_listKG rfl) (by rfl) B.list_ (by decide +kernel) (pa_cons (pe_ix (k_ix (K := K) rfl) (pv 1) (pv 2) (fun _ _ => rfl)) pa_nil))) (pg_name (i := 4) sc__law_forgetting.nd rfl (Or.inl rfl)) (pss_one (ps_if (pt_cmpR (k_eq (K := K) rfl hr.units) (pe_ix (k_ix (K := K) rfl) (pv 4) pe_int (fun _ _ => rfl)) (pv 3) (nomark _)) (pss_one (ps_expr (pe_dpopT (hu1 hr.units) (pe_ix (k_ix (K := K) rfl) (pv 1) (pv 2) (fun _ _ => rfl)) (pv 4) ⟨rfl, rfl, rfl, rfl⟩))) pss_nil)))
      (pss_one (ps_ret (pe_cmp (pc_isN (pe_met (pe_ix (k_ix (K := K) rfl) (pv 0) (pv 2) (fun _ _ => rfl)) t_Heights_forget (hr.mono (by decide)) (pa_cons (pv 3) pa_nil))))))), ?_⟩
    try dsimp only [cxOf, Cx.nox, Cx.wish, Cx.blk]
    obtain ⟨⟨bs, hb, hbi⟩, ⟨kl, hk, hki⟩, i0, ho⟩ := bo
    rw [show L2.start (["_law_both", "_law_kept", "_law_at", "_law_key", "_law_pair_here"] : List Str) [vb, vk, .int i, .str key] = [some vb, some vk, some (.int i), some (.str key), none] from rfl]
    wtm_at "n"
    refine n_ixRf w hk hki i0 ?_
    wtm_at "n"
    refine n_listKG w (.tail _ (.head _)) fun l H1 w => ?_
    refine n_forL w (ds := kn.map fun kv => tupK kv.1) (fun j σ' F' M' => ∃ x4, σ' = [some vb, some vk, some (.int i), some (.str key), x4] ∧ F = F' ∧ M' = .ml l (kn.map fun kv => tupK kv.1) :: .dt kd kn :: .dt q (fgI kn key j) :: M) (by rintro j σ' F' M' ⟨_, rfl, rfl, rfl⟩; exact .ml (.head _)) ⟨_, rfl, rfl, by rw [fgI_zero]⟩ ?_ ?_
    · clear w
      rintro j d z σ' H2 F' M' hd ⟨x4, rfl, rfl, rfl⟩ w
      rw [List.getElem?_map] at hd
      obtain ⟨kv, hkv, rfl⟩ := Option.map_eq_some_iff.mp hd
      obtain ⟨s, n, m, rfl⟩ := ok.1 kv (List.mem_of_getElem? hkv)
      replace w : Wf ((z, .tup [.str s, .int n]) :: F) H2 (.ml l (kn.map fun kv => tupK kv.1) :: .dt kd kn :: .dt q (fgI kn key j) :: M) := w
      wtm_at "n"
      rename_i u wu
      have e0 := (wu.rd (.mem (.head _)) : Is _ u (.str s)).str_eq
      subst e0
      clear wu
      wtm_at "n"
      by_cases he : s = key
      · subst he
        wtm_at "n"
        refine s_dpopT ?_
        wtm_at "n"
        refine n_ixRf w (.tail _ hk) hki i0 ?_
        obtain ⟨g1, g2⟩ := fgI_hit hkv (key := s) (by unfold fgP; simp) ok.2
        refine n_dOn w (.tail _ (.tail _ (.head _))) ?_
        wtm_at "n"
        refine n_dpopT (k := [.inr s, .inl n]) w (.there (.there .here)) (.mem (.head _)) g1 fun u H3 w => ?_
        rw [g2] at w
        wtm_at "n"
        exact ⟨_, _, ⟨_, rfl, rfl, rfl⟩, w.sub (fun f hf => .mem (by simp [hf])) (.refl _)⟩
      · rw [decide_eq_false (show ¬ V.str s = V.str key from fun h => he (V.str.inj h))]
        wtm_at "n"
        exact ⟨_, _, ⟨_, rfl, rfl, by rw [fgI_miss hkv (by unfold fgP; simp [he])]⟩, w.tail⟩
    · clear w
      rintro σ' H2 F' M' ⟨x4, rfl, rfl, rfl⟩ w
      rw [List.length_map, fgI_end] at w
      replace w : Wf F H2 (.dt kd kn :: .dt q (fgt kn key) :: M) := w.sub KS.refl (.cons _ (.refl _))
      wtm_at "n"
      refine n_ixRf w hb hbi i0 ?_
      wtm_at "n"
      refine n_forget w (.mem ho) ok hl fun H3 w => ?_
      wtm_at "n"
      exact k _ w
abbrev s__law_pair : Stmt := top 14
theorem sc__law_pair : FnScope ["_law_bag_here"] ["_law_bag_here"] (defScope s__law_pair) := ⟨rfl, rfl, rfl, by decide +kernel, rfl, by decide +kernel, by decide +kernel⟩
def sp__law_pair : Sp := fun vs H Q _ => ∃ F M b, vs = [.ref b] ∧ Wf F H M ∧ .bag b ∈ M ∧ ∀ t H' (x y : Int), 0 ≤ x → x ≤ 1000000 → 0 ≤ y → y ≤ 1000000000 → Wf ((t, .tup [.int x, .int y]) :: F) H' M → Q t H'
theorem n_lpair {F : List (V × D)} {H : Hp} {M : List ME} {b : Addr} {Q : VK} {E : XK} (w : Wf F H M) (hb : .bag b ∈ M) (q : ∀ t H' (x y : Int), 0 ≤ x → x ≤ 1000000 → 0 ≤ y → y ≤ 1000000000 → Wf ((t, .tup [.int x, .int y]) :: F) H' M → Q t H') : sp__law_pair ([.ref b] ++ []) H Q E := ⟨F, M, b, rfl, w, hb, q⟩

theorem ok__law_pair {f : Addr} {fd : FuncData} (F : Fun K "_law_pair" "_law_pair" s__law_pair f fd) (B : Bn mg) (c__law_length : Cal P wd K mg base "_law_length" 2 ["_law_bag_here", "_law_most"] [] sp__law_length)  : FnOk P wd K mg base CX0 3 f fd ["_law_bag_here"] (sp__law_pair) := by
  refine F.ok sc__law_pair (fun vs H Q E h => ?_) (fun cdv A outer s H vs Q E hr h => ?_)
  · obtain ⟨F, M, b, rfl, w, hb, k⟩ := h
    all_goals rfl
  · obtain ⟨F, M, b, rfl, w, hb, k⟩ := h
    refine ⟨_, (pss_one (ps_ret (pe_tup (pa_cons (pe_cal c__law_length (hr.mono (by decide)) (by rfl) (pa_cons (pv 0) (pa_cons pe_int pa_nil))) (pa_cons (pe_cal c__law_length (hr.mono (by decide)) (by rfl) (pa_cons (pv 0) (pa_cons pe_int pa_nil))) pa_nil))))), ?_⟩
    try dsimp only [cxOf, Cx.nox, Cx.wish, Cx.blk]
    wtm_at "n"
    refine n_length w hb (by omega) (by omega) fun x H1 x0 x1 w => ?_
    wtm_at "n"
    refine n_length w hb (by omega) (by omega) fun y H2 y0 y1 w => ?_
    wtm_at "n"
    rename_i t H3 w3
    exact k _ _ x y x0 x1 y0 y1 w3
abbrev s__law_deed : Stmt := top 15
theorem sc__law_deed : FnScope ["_law_bag_here", "_law_both", "_law_kept", "_law_due", "_law_log", "_law_table", "_law_keys_here", "_law_wides", "_law_at", "_law_key", "_law_way", "_law_wide"] ["_law_bag_here", "_law_both", "_law_kept", "_law_due", "_law_log", "_law_table", "_law_keys_here", "_law_wides"] (defScope s__law_deed) := ⟨rfl, rfl, rfl, by decide +kernel, rfl, by decide +kernel, by decide +kernel⟩
theorem permI {L : List ME} {p : List Nat} (h0 : p.Perm (List.range 12)) (hl : L.length = 12 := by rfl) : (p.map fun i => L.getD i (.bag 0)).Perm L := by
  have h : p.Perm (List.range L.length) := by rw [hl]; exact h0
  have e : (List.range L.length).map (fun i => L.getD i (.bag 0)) = L := by
    apply List.ext_getElem (by simp)
    intro i h1 h2
    simp [List.getD_eq_getElem?_getD, List.getElem?_eq_getElem h2]
  have := h.map fun i => L.getD i (.bag 0)
  rw [e] at this
  exact this
structure HW where
  x : Addr
  kd : Addr
  rw : Addr
  q : Addr
  dd : Addr
structure SS where
  kn : KN
  as : List D
structure SSOk (n : Nat) (s : SS) : Prop where
  k : KpOk s.kn
  kl : s.kn.length ≤ n
  al : s.as.length ≤ n
  p : ∀ d ∈ s.as, PrK d
theorem SSOk.mono {n m : Nat} {s : SS} (h : SSOk n s) (e : n ≤ m) : SSOk m s := ⟨h.k, Nat.le_trans h.kl e, Nat.le_trans h.al e, h.p⟩
abbrev full (ca cb pt pl : Addr) (tb : List (Key × D)) (lg : List D) (h0 : HW) (s0 : SS) (h1 : HW) (s1 : SS) (M : List ME) : List ME := .cel ca (.ref pt) :: .cel cb (.ref pl) :: .dk pt tb :: .ml pl lg :: .dt h0.kd s0.kn :: .ml h0.rw s0.as :: .dt h0.q s0.kn :: .ml h0.dd s0.as :: .dt h1.kd s1.kn :: .ml h1.rw s1.as :: .dt h1.q s1.kn :: .ml h1.dd s1.as :: M
def TbOk (ks : List Str) (tb : List (Key × D)) : Prop := tb.length ≤ 1000 ∧ ∀ z ∈ ks, ∃ a b : Int, getP tb (.inr z) = some (.tup [.int a, .int b]) ∧ 0 ≤ a ∧ a ≤ 1000000 ∧ 0 ≤ b ∧ b ≤ 1000000000
structure HF (C : Addr) (F : List (V × D)) (vb vk vd vs vw : V) (h0 h1 : HW) (φ : V → Hp → Prop) (ks : List Str) (ws : List Int) : Prop where
  b : (vb, D.lst [.ref h0.x, .ref h1.x]) ∈ F
  k : (vk, D.lst [.ref h0.q, .ref h1.q]) ∈ F
  d : (vd, D.lst [.ref h0.dd, .ref h1.dd]) ∈ F
  o0 : (V.ref h0.x, hgO C h0.kd h0.rw φ) ∈ F
  o1 : (V.ref h1.x, hgO C h1.kd h1.rw φ) ∈ F
  s : (vs, D.lst (ks.map D.str)) ∈ F
  w : (vw, D.lst (ws.map D.int)) ∈ F
  kn : ks ≠ []
  kl : ks.length ≤ 12
  km : ∀ z ∈ ks, Nm z
  wl : ws.length = 3
  wb : ∀ x ∈ ws, 0 ≤ x ∧ x ≤ 1000000000000
def sp__law_deed (P : Program) (wo : World) (K : PySem.W.Frag) (mg : Str → Option Value) (base : Heap) (C : Addr) : Sp := fun vs H Q _ => ∃ F M b vb vk vd vs' vw ca cb pt pl tb lg h0 s0 h1 s1 ks ws, ∃ n : Nat, vs = [.ref b, vb, vk, vd, .ref pl, .ref pt, vs', vw] ∧ HF C F vb vk vd vs' vw h0 h1 (meD P wo K mg base ca cb) ks ws ∧ Wf F H (full ca cb pt pl tb lg h0 s0 h1 s1 M) ∧ .bag b ∈ M ∧ TbOk ks tb ∧ SSOk n s0 ∧ SSOk n s1 ∧ lg.length ≤ n ∧ n ≤ 800 ∧
  ∀ H' tb' lg' s0' s1', TbOk ks tb' → SSOk (n + 1) s0' → SSOk (n + 1) s1' → lg'.length ≤ n + 1 → Wf F H' (full ca cb pt pl tb' lg' h0 s0' h1 s1' M) → Q (.bl true) H'

theorem ok__law_deed {f : Addr} {fd : FuncData} (F : Fun K "_law_deed" "_law_deed" s__law_deed f fd) (B : Bn mg) (c__law_take : Cal P wd K mg base "_law_take" 1 ["_law_bag_here", "_law_many"] [] sp__law_take) (c__law_length : Cal P wd K mg base "_law_length" 2 ["_law_bag_here", "_law_most"] [] sp__law_length) (c__law_pair : Cal P wd K mg base "_law_pair" 3 ["_law_bag_here"] [] (sp__law_pair)) (c__law_forgetting : Cal P wd K mg base "_law_forgetting" 2 ["_law_both", "_law_kept", "_law_at", "_law_key"] [] (sp__law_forgetting C_Heights)) (c__law_asking : Cal P wd K mg base "_law_asking" 10 ["_law_both", "_law_kept", "_law_due", "_law_log", "_law_table", "_law_at", "_law_key", "_law_wide"] [] (sp__law_asking P wd K mg base C_Heights)) (o_Heights : OwnC K C_Heights) (n_Heights : ∀ f ∈ (["measure", "known", "row"] : List Str), NoAttr K C_Heights f)  : FnOk P wd K mg base CX0 11 f fd ["_law_bag_here", "_law_both", "_law_kept", "_law_due", "_law_log", "_law_table", "_law_keys_here", "_law_wides"] (sp__law_deed P wd K mg base C_Heights) := by
  refine F.ok sc__law_deed (fun vs H Q E h => ?_) (fun cdv A outer s H vs Q E hr h => ?_)
  · obtain ⟨F, M, b, vb, vk, vd, vs', vw, ca, cb, pt, pl, tb, lg, h0, s0, h1, s1, ks, ws, n, rfl, hf, w, hb, ht, ok0, ok1, hll, hn, k⟩ := h
    all_goals rfl
  · obtain ⟨F, M, b, vb, vk, vd, vs', vw, ca, cb, pt, pl, tb, lg, h0, s0, h1, s1, ks, ws, n, rfl, hf, w, hb, ht, ok0, ok1, hll, hn, k⟩ := h
    refine ⟨_, (pss_cons (ps_set (i := 8) sc__law_deed.nd rfl (Or.inl rfl) (pe_cal c__law_take (hr.mono (by decide)) (by rfl) (pa_cons (pv 0) (pa_cons pe_int pa_nil))))
      (pss_cons (ps_set (i := 9) sc__law_deed.nd rfl (Or.inl rfl) (pe_ix (k_ix (K := K) rfl) (pv 6) (pe_cal c__law_take (hr.mono (by decide)) (by rfl) (pa_cons (pv 0) (pa_cons (pe_callB (k_len (K := K) rfl) (by rfl) B.len_ (by decide +kernel) (pa_cons (pv 6) pa_nil)) pa_nil))) (fun _ _ => rfl)))
      (pss_cons (ps_set (i := 10) sc__law_deed.nd rfl (Or.inl rfl) (pe_cal c__law_take (hr.mono (by decide)) (by rfl) (pa_cons (pv 0) (pa_cons pe_int pa_nil))))
      (pss_cons (ps_set (i := 11) sc__law_deed.nd rfl (Or.inl rfl) (pe_ix (k_ix (K := K) rfl) (pv 7) (pe_cal c__law_take (hr.mono (by decide)) (by rfl) (pa_cons (pv 0) (pa_cons pe_int pa_nil))) (fun _ _ => rfl)))
      (pss_cons (ps_if (pt_cmpR (k_eq (K := K) rfl hr.units) (pv 10) pe_int (nomark _)) (pss_one (ps_set (i := 11) sc__law_deed.nd rfl (Or.inl rfl) (pe_cal c__law_length (hr.mono (by decide)) (by rfl) (pa_cons (pv 0) (pa_cons pe_int pa_nil))))) pss_nil)
      (pss_cons (ps_if (pt_cmpR (k_eq (K := K) rfl hr.units) (pv 10) pe_int (nomark _)) (pss_cons (ps_dput (hu1 hr.units) (pv 5) (pv 9) (pe_cal c__law_pair (hr.mono (by decide)) (by rfl) (pa_cons (pv 0) pa_nil)) rfl)
      (pss_one (ps_ret pe_bl))) pss_nil)
      (pss_cons (ps_if (pt_cmpR (k_eq (K := K) rfl hr.units) (pv 10) pe_int (nomark _)) (pss_one (ps_ret (pe_cal c__law_forgetting (hr.mono (by decide)) (by rfl) (pa_cons (pv 1) (pa_cons (pv 2) (pa_cons (pv 8) (pa_cons (pv 9) pa_nil))))))) pss_nil)
      (pss_one (ps_ret (pe_cal c__law_asking (hr.mono (by decide)) (by rfl) (pa_cons (pv 1) (pa_cons (pv 2) (pa_cons (pv 3) (pa_cons (pv 4) (pa_cons (pv 5) (pa_cons (pv 8) (pa_cons (pv 9) (pa_cons (pv 11) pa_nil)))))))))))))))))), ?_⟩
    try dsimp only [cxOf, Cx.nox, Cx.wish, Cx.blk]
    rw [show L2.start (["_law_bag_here", "_law_both", "_law_kept", "_law_due", "_law_log", "_law_table", "_law_keys_here", "_law_wides", "_law_at", "_law_key", "_law_way", "_law_wide"] : List Str) [.ref b, vb, vk, vd, .ref pl, .ref pt, vs', vw] = [some (.ref b), some vb, some vk, some vd, some (.ref pl), some (.ref pt), some vs', some vw, none, none, none, none] from rfl]
    have hkl := hf.kl
    have hkn : 0 < ks.length := List.length_pos_iff.mpr hf.kn
    have hwl := hf.wl
    have hws : (vs', D.lst (ks.map D.str)) ∈ F := hf.s
    have w9 := w.sub (F' := (vs', .lst (ks.map D.str)) :: (vw, .lst (ws.map D.int)) :: F) (KS.cons (.mem hf.s) (KS.cons (.mem hf.w) KS.refl)) (.refl _)
    clear w
    have w := w9
    clear w9
    wtm_at "sq2"
    refine n_take w (by simp [hb]) (by omega) (by omega) fun i H1 i0 i1 w => ?_
    wtm_at "sq2"
    simp only [List.set_cons_succ, List.set_cons_zero]
    wtm_at "n"
    refine n_take w (by simp [hb]) (by simp; omega) (by simp; omega) fun j0 H2 j1 j2 w => ?_
    obtain ⟨j, rfl⟩ : ∃ j : Nat, j0 = j := ⟨j0.toNat, by omega⟩
    rw [List.length_map] at j2
    obtain ⟨key, hkey⟩ : ∃ key, ks[j]? = some key := ⟨_, List.getElem?_eq_getElem (by omega)⟩
    have hkm := hf.km key (List.mem_of_getElem? hkey)
    obtain ⟨a, bb, hg, a0, a1, b0, b1⟩ := ht.2 key (List.mem_of_getElem? hkey)
    refine n_ixAny w (.mem (.head _)) (by omega) (by rw [List.length_map]; omega) fun d u hd w => ?_
    rw [Int.toNat_natCast, List.getElem?_map, hkey] at hd
    cases hd
    have e0 := (w.rd (.mem (.head _)) : Is _ u (.str key)).str_eq
    subst e0
    replace w := w.tail
    wtm_at "n"
    refine n_take w (by simp [hb]) (by omega) (by omega) fun way H3 w0 w1 w => ?_
    wtm_at "n"
    refine n_take w (by simp [hb]) (by omega) (by omega) fun t H4 t0 t1 w => ?_
    wtm_at "n"
    refine n_ixAny w (.mem (.tail _ (.head _))) t0 (by rw [List.length_map]; omega) fun d u hd w => ?_
    obtain ⟨wide0, hwm, rfl⟩ := List.mem_map.mp (List.mem_of_getElem? hd)
    have e1 := (w.rd (.mem (.head _)) : Is _ u (.int wide0)).int_eq
    subst e1
    have hwb := hf.wb wide0 hwm
    have w9 : Wf F H4 (full ca cb pt pl tb lg h0 s0 h1 s1 M) := w.sub (fun f hf => .mem (by simp [hf])) (.refl _)
    clear w
    have w := w9
    clear w9
    wtm_at "sq2"
    simp only [List.set_cons_succ, List.set_cons_zero]
    with_reducible refine s_midH (fun σ' H' => ∃ wide : Int, 0 ≤ wide ∧ wide ≤ 1000000000000 ∧ σ' = [some (.ref b), some vb, some vk, some vd, some (.ref pl), some (.ref pt), some vs', some vw, some (.int i), some (.str key), some (.int way), some (.int wide)] ∧ Wf F H' (full ca cb pt pl tb lg h0 s0 h1 s1 M)) ?_ (fun N fin => ?_)
    rotate_left
    · wtm_at "n"
      by_cases hw0 : way = 0
      · subst hw0
        wtm_at "no"
        refine n_length w (by simp [hb]) (by omega) (by omega) fun x H5 x0 x1 w => ?_
        wtm_at "n"
        exact fin _ _ ⟨x, x0, x1, rfl, w⟩
      · rw [decide_eq_false (show ¬ V.int way = V.int 0 from fun h => hw0 (V.int.inj h))]
        wtm_at "n"
        exact fin _ _ ⟨wide0, hwb.1, hwb.2, rfl, w⟩
    clear w
    rintro σ' H5 ⟨wide, u0, u1, rfl, w⟩
    wtm_at "n"
    by_cases hw4 : way = 4
    · subst hw4
      wtm_at "no"
      refine n_lpair w (by simp [hb]) fun t H6 x y x0 x1 y0 y1 w => ?_
      wtm_at "n"
      refine n_dputK (k := .inr key) (d := .tup [.int x, .int y]) w (.there (.there .here)) (.str _) (.mem (.head _)) (by have := ht.1; omega) fun H7 w => ?_
      wtm_at "n"
      refine k _ (putP tb (.inr key) (.tup [.int x, .int y])) lg s0 s1 ⟨by rw [putP_lenH hg]; exact ht.1, fun z hz => ?_⟩ (ok0.mono (by omega)) (ok1.mono (by omega)) (by omega) w.tail
      rw [getP_put]
      by_cases hz2 : z = key
      · rw [if_pos (by rw [hz2])]
        exact ⟨x, y, rfl, x0, x1, y0, y1⟩
      · rw [if_neg (fun h => hz2 (Sum.inr.inj h))]
        exact ht.2 z hz
    rw [decide_eq_false (show ¬ V.int way = V.int 4 from fun h => hw4 (V.int.inj h))]
    wtm_at "n"
    by_cases hw5 : way = 5
    · subst hw5
      wtm_at "no"
      rcases (show i = 0 ∨ i = 1 by omega) with rfl | rfl
      · have w5 : Wf F H5 (.dt h0.kd s0.kn :: .dt h0.q s0.kn :: .cel ca (.ref pt) :: .cel cb (.ref pl) :: .dk pt tb :: .ml pl lg :: .ml h0.rw s0.as :: .ml h0.dd s0.as :: .dt h1.kd s1.kn :: .ml h1.rw s1.as :: .dt h1.q s1.kn :: .ml h1.dd s1.as :: M) := Wf.perm w ((permI (L := [.cel ca (.ref pt), .cel cb (.ref pl), .dk pt tb, .ml pl lg, .dt h0.kd s0.kn, .ml h0.rw s0.as, .dt h0.q s0.kn, .ml h0.dd s0.as, .dt h1.kd s1.kn, .ml h1.rw s1.as, .dt h1.q s1.kn, .ml h1.dd s1.as]) (p := [4, 6, 0, 1, 2, 3, 5, 7, 8, 9, 10, 11]) (by decide)).symm.append_right M)
        refine n_lforg (C := C_Heights) (φ := meD P wd K mg base ca cb) ⟨⟨_, hf.b, rfl⟩, ⟨_, hf.k, rfl⟩, by decide, hf.o0⟩ w5 ok0.k (by have := ok0.kl; omega) fun H6 w => ?_
        wtm_at "n"
        exact k _ tb lg ⟨fgt s0.kn key, s0.as⟩ s1 ht (⟨ok0.k.fgt key, Nat.le_trans (fgt_len _ _) (Nat.le_trans ok0.kl (by omega)), Nat.le_trans ok0.al (by omega), ok0.p⟩ : SSOk _ ⟨fgt s0.kn key, s0.as⟩) (ok1.mono (by omega)) (by omega) (Wf.perm w ((permI (L := [.cel ca (.ref pt), .cel cb (.ref pl), .dk pt tb, .ml pl lg, .dt h0.kd (fgt s0.kn key), .ml h0.rw s0.as, .dt h0.q (fgt s0.kn key), .ml h0.dd s0.as, .dt h1.kd s1.kn, .ml h1.rw s1.as, .dt h1.q s1.kn, .ml h1.dd s1.as]) (p := [4, 6, 0, 1, 2, 3, 5, 7, 8, 9, 10, 11]) (by decide)).append_right M))
      · have w5 : Wf F H5 (.dt h1.kd s1.kn :: .dt h1.q s1.kn :: .cel ca (.ref pt) :: .cel cb (.ref pl) :: .dk pt tb :: .ml pl lg :: .dt h0.kd s0.kn :: .ml h0.rw s0.as :: .dt h0.q s0.kn :: .ml h0.dd s0.as :: .ml h1.rw s1.as :: .ml h1.dd s1.as :: M) := Wf.perm w ((permI (L := [.cel ca (.ref pt), .cel cb (.ref pl), .dk pt tb, .ml pl lg, .dt h0.kd s0.kn, .ml h0.rw s0.as, .dt h0.q s0.kn, .ml h0.dd s0.as, .dt h1.kd s1.kn, .ml h1.rw s1.as, .dt h1.q s1.kn, .ml h1.dd s1.as]) (p := [8, 10, 0, 1, 2, 3, 4, 5, 6, 7, 9, 11]) (by decide)).symm.append_right M)
        refine n_lforg (C := C_Heights) (φ := meD P wd K mg base ca cb) ⟨⟨_, hf.b, rfl⟩, ⟨_, hf.k, rfl⟩, by decide, hf.o1⟩ w5 ok1.k (by have := ok1.kl; omega) fun H6 w => ?_
        wtm_at "n"
        exact k _ tb lg s0 ⟨fgt s1.kn key, s1.as⟩ ht (ok0.mono (by omega)) (⟨ok1.k.fgt key, Nat.le_trans (fgt_len _ _) (Nat.le_trans ok1.kl (by omega)), Nat.le_trans ok1.al (by omega), ok1.p⟩ : SSOk _ ⟨fgt s1.kn key, s1.as⟩) (by omega) (Wf.perm w ((permI (L := [.cel ca (.ref pt), .cel cb (.ref pl), .dk pt tb, .ml pl lg, .dt h0.kd s0.kn, .ml h0.rw s0.as, .dt h0.q s0.kn, .ml h0.dd s0.as, .dt h1.kd (fgt s1.kn key), .ml h1.rw s1.as, .dt h1.q (fgt s1.kn key), .ml h1.dd s1.as]) (p := [8, 10, 0, 1, 2, 3, 4, 5, 6, 7, 9, 11]) (by decide)).append_right M))
    rw [decide_eq_false (show ¬ V.int way = V.int 5 from fun h => hw5 (V.int.inj h))]
    wtm_at "n"
    rcases (show i = 0 ∨ i = 1 by omega) with rfl | rfl
    · have w5 : Wf F H5 (wld h0.kd h0.q h0.rw h0.dd s0.kn s0.as ca cb pt pl tb lg (.dt h1.kd s1.kn :: .ml h1.rw s1.as :: .dt h1.q s1.kn :: .ml h1.dd s1.as :: M)) := Wf.perm w ((permI (L := [.cel ca (.ref pt), .cel cb (.ref pl), .dk pt tb, .ml pl lg, .dt h0.kd s0.kn, .ml h0.rw s0.as, .dt h0.q s0.kn, .ml h0.dd s0.as, .dt h1.kd s1.kn, .ml h1.rw s1.as, .dt h1.q s1.kn, .ml h1.dd s1.as]) (p := [4, 5, 0, 1, 2, 3, 6, 7, 8, 9, 10, 11]) (by decide)).symm.append_right M)
      refine ⟨F, .dt h1.kd s1.kn :: .ml h1.rw s1.as :: .dt h1.q s1.kn :: .ml h1.dd s1.as :: M, vb, vk, vd, h0.x, h0.kd, h0.rw, h0.q, h0.dd, ca, cb, pt, pl, s0.kn, s0.as, tb, lg, key, _, wide, a, bb, rfl, ⟨⟨_, hf.b, rfl⟩, ⟨_, hf.k, rfl⟩, by decide, hf.o0⟩, ⟨_, hf.d, rfl⟩, w5, ok0.k, by have := ok0.kl; omega, by have := ok0.al; omega, ok0.p, hkm.1, hg, u0, u1, a0, a1, b0, b1, by omega, fun H6 kn' as' lg' g1 g2 g3 g4 g5 w => ?_⟩
      wtm_at "n"
      exact k _ tb lg' ⟨kn', as'⟩ s1 ht (⟨g1, Nat.le_trans g2 (by have := ok0.kl; omega), Nat.le_trans g3 (by have := ok0.al; omega), g4⟩ : SSOk _ ⟨kn', as'⟩) (ok1.mono (by omega)) (by omega) (Wf.perm w ((permI (L := [.cel ca (.ref pt), .cel cb (.ref pl), .dk pt tb, .ml pl lg', .dt h0.kd kn', .ml h0.rw as', .dt h0.q kn', .ml h0.dd as', .dt h1.kd s1.kn, .ml h1.rw s1.as, .dt h1.q s1.kn, .ml h1.dd s1.as]) (p := [4, 5, 0, 1, 2, 3, 6, 7, 8, 9, 10, 11]) (by decide)).append_right M))
    · have w5 : Wf F H5 (wld h1.kd h1.q h1.rw h1.dd s1.kn s1.as ca cb pt pl tb lg (.dt h0.kd s0.kn :: .ml h0.rw s0.as :: .dt h0.q s0.kn :: .ml h0.dd s0.as :: M)) := Wf.perm w ((permI (L := [.cel ca (.ref pt), .cel cb (.ref pl), .dk pt tb, .ml pl lg, .dt h0.kd s0.kn, .ml h0.rw s0.as, .dt h0.q s0.kn, .ml h0.dd s0.as, .dt h1.kd s1.kn, .ml h1.rw s1.as, .dt h1.q s1.kn, .ml h1.dd s1.as]) (p := [8, 9, 0, 1, 2, 3, 10, 11, 4, 5, 6, 7]) (by decide)).symm.append_right M)
      refine ⟨F, .dt h0.kd s0.kn :: .ml h0.rw s0.as :: .dt h0.q s0.kn :: .ml h0.dd s0.as :: M, vb, vk, vd, h1.x, h1.kd, h1.rw, h1.q, h1.dd, ca, cb, pt, pl, s1.kn, s1.as, tb, lg, key, _, wide, a, bb, rfl, ⟨⟨_, hf.b, rfl⟩, ⟨_, hf.k, rfl⟩, by decide, hf.o1⟩, ⟨_, hf.d, rfl⟩, w5, ok1.k, by have := ok1.kl; omega, by have := ok1.al; omega, ok1.p, hkm.1, hg, u0, u1, a0, a1, b0, b1, by omega, fun H6 kn' as' lg' g1 g2 g3 g4 g5 w => ?_⟩
      wtm_at "n"
      exact k _ tb lg' s0 ⟨kn', as'⟩ ht (ok0.mono (by omega)) (⟨g1, Nat.le_trans g2 (by have := ok1.kl; omega), Nat.le_trans g3 (by have := ok1.al; omega), g4⟩ : SSOk _ ⟨kn', as'⟩) (by omega) (Wf.perm w ((permI (L := [.cel ca (.ref pt), .cel cb (.ref pl), .dk pt tb, .ml pl lg', .dt h0.kd s0.kn, .ml h0.rw s0.as, .dt h0.q s0.kn, .ml h0.dd s0.as, .dt h1.kd kn', .ml h1.rw as', .dt h1.q kn', .ml h1.dd as']) (p := [8, 9, 0, 1, 2, 3, 10, 11, 4, 5, 6, 7]) (by decide)).append_right M))
def tabOf (o : Obj) : Option Addr := match o with
  | ⟨_, _, .fields vs, _⟩ => (match (vs[11]? : Option Value) with
    | some (.ref P) => some P
    | _ => none)
  | _ => none
theorem tabIn_of {K : PySem.W.Frag} {x : Str} {f c Pt : Addr} {oc : Value} {od : Option Addr} {fd : FuncData} {sl : Array (Option Value)} {ob : Obj} (ha : PySem.W.nsIn K mainGlobals x = some (some (.ref f))) (hl : K.lookup f = some ⟨oc, od, .func fd, sl⟩) (hc : fd.code = .ref c) (lc : K.lookup c = some ob) (tv : tabOf ob = some Pt) : PySem.W.tabIn K x = some (c, Pt) := by
  unfold PySem.W.tabIn
  rw [ha]
  dsimp only
  rw [hl]
  dsimp only
  rw [hc]
  dsimp only
  rw [lc]
  obtain ⟨o1, o2, o3, o4⟩ := ob
  unfold tabOf at tv
  cases o3 with
  | fields vs =>
    dsimp only at tv ⊢
    split at tv
    · rename_i P2 hv
      rw [hv]
      cases tv
      rfl
    · cases tv
  | _ => cases tv
def sp_law (K : PySem.W.Frag) (Pt : Addr) : Sp := fun vs H Q _ => ∃ a, ∃ ns : List Int, vs = [.ref a] ∧ SqL K H a (ns.map V.int) ∧ H Pt = some (.tbl #[]) ∧ ns.length ≤ 63 ∧ (∀ z ∈ ns, Builtin.Int.intBits z ≤ 1048576) ∧ ∀ H', Q (.bl true) H'

abbrev s_law : Stmt := top 16
theorem sc_law : FnScope ["_law_script", "_law_bag_here", "_law_many", "_law_keys_here", "_law_key", "_law_k", "_law_wides", "_law_both", "_law_kept", "_law_due", "_law_twins", "_law_at", "_law_told", "_law_twin", "_law_log", "_law_table"] ["_law_script"] (defScope s_law) := ⟨rfl, rfl, rfl, by decide +kernel, rfl, by decide +kernel, by decide +kernel⟩
theorem permN {n : Nat} {L : List ME} {p : List Nat} (h0 : p.Perm (List.range n)) (hl : L.length = n) : (p.map fun i => L.getD i (.bag 0)).Perm L := by
  have h : p.Perm (List.range L.length) := by rw [hl]; exact h0
  have e : (List.range L.length).map (fun i => L.getD i (.bag 0)) = L := by
    apply List.ext_getElem (by simp)
    intro i h1 h2
    simp [List.getD_eq_getElem?_getD, List.getElem?_eq_getElem h2]
  have := h.map fun i => L.getD i (.bag 0)
  rw [e] at this
  exact this
def TwK (tw : List D) : Prop := ∀ d ∈ tw, ∃ ds, d = .tup [.lst ds, .lst ds] ∧ ∀ e ∈ ds, PrK e
theorem prk_nb {ds : List D} (h : ∀ e ∈ ds, PrK e) : NB 60 (.lst ds) := (NB.lst (k := 2) fun d hd => by
  obtain ⟨s, n, rfl, hs⟩ := h d hd
  exact .tup fun e he => by
    simp only [List.mem_cons, List.not_mem_nil, or_false] at he
    rcases he with rfl | rfl
    · exact .str hs
    · exact .int _).mono (by decide)
theorem n_bagW {K : PySem.W.Frag} {F : List (V × D)} {M : List ME} {H : Hp} {a : Addr} {ns : List Int} {Q : VK} {E : XK} (w : Wf F H M) (hS : SqL K H a (ns.map V.int)) (q : ∀ p H', Wf F H' (.bag p :: M) → Q (.ref p) H') : sp__law_bag K ([.ref a] ++ []) H Q E := by
  obtain ⟨I, Mc, w, ac, hF⟩ := w.ex
  exact ⟨I, Mc, a, ns, rfl, w, hS, fun p c o J H' s w' hb => q p H' ⟨J, _, w', .cons (.bag hb) (ac.mono s), fun f hf => (hF f hf).mono s⟩⟩

theorem ok_law {f : Addr} {fd : FuncData} (F : Fun K "law" "law" s_law f fd) (B : Bn mg) (c__law_bag : Cal P wd K mg base "_law_bag" 1 ["_law_script"] [] (sp__law_bag K)) (c__law_take : Cal P wd K mg base "_law_take" 1 ["_law_bag_here", "_law_many"] [] sp__law_take) (c__law_keys : Cal P wd K mg base "_law_keys" 3 ["_law_bag_here"] [] (sp__law_keys)) (c__law_pair : Cal P wd K mg base "_law_pair" 3 ["_law_bag_here"] [] (sp__law_pair)) (c__law_length : Cal P wd K mg base "_law_length" 2 ["_law_bag_here", "_law_most"] [] sp__law_length) (c__law_high : Cal P wd K mg base "_law_high" 1 ["_law_table", "_law_log", "_law_key", "_law_wide"] [] (sp__law_high)) (c__law_deed : Cal P wd K mg base "_law_deed" 11 ["_law_bag_here", "_law_both", "_law_kept", "_law_due", "_law_log", "_law_table", "_law_keys_here", "_law_wides"] [] (sp__law_deed P wd K mg base C_Heights)) (c__law_asked_well : Cal P wd K mg base "_law_asked_well" 2 ["_law_found", "_law_due"] [] (sp__law_asked_well)) (m_Heights : Mak P wd K mg base "Heights" C_Heights 1 ["self", "measure"] [] (sp_Heights___init__ C_Heights)) (t_Heights_asked : Met P wd K mg base "asked" C_Heights 1 ["self"] [] (sp_Heights_asked C_Heights)) (o_Heights : OwnC K C_Heights) (n_Heights : ∀ f ∈ (["measure", "known", "row"] : List Str), NoAttr K C_Heights f) {c_law P_law : Addr} (T : fd.code = .ref c_law) (TB : LamX.TabB base mg c_law P_law)  : FnOk P wd K mg base CX0 12 f fd ["_law_script"] (sp_law K P_law) := by
  refine F.okT T sc_law (fun vs H Q E h => ?_) (fun A outer s H vs Q E hr h => ?_)
  · obtain ⟨a, ns, rfl, hS, hT, hl, hbits, k⟩ := h
    all_goals rfl
  · obtain ⟨a, ns, rfl, hS, hT, hl, hbits, k⟩ := h
    refine ⟨_, (pss_cons (ps_set (i := 1) sc_law.nd rfl (Or.inr rfl) (pe_cal c__law_bag (hr.mono (by decide)) (by rfl) (pa_cons (pv 0) pa_nil)))
      (pss_cons (ps_set (i := 2) sc_law.nd rfl (Or.inl rfl) (pe_op (k_add (K := K) rfl) pe_int (pe_cal c__law_take (hr.mono (by decide)) (by rfl) (pa_cons (pv 1) (pa_cons pe_int pa_nil)))))
      (pss_cons (ps_if (pt_cmpR (k_eq (K := K) rfl hr.units) (pe_cal c__law_take (hr.mono (by decide)) (by rfl) (pa_cons (pv 1) (pa_cons pe_int pa_nil))) pe_int (nomark _)) (pss_one (ps_set (i := 2) sc_law.nd rfl (Or.inl rfl) pe_int)) pss_nil)
      (pss_cons (ps_set (i := 3) sc_law.nd rfl (Or.inl rfl) (pe_cal c__law_keys (hr.mono (by decide)) (by rfl) (pa_cons (pv 1) pa_nil)))
      (pss_cons (ps_set (i := 15) sc_law.nd rfl (Or.inr rfl) pe_dnewK)
      (pss_cons (ps_for PassesOwn.never rfl (kpi_list (K := K) rfl (pv 3)) (pg_name (i := 4) sc_law.nd rfl (Or.inl rfl)) (pss_one (ps_dput (hu1 hr.units) (pv 15) (pv 4) (pe_cal c__law_pair (hr.mono (by decide)) (by rfl) (pa_cons (pv 1) pa_nil)) rfl)))
      (pss_cons (ps_setLc (i := 6) (own := [("_law_k", 5)]) (by rfl) sc_law.nd rfl rfl (sw_true rfl rfl rfl (by decide +kernel)) (pi_range1 (by rfl) B.range_ (pa_cons pe_int pa_nil)) (blkOk_by (own := [("_law_k", 5)]) (N := ["_law_script", "_law_bag_here", "_law_many", "_law_keys_here", "_law_key", "_law_k", "_law_wides", "_law_both", "_law_kept", "_law_due", "_law_twins", "_law_at", "_law_told", "_law_twin", "_law_log", "_law_table"]) (sc := defScope s_law) (by decide +kernel)) (fun _ _ _ _ _ => (pg_name (i := 5) sc_law.nd rfl (Or.inl rfl))) (fun _ _ _ _ _ => pts_nil) (fun _ _ _ _ _ => (pe_cal c__law_length (hr.mono (by decide)) (by rfl) (pa_cons (pv 1) (pa_cons pe_int pa_nil)))))
      (pss_cons (ps_set (i := 14) sc_law.nd rfl (Or.inr rfl) (pe_lst pa_nil))
      (pss_cons (ps_setLcO (i := 7) (own := [("_law_k", 5)]) (by rfl) sc_law.nd rfl rfl (sw_true rfl rfl rfl (by decide +kernel)) (pi_range1 (by rfl) B.range_ (pa_cons pe_int pa_nil)) (blkOk_by (own := [("_law_k", 5)]) (N := ["_law_script", "_law_bag_here", "_law_many", "_law_keys_here", "_law_key", "_law_k", "_law_wides", "_law_both", "_law_kept", "_law_due", "_law_twins", "_law_at", "_law_told", "_law_twin", "_law_log", "_law_table"]) (sc := defScope s_law) (by decide +kernel)) (fun _ _ _ _ => (pg_name (i := 5) sc_law.nd rfl (Or.inl rfl))) (fun _ _ _ _ => pts_nil) (fun _ _ _ _ => (pe_mk m_Heights (hr.mono (by decide)) (by rfl) (pa_cons (pe_lamO TB rfl rfl (by decide +kernel) (lamFree_by (sc := relS _ (defScope s_law)) (by decide +kernel))) pa_nil))))
      (pss_cons (ps_set (i := 8) sc_law.nd rfl (Or.inl rfl) (pe_lst (pa_cons pe_dnewT (pa_cons pe_dnewT pa_nil))))
      (pss_cons (ps_set (i := 9) sc_law.nd rfl (Or.inl rfl) (pe_lst (pa_cons (pe_lst pa_nil) (pa_cons (pe_lst pa_nil) pa_nil))))
      (pss_cons (ps_set (i := 10) sc_law.nd rfl (Or.inl rfl) (pe_lst pa_nil))
      (pss_cons (ps_for PassesOwn.never rfl (pi_range1 (by rfl) B.range_ (pa_cons (pv 2) pa_nil)) (pg_name (i := 5) sc_law.nd rfl (Or.inl rfl)) (pss_cons (ps_if (pt_not (pt_val (pe_calC c__law_deed (hr.mono (by decide)) (by rfl) (celled2 (i := 15) (j := 14) (x := "_law_table") (y := "_law_log") (by decide) sc_law.nd rfl rfl rfl rfl (fun _ => rfl)) (pa_cons (pv 1) (pa_cons (pv 7) (pa_cons (pv 8) (pa_cons (pv 9) (pa_cons (pv 14) (pa_cons (pv 15) (pa_cons (pv 3) (pa_cons (pv 6) pa_nil))))))))))) (pss_one (ps_ret pe_bl)) pss_nil)
      (pss_cons (ps_set (i := 11) sc_law.nd rfl (Or.inl rfl) (pe_cal c__law_take (hr.mono (by decide)) (by rfl) (pa_cons (pv 1) (pa_cons pe_int pa_nil))))
      (pss_one (ps_if (pt_cmpR op_lt (pv 11) pe_int (nomark _)) (pss_cons (ps_set (i := 12) sc_law.nd rfl (Or.inl rfl) (pe_met0 (pe_ix (k_ix (K := K) rfl) (pv 7) (pv 11) (fun _ _ => rfl)) t_Heights_asked (hr.mono (by decide))))
      (pss_cons (ps_if (pt_not (pt_val (pe_cal c__law_asked_well (hr.mono (by decide)) (by rfl) (pa_cons (pv 12) (pa_cons (pe_ix (k_ix (K := K) rfl) (pv 9) (pv 11) (fun _ _ => rfl)) pa_nil))))) (pss_one (ps_ret pe_bl)) pss_nil)
      (pss_cons (ps_expr (pe_bm PySem.F.plainAttrs_list PySem.F.slot_list_append PySem.F.type_list_append mt_append (pv 10) (pa_cons (pe_tup (pa_cons (pv 12) (pa_cons (pe_callTy (k_list (K := K) rfl) (by rfl) B.list_ (by decide +kernel) (pa_cons (pv 12) pa_nil)) pa_nil))) pa_nil)))
      (pss_one (ps_expr (pe_bm PySem.F.plainAttrs_list PySem.F.slot_list_append PySem.F.type_list_append mt_append (pe_met0 (pe_ix (k_ix (K := K) rfl) (pv 7) (pv 11) (fun _ _ => rfl)) t_Heights_asked (hr.mono (by decide))) (pa_cons (pe_tup (pa_cons pe_str (pa_cons pe_int pa_nil))) pa_nil))))))) pss_nil)))))
      (pss_cons (ps_for PassesOwn.never rfl (kpi_list (K := K) rfl (pv 10)) (kpg_tup (K := K) (n := 2) rfl rfl (pgs_cons (pg_name (i := 12) sc_law.nd rfl (Or.inl rfl)) (pgs_cons (pg_name (i := 13) sc_law.nd rfl (Or.inl rfl)) pgs_nil))) (pss_one (ps_if (pt_cmpR (k_ne (K := K) rfl hr.units) (pv 12) (pv 13) (nomark _)) (pss_one (ps_ret pe_bl)) pss_nil)))
      (pss_one (ps_ret (pe_and (pe_cal c__law_asked_well (hr.mono (by decide)) (by rfl) (pa_cons (pe_met0 (pe_ix (k_ix (K := K) rfl) (pv 7) pe_int (fun _ _ => rfl)) t_Heights_asked (hr.mono (by decide))) (pa_cons (pe_ix (k_ix (K := K) rfl) (pv 9) pe_int (fun _ _ => rfl)) pa_nil))) (pe_one (pe_cal c__law_asked_well (hr.mono (by decide)) (by rfl) (pa_cons (pe_met0 (pe_ix (k_ix (K := K) rfl) (pv 7) pe_int (fun _ _ => rfl)) t_Heights_asked (hr.mono (by decide))) (pa_cons (pe_ix (k_ix (K := K) rfl) (pv 9) pe_int (fun _ _ => rfl)) pa_nil))))))))))))))))))))), ?_⟩
    try dsimp only [cxOf, Cx.nox, Cx.wish, Cx.blk]
    have w0 := Wf.tb0 (q := ("law.<locals>." ++ "<lambda>")) hT
    obtain ⟨ctab, ectab⟩ : ∃ ca, ca = ((cellsFrom (s.heap.objs.size + 1) (defScope s_law).names []).lookup ("_law_table" : Str)).getD 0 := ⟨_, rfl⟩
    obtain ⟨clog, eclog⟩ : ∃ ca, ca = ((cellsFrom (s.heap.objs.size + 1) (defScope s_law).names []).lookup ("_law_log" : Str)).getD 0 := ⟨_, rfl⟩
    have nab : ctab ≠ clog := by
      rw [ectab, eclog]
      exact cells_ne (by decide +kernel) (by decide +kernel) (by decide +kernel)
    rw [show L2.start (["_law_script", "_law_bag_here", "_law_many", "_law_keys_here", "_law_key", "_law_k", "_law_wides", "_law_both", "_law_kept", "_law_due", "_law_twins", "_law_at", "_law_told", "_law_twin", "_law_log", "_law_table"] : List Str) [.ref a] = [some (.ref a), none, none, none, none, none, none, none, none, none, none, none, none, none, none, none] from rfl]
    wtm_at "n"
    refine n_bagW w0 hS fun b H0 w => ?_
    clear w0
    wtm_at "n"
    refine n_take w (by simp) (by omega) (by omega) fun m0 H1 m1 m2 w => ?_
    wtm_at "sq2"
    simp only [List.set_cons_succ, List.set_cons_zero]
    with_reducible refine s_midH (fun σ' H' => ∃ many : Int, 4 ≤ many ∧ many ≤ 60 ∧ σ' = [some (.ref a), some (.ref b), some (.int many), none, none, none, none, none, none, none, none, none, none, none, none, none] ∧ Wf [] H' [.bag b, .tb P_law ("law.<locals>." ++ "<lambda>")]) ?_ (fun N fin => ?_)
    rotate_left
    · wtm_at "n"
      refine n_take w (by simp) (by omega) (by omega) fun t H2 t0 t1 w => ?_
      wtm_at "n"
      by_cases h7 : t = 7
      · subst h7
        wtm_at "no"
        exact fin _ _ ⟨60, by omega, by omega, rfl, w⟩
      · rw [decide_eq_false (show ¬ V.int t = V.int 7 from fun h => h7 (V.int.inj h))]
        wtm_at "n"
        exact fin _ _ ⟨_, by omega, by omega, rfl, w⟩
    clear w m1 m2
    rintro σ' H2 ⟨many, y0, y1, rfl, w⟩
    wtm_at "n"
    refine n_lkeys w (by simp) fun pk H3 ks hkn hkl hkm w => ?_
    replace w := w.frzL .here
    wtm_at "sq2"
    simp only [List.set_cons_succ, List.set_cons_zero]
    wtm_at "n"
    refine s_dnewK w fun pt H4 w => ?_
    wtm_at "n"
    have w9 : Wf [(V.ref pk, .lst (ks.map D.str))] H4 (.dk pt [] :: [.bag b, .tb P_law ("law.<locals>." ++ "<lambda>")]) := w
    clear w
    refine n_forL w9 (ds := ks.map D.str) (fun i σ' F' M' => ∃ (x4 : Option V) (tb : List (Key × D)), σ' = [some (.ref a), some (.ref b), some (.int many), some (.ref pk), x4, none, none, none, none, none, none, none, none, none, none, some (.ref pt)] ∧ F' = [(V.ref pk, .lst (ks.map D.str))] ∧ M' = (.dk pt tb :: [.bag b, .tb P_law ("law.<locals>." ++ "<lambda>")]) ∧ tb.length ≤ i ∧ ∀ z ∈ ks.take i, ∃ a b : Int, getP tb (.inr z) = some (.tup [.int a, .int b]) ∧ 0 ≤ a ∧ a ≤ 1000000 ∧ 0 ≤ b ∧ b ≤ 1000000000) (by rintro i σ' F' M' ⟨_, _, rfl, rfl, rfl, _⟩; exact .mem (.head _)) ⟨_, _, rfl, rfl, rfl, by simp, fun z hz => by simp at hz⟩ ?_ ?_
    · clear w9
      rintro i d z σ' H5 F' M' hd ⟨x4, tb, rfl, rfl, rfl, tl, tbs⟩ w
      rw [List.getElem?_map] at hd
      obtain ⟨key, hkey, rfl⟩ := Option.map_eq_some_iff.mp hd
      have e0 := (w.rd (.mem (.head _)) : Is _ z (.str key)).str_eq
      subst e0
      replace w := w.tail
      have hil := (List.getElem?_eq_some_iff.mp hkey).1
      wtm_at "n"
      refine n_lpair w (by simp) fun t H6 x y x0 x1 y0 y1 w => ?_
      wtm_at "n"
      refine n_dputK (k := .inr key) (d := .tup [.int x, .int y]) w .here (.str _) (.mem (.head _)) (by omega) fun H7 w => ?_
      wtm_at "n"
      refine ⟨_, _, ⟨_, _, rfl, rfl, rfl, Nat.le_trans (putP_len _ _ _) (by omega), fun z hz => ?_⟩, w.tail⟩
      rw [getP_put]
      by_cases hzk : z = key
      · rw [if_pos (by rw [hzk])]
        exact ⟨x, y, rfl, x0, x1, y0, y1⟩
      · rw [if_neg (fun h => hzk (Sum.inr.inj h))]
        rw [take_snoc hkey] at hz
        rcases List.mem_append.mp hz with hz | hz
        · exact tbs z hz
        · exact absurd (List.mem_singleton.mp hz) hzk
    clear w9
    rintro σ' H5 F' M' ⟨x4, tb, rfl, rfl, rfl, tl, tbs⟩ w
    rw [List.length_map] at tl tbs
    rw [List.take_length] at tbs
    wtm_at "n"
    refine s_rng1' (by omega) (by omega) ?_
    refine n_lcN w (fun i acc => ∃ ws : List Int, acc = ws.map D.int ∧ ws.length = i ∧ ∀ x ∈ ws, 0 ≤ x ∧ x ≤ 1000000000000) ⟨[], rfl, rfl, fun _ h => (nomatch h)⟩ (by decide) ?_ ?_
    · rintro i Dp acc H6 Ap Sk hi ⟨ws, rfl, wl, wb⟩ w kA kS
      wtm_at "n"
      refine ⟨rfl, ?_⟩
      wtm_at "n"
      refine n_length w (by simp) (by omega) (by omega) fun x H7 x0 x1 w => ?_
      wtm_at "n"
      exact kA _ (.int x) _ (w.add (.int _)) ⟨ws ++ [x], by rw [List.map_append]; rfl, by rw [List.length_append, wl]; rfl, fun y hy => by
        rcases List.mem_append.mp hy with h | h
        · exact wb y h
        · rw [List.mem_singleton.mp h]; exact ⟨x0, x1⟩⟩
    rintro pw es H6 ⟨ws, rfl, wl, wb⟩ w
    replace w := w.frzL .here
    wtm_at "n"
    rename_i pl H7 w7
    clear w
    refine s_rng1' (by omega) (by omega) ?_
    refine n_lcW (n := 2) w7 (fun i acc F' M' => ∃ xs : List (Addr × Addr × Addr), xs.length = i ∧ acc = xs.reverse.map (fun t => D.ref t.1) ∧ F' = xs.map (fun t => (V.ref t.1, hgO C_Heights t.2.1 t.2.2 (meD P wd K mg base ctab clog))) ++ [(V.ref pw, .lst (ws.map D.int)), (V.ref pk, .lst (ks.map D.str))] ∧ M' = xs.flatMap (fun t => [ME.ml t.2.2 [], ME.dt t.2.1 []]) ++ [.ml pl [], .dk pt tb, .bag b, .tb P_law ("law.<locals>." ++ "<lambda>")]) ⟨[], rfl, rfl, rfl, rfl⟩ (by decide) ?_ ?_
    · clear w7
      rintro i Dp acc H8 F0 M0 Ap Sk hi ⟨xs, xl, rfl, eF, eM⟩ w kA
      wtm_at "n"
      refine ⟨rfl, ?_⟩
      wtm_at "n"
      refine n_lam (φ := meD P wd K mg base ctab clog) w (show ME.tb P_law ("law.<locals>." ++ "<lambda>") ∈ _ from by rw [eM]; simp) (fun f' c' I hf hc => ?_) fun ff H9 w => ?_
      · have hfn := fnV_lam2 (P := P) (w := wd) (K := K) (mg := mg) (base := base) (k := 5) (N := (["_law_key", "_law_wide", "_law_table", "_law_log"] : List Str)) (ps := (["_law_key", "_law_wide"] : List Str)) (y := ("_law_table" : Str)) (z := ("_law_log" : Str)) (ca := ctab) (cb := clog) (sp := spMeas ctab clog) ?cl (by decide +kernel) nab ?S ?b ?h hf hc
        case cl =>
          dsimp only
          rw [eclog, ectab]
          exact clo2 (by decide +kernel) (by decide +kernel) (by decide +kernel)
        case h =>
          intro vs H Q q
          obtain ⟨F', M', pt', pl', tb', lg', key, wide, a', b', rfl, w', hg, v0, v1, a0, a1, b0, b1, hll, q⟩ := q
          refine ⟨rfl, F', .dk pt' tb' :: .ml pl' lg' :: M', V.ref pt', V.ref pl', w', fun H1 Q1 w2 hQ1 A outer s f c hr => ⟨_, (pe_cal c__law_high (hr.mono (by decide)) (by rfl) (pa_cons (pv 2) (pa_cons (pv 3) (pa_cons (pv 0) (pa_cons (pv 1) pa_nil))))), ?_⟩⟩
          wtm_at "n"
          refine ⟨F', M', pt', pl', tb', lg', key, wide, a', b', rfl, w2, hg, v0, v1, a0, a1, b0, b1, hll, fun H3 w3 => ?_⟩
          exact hQ1 _ _ _ _ w3 fun H4 w4 => q _ w4
        case S =>
          dsimp only
          exact NdefX.nscope_by (by decide +kernel)
        case b => exact fun pm cv ctv us hl => match us, hl with | [_, _], _ => rfl
        exact hfn.imp (by decide) (fun _ _ _ h => h)
      wtm_at "n"
      refine n_mkH w (.mem (.head _)) fun x kd rw H10 w => ?_
      refine kA (.ref x) (.ref x) H10 ((V.ref x, hgO C_Heights kd rw (meD P wd K mg base ctab clog)) :: F0) (ME.ml rw [] :: ME.dt kd [] :: M0) ?_ ⟨(x, kd, rw) :: xs, by rw [List.length_cons, xl], by simp, by rw [eF]; rfl, by rw [eM]; rfl⟩
      exact (Wf.perm w ((List.perm_append_comm (l₁ := [_, _]) (l₂ := [_])).append_right _)).sub (KS.cons (.ref _) fun f hf => .mem (by simp only [List.mem_cons] at hf ⊢; rcases hf with h | h <;> simp [h])) (.refl _)
    rintro pb es H8 F' M' ⟨xs, xl, rfl, rfl, rfl⟩ w
    obtain ⟨⟨x1, kd1, rw1⟩, ⟨x0, kd0, rw0⟩, rfl⟩ : ∃ t1 t0, xs = [t1, t0] := by
      match xs, xl with
      | [t1, t0], _ => exact ⟨t1, t0, rfl⟩
    replace w := w.frzL .here
    have w9 : Wf [(V.ref pb, .lst [.ref x0, .ref x1]), (V.ref x1, hgO C_Heights kd1 rw1 (meD P wd K mg base ctab clog)), (V.ref x0, hgO C_Heights kd0 rw0 (meD P wd K mg base ctab clog)), (V.ref pw, .lst (ws.map D.int)), (V.ref pk, .lst (ks.map D.str))] H8 (.ml rw1 [] :: .dt kd1 [] :: .ml rw0 [] :: .dt kd0 [] :: .ml pl [] :: .dk pt tb :: [.bag b, .tb P_law ("law.<locals>." ++ "<lambda>")]) := w
    clear w w7
    have w := w9
    clear w9
    wtm_at "n"
    refine s_dnewT w fun q0 H9 w => ?_
    wtm_at "n"
    refine s_dnewT w fun q1 H10 w => ?_
    wtm_at "n"
    refine n_newL w (ds := [.ref q0, .ref q1]) (.cons (.ref _) (.cons (.ref _) .nil)) (by simp) fun pq H11 w => ?_
    replace w := w.frzL .here
    wtm_at "n"
    rename_i d0 G0 v0 d1 G1 v1
    clear w v0
    refine n_newL v1 (ds := [.ref d0, .ref d1]) (.cons (.ref _) (.cons (.ref _) .nil)) (by simp) fun pd H12 w => ?_
    replace w := w.frzL .here
    clear v1
    wtm_at "n"
    rename_i tw G2 v2
    clear w
    have v3 := Wf.perm v2 ((permN (n := 13) (L := [.ml tw [], .ml d1 [], .ml d0 [], .dt q1 [], .dt q0 [], .ml rw1 [], .dt kd1 [], .ml rw0 [], .dt kd0 [], .ml pl [], .dk pt tb, .bag b, .tb P_law ("law.<locals>." ++ "<lambda>")]) (p := [10, 9, 8, 7, 4, 2, 6, 5, 3, 1, 0, 11, 12]) (by decide) rfl).symm)
    obtain ⟨h0, eh0⟩ : ∃ h0 : HW, h0 = ⟨x0, kd0, rw0, q0, d0⟩ := ⟨_, rfl⟩
    obtain ⟨h1, eh1⟩ : ∃ h1 : HW, h1 = ⟨x1, kd1, rw1, q1, d1⟩ := ⟨_, rfl⟩
    have w : Wf [(V.ref pd, D.lst [.ref h0.dd, .ref h1.dd]), (V.ref pq, .lst [.ref h0.q, .ref h1.q]), (V.ref pb, .lst [.ref h0.x, .ref h1.x]), (V.ref h1.x, hgO C_Heights h1.kd h1.rw (meD P wd K mg base ctab clog)), (V.ref h0.x, hgO C_Heights h0.kd h0.rw (meD P wd K mg base ctab clog)), (V.ref pw, .lst (ws.map D.int)), (V.ref pk, .lst (ks.map D.str))] G2 (.dk pt tb :: .ml pl [] :: .dt h0.kd (⟨[], []⟩ : SS).kn :: .ml h0.rw (⟨[], []⟩ : SS).as :: .dt h0.q (⟨[], []⟩ : SS).kn :: .ml h0.dd (⟨[], []⟩ : SS).as :: .dt h1.kd (⟨[], []⟩ : SS).kn :: .ml h1.rw (⟨[], []⟩ : SS).as :: .dt h1.q (⟨[], []⟩ : SS).kn :: .ml h1.dd (⟨[], []⟩ : SS).as :: .ml tw [] :: [.bag b, .tb P_law ("law.<locals>." ++ "<lambda>")]) := by rw [eh0, eh1]; exact v3
    clear v2 v3
    have hf : HF C_Heights [(V.ref pd, D.lst [.ref h0.dd, .ref h1.dd]), (V.ref pq, .lst [.ref h0.q, .ref h1.q]), (V.ref pb, .lst [.ref h0.x, .ref h1.x]), (V.ref h1.x, hgO C_Heights h1.kd h1.rw (meD P wd K mg base ctab clog)), (V.ref h0.x, hgO C_Heights h0.kd h0.rw (meD P wd K mg base ctab clog)), (V.ref pw, .lst (ws.map D.int)), (V.ref pk, .lst (ks.map D.str))] (.ref pb) (.ref pq) (.ref pd) (.ref pk) (.ref pw) h0 h1 (meD P wd K mg base ctab clog) ks ws := ⟨by simp, by simp, by simp, by simp, by simp, by simp, by simp, hkn, hkl, hkm, wl, wb⟩
    clear eh0 eh1
    refine s_rng1' (by omega) (by omega) ?_
    refine n_forR w (fun i σ' F' M' => ∃ (x5 x11 x12 : Option V) (tb : List (Key × D)) (lg : List D) (s0 s1 : SS) (TW : List D), σ' = [some (.ref a), some (.ref b), some (.int many), some (.ref pk), x4, x5, some (.ref pw), some (.ref pb), some (.ref pq), some (.ref pd), some (.ref tw), x11, x12, none, some (.ref pl), some (.ref pt)] ∧ F' = [(V.ref pd, D.lst [.ref h0.dd, .ref h1.dd]), (V.ref pq, .lst [.ref h0.q, .ref h1.q]), (V.ref pb, .lst [.ref h0.x, .ref h1.x]), (V.ref h1.x, hgO C_Heights h1.kd h1.rw (meD P wd K mg base ctab clog)), (V.ref h0.x, hgO C_Heights h0.kd h0.rw (meD P wd K mg base ctab clog)), (V.ref pw, .lst (ws.map D.int)), (V.ref pk, .lst (ks.map D.str))] ∧ M' = (.dk pt tb :: .ml pl lg :: .dt h0.kd s0.kn :: .ml h0.rw s0.as :: .dt h0.q s0.kn :: .ml h0.dd s0.as :: .dt h1.kd s1.kn :: .ml h1.rw s1.as :: .dt h1.q s1.kn :: .ml h1.dd s1.as :: .ml tw TW :: [.bag b, .tb P_law ("law.<locals>." ++ "<lambda>")]) ∧ TbOk ks tb ∧ SSOk i s0 ∧ SSOk i s1 ∧ lg.length ≤ i ∧ TwK TW ∧ TW.length ≤ i) ⟨_, _, _, tb, [], ⟨[], []⟩, ⟨[], []⟩, [], rfl, rfl, rfl, ⟨by omega, tbs⟩, ⟨.nil, by simp, by simp, fun _ h => (nomatch h)⟩, ⟨.nil, by simp, by simp, fun _ h => (nomatch h)⟩, by simp, fun _ h => (nomatch h), by simp⟩ ?_ ?_
    · clear w
      rintro i σ' H20 F' M' hi ⟨x5, x11, x12, tb, lg, s0, s1, TW, rfl, rfl, rfl, ht, ok0, ok1, hll, htw, twl⟩ w
      wtm_at "n"
      refine n_shown (us := [.ref pt, .ref pl]) w rfl fun H21 Q1 w' hq => ?_
      have w9 : Wf [(V.ref pd, D.lst [.ref h0.dd, .ref h1.dd]), (V.ref pq, .lst [.ref h0.q, .ref h1.q]), (V.ref pb, .lst [.ref h0.x, .ref h1.x]), (V.ref h1.x, hgO C_Heights h1.kd h1.rw (meD P wd K mg base ctab clog)), (V.ref h0.x, hgO C_Heights h0.kd h0.rw (meD P wd K mg base ctab clog)), (V.ref pw, .lst (ws.map D.int)), (V.ref pk, .lst (ks.map D.str))] H21 (.cel ctab (.ref pt) :: .cel clog (.ref pl) :: (.dk pt tb :: .ml pl lg :: .dt h0.kd s0.kn :: .ml h0.rw s0.as :: .dt h0.q s0.kn :: .ml h0.dd s0.as :: .dt h1.kd s1.kn :: .ml h1.rw s1.as :: .dt h1.q s1.kn :: .ml h1.dd s1.as :: .ml tw TW :: [.bag b, .tb P_law ("law.<locals>." ++ "<lambda>")])) := by subst ectab eclog; exact w'
      clear w'
      refine ⟨[(V.ref pd, D.lst [.ref h0.dd, .ref h1.dd]), (V.ref pq, .lst [.ref h0.q, .ref h1.q]), (V.ref pb, .lst [.ref h0.x, .ref h1.x]), (V.ref h1.x, hgO C_Heights h1.kd h1.rw (meD P wd K mg base ctab clog)), (V.ref h0.x, hgO C_Heights h0.kd h0.rw (meD P wd K mg base ctab clog)), (V.ref pw, .lst (ws.map D.int)), (V.ref pk, .lst (ks.map D.str))], .ml tw TW :: [.bag b, .tb P_law ("law.<locals>." ++ "<lambda>")], b, .ref pb, .ref pq, .ref pd, .ref pk, .ref pw, ctab, clog, pt, pl, tb, lg, h0, s0, h1, s1, ks, ws, i, rfl, hf, w9, by simp, ht, ok0, ok1, hll, by omega, fun H22 tb' lg' s0' s1' ht' ok0' ok1' hll' w3 => ?_⟩
      clear w9
      refine hq _ [(V.ref pd, D.lst [.ref h0.dd, .ref h1.dd]), (V.ref pq, .lst [.ref h0.q, .ref h1.q]), (V.ref pb, .lst [.ref h0.x, .ref h1.x]), (V.ref h1.x, hgO C_Heights h1.kd h1.rw (meD P wd K mg base ctab clog)), (V.ref h0.x, hgO C_Heights h0.kd h0.rw (meD P wd K mg base ctab clog)), (V.ref pw, .lst (ws.map D.int)), (V.ref pk, .lst (ks.map D.str))] (.dk pt tb' :: .ml pl lg' :: .dt h0.kd s0'.kn :: .ml h0.rw s0'.as :: .dt h0.q s0'.kn :: .ml h0.dd s0'.as :: .dt h1.kd s1'.kn :: .ml h1.rw s1'.as :: .dt h1.q s1'.kn :: .ml h1.dd s1'.as :: .ml tw TW :: [.bag b, .tb P_law ("law.<locals>." ++ "<lambda>")]) H22 (by subst ectab eclog; exact w3) fun H23 w => ?_
      clear w3 hq
      wtm_at "n"
      have hal0 := ok0'.al
      have hal1 := ok1'.al
      refine n_take w (by simp) (by omega) (by omega) fun at0 H24 a0 a1 w => ?_
      wtm_at "n"
      by_cases h2 : at0 < 2
      · rw [decide_eq_true h2]
        wtm_at "n"
        rcases (show at0 = 0 ∨ at0 = 1 by omega) with rfl | rfl
        · refine n_ixRf w (ds := [.ref h0.x, .ref h1.x]) (by simp) rfl (by decide) ?_
          wtm_at "n"
          refine n_forgetQ (m := "asked") (x := h0.x) (kd := h0.kd) (rw := h0.rw) (φ := meD P wd K mg base ctab clog) w (by simp) (by decide) ?_
          wtm_at "n"
          refine n_asked (C := C_Heights) (φ := meD P wd K mg base ctab clog) (x := h0.x) (kd := h0.kd) (rw := h0.rw) (as := s0'.as) w (.mem (by simp)) (by simp) fun p1 H25 w => ?_
          wtm_at "n"
          refine n_lasked (as := s0'.as) w (.ml (.head _)) (.ml (by simp)) ok0'.p (by have := ok0'.al; omega) fun H26 w => ?_
          replace w := w.frzL .here
          wtm_at "n"
          rename_i p2 H27 w4
          have w5 := w4.frzL .here
          clear w w4
          have w := w5
          clear w5
          wtm_at "n"
          rename_i H28 w6
          clear w
          refine n_forgetQ (m := "asked") (x := h0.x) (kd := h0.kd) (rw := h0.rw) (φ := meD P wd K mg base ctab clog) w6 (by simp) (by decide) ?_
          wtm_at "n"
          refine n_asked (C := C_Heights) (φ := meD P wd K mg base ctab clog) (x := h0.x) (kd := h0.kd) (rw := h0.rw) (as := s0'.as) w6 (.mem (by simp)) (by simp) fun p3 H29 w => ?_
          clear w6
          wtm_at "n"
          rename_i H30 w7
          refine ⟨[(V.ref pd, D.lst [.ref h0.dd, .ref h1.dd]), (V.ref pq, .lst [.ref h0.q, .ref h1.q]), (V.ref pb, .lst [.ref h0.x, .ref h1.x]), (V.ref h1.x, hgO C_Heights h1.kd h1.rw (meD P wd K mg base ctab clog)), (V.ref h0.x, hgO C_Heights h0.kd h0.rw (meD P wd K mg base ctab clog)), (V.ref pw, .lst (ws.map D.int)), (V.ref pk, .lst (ks.map D.str))], (.dk pt tb' :: .ml pl lg' :: .dt h0.kd s0'.kn :: .ml h0.rw s0'.as :: .dt h0.q s0'.kn :: .ml h0.dd s0'.as :: .dt h1.kd s1'.kn :: .ml h1.rw s1'.as :: .dt h1.q s1'.kn :: .ml h1.dd s1'.as :: .ml tw (TW ++ [.tup [.lst s0'.as, .lst s0'.as]]) :: [.bag b, .tb P_law ("law.<locals>." ++ "<lambda>")]), ⟨_, _, _, tb', lg', s0', s1', (TW ++ [.tup [.lst s0'.as, .lst s0'.as]]), rfl, rfl, rfl, ht', ok0', ok1', hll', fun d hd => ?_, by rw [List.length_append]; exact Nat.succ_le_succ twl⟩, w7.sub (fun f hf => .mem (by simp only [List.mem_cons] at hf ⊢; rcases hf with h | h | h | h | h | h | h | h <;> simp_all)) (.cons _ (.refl _))⟩
          rcases List.mem_append.mp hd with hd | hd
          · exact htw d hd
          · exact ⟨s0'.as, List.mem_singleton.mp hd, ok0'.p⟩
        · refine n_ixRf w (ds := [.ref h0.x, .ref h1.x]) (by simp) rfl (by decide) ?_
          wtm_at "n"
          refine n_forgetQ (m := "asked") (x := h1.x) (kd := h1.kd) (rw := h1.rw) (φ := meD P wd K mg base ctab clog) w (by simp) (by decide) ?_
          wtm_at "n"
          refine n_asked (C := C_Heights) (φ := meD P wd K mg base ctab clog) (x := h1.x) (kd := h1.kd) (rw := h1.rw) (as := s1'.as) w (.mem (by simp)) (by simp) fun p1 H25 w => ?_
          wtm_at "n"
          refine n_lasked (as := s1'.as) w (.ml (.head _)) (.ml (by simp)) ok1'.p (by have := ok1'.al; omega) fun H26 w => ?_
          replace w := w.frzL .here
          wtm_at "n"
          rename_i p2 H27 w4
          have w5 := w4.frzL .here
          clear w w4
          have w := w5
          clear w5
          wtm_at "n"
          rename_i H28 w6
          clear w
          refine n_forgetQ (m := "asked") (x := h1.x) (kd := h1.kd) (rw := h1.rw) (φ := meD P wd K mg base ctab clog) w6 (by simp) (by decide) ?_
          wtm_at "n"
          refine n_asked (C := C_Heights) (φ := meD P wd K mg base ctab clog) (x := h1.x) (kd := h1.kd) (rw := h1.rw) (as := s1'.as) w6 (.mem (by simp)) (by simp) fun p3 H29 w => ?_
          clear w6
          wtm_at "n"
          rename_i H30 w7
          refine ⟨[(V.ref pd, D.lst [.ref h0.dd, .ref h1.dd]), (V.ref pq, .lst [.ref h0.q, .ref h1.q]), (V.ref pb, .lst [.ref h0.x, .ref h1.x]), (V.ref h1.x, hgO C_Heights h1.kd h1.rw (meD P wd K mg base ctab clog)), (V.ref h0.x, hgO C_Heights h0.kd h0.rw (meD P wd K mg base ctab clog)), (V.ref pw, .lst (ws.map D.int)), (V.ref pk, .lst (ks.map D.str))], (.dk pt tb' :: .ml pl lg' :: .dt h0.kd s0'.kn :: .ml h0.rw s0'.as :: .dt h0.q s0'.kn :: .ml h0.dd s0'.as :: .dt h1.kd s1'.kn :: .ml h1.rw s1'.as :: .dt h1.q s1'.kn :: .ml h1.dd s1'.as :: .ml tw (TW ++ [.tup [.lst s1'.as, .lst s1'.as]]) :: [.bag b, .tb P_law ("law.<locals>." ++ "<lambda>")]), ⟨_, _, _, tb', lg', s0', s1', (TW ++ [.tup [.lst s1'.as, .lst s1'.as]]), rfl, rfl, rfl, ht', ok0', ok1', hll', fun d hd => ?_, by rw [List.length_append]; exact Nat.succ_le_succ twl⟩, w7.sub (fun f hf => .mem (by simp only [List.mem_cons] at hf ⊢; rcases hf with h | h | h | h | h | h | h | h <;> simp_all)) (.cons _ (.refl _))⟩
          rcases List.mem_append.mp hd with hd | hd
          · exact htw d hd
          · exact ⟨s1'.as, List.mem_singleton.mp hd, ok1'.p⟩
      · rw [decide_eq_false h2]
        wtm_at "n"
        exact ⟨[(V.ref pd, D.lst [.ref h0.dd, .ref h1.dd]), (V.ref pq, .lst [.ref h0.q, .ref h1.q]), (V.ref pb, .lst [.ref h0.x, .ref h1.x]), (V.ref h1.x, hgO C_Heights h1.kd h1.rw (meD P wd K mg base ctab clog)), (V.ref h0.x, hgO C_Heights h0.kd h0.rw (meD P wd K mg base ctab clog)), (V.ref pw, .lst (ws.map D.int)), (V.ref pk, .lst (ks.map D.str))], (.dk pt tb' :: .ml pl lg' :: .dt h0.kd s0'.kn :: .ml h0.rw s0'.as :: .dt h0.q s0'.kn :: .ml h0.dd s0'.as :: .dt h1.kd s1'.kn :: .ml h1.rw s1'.as :: .dt h1.q s1'.kn :: .ml h1.dd s1'.as :: .ml tw TW :: [.bag b, .tb P_law ("law.<locals>." ++ "<lambda>")]), ⟨_, _, _, tb', lg', s0', s1', TW, rfl, rfl, rfl, ht', ok0', ok1', hll', htw, by omega⟩, w⟩
    · clear w
      rintro σ' H20 F' M' ⟨x5, x11, x12, tb, lg, s0, s1, TW, rfl, rfl, rfl, ht, ok0, ok1, hll, htw, twl⟩ w
      wtm_at "n"
      refine n_forL w (ds := TW) (fun i σ' F' M' => ∃ (x12 x13 : Option V), σ' = [some (.ref a), some (.ref b), some (.int many), some (.ref pk), x4, x5, some (.ref pw), some (.ref pb), some (.ref pq), some (.ref pd), some (.ref tw), x11, x12, x13, some (.ref pl), some (.ref pt)] ∧ F' = [(V.ref pd, D.lst [.ref h0.dd, .ref h1.dd]), (V.ref pq, .lst [.ref h0.q, .ref h1.q]), (V.ref pb, .lst [.ref h0.x, .ref h1.x]), (V.ref h1.x, hgO C_Heights h1.kd h1.rw (meD P wd K mg base ctab clog)), (V.ref h0.x, hgO C_Heights h0.kd h0.rw (meD P wd K mg base ctab clog)), (V.ref pw, .lst (ws.map D.int)), (V.ref pk, .lst (ks.map D.str))] ∧ M' = (.dk pt tb :: .ml pl lg :: .dt h0.kd s0.kn :: .ml h0.rw s0.as :: .dt h0.q s0.kn :: .ml h0.dd s0.as :: .dt h1.kd s1.kn :: .ml h1.rw s1.as :: .dt h1.q s1.kn :: .ml h1.dd s1.as :: .ml tw TW :: [.bag b, .tb P_law ("law.<locals>." ++ "<lambda>")])) (by rintro i σ' F' M' ⟨_, _, rfl, rfl, rfl⟩; exact .ml (by simp)) ⟨_, _, rfl, rfl, rfl⟩ ?_ ?_
      · clear w
        rintro i d z σ' H21 F' M' hd ⟨y12, y13, rfl, rfl, rfl⟩ w
        obtain ⟨ds, rfl, hds⟩ := htw d (List.mem_of_getElem? hd)
        wtm_at "n"
        rename_i ux uy w8
        refine n_neT (d := .lst ds) w8 (.mem (.head _)) (.mem (.tail _ (.head _))) (prk_nb hds) ?_
        wtm_at "n"
        exact ⟨_, _, ⟨_, _, rfl, rfl, rfl⟩, w.tail⟩
      · clear w
        rintro σ' H21 F' M' ⟨y12, y13, rfl, rfl, rfl⟩ w
        wtm_at "n"
        refine n_forgetQ (m := "asked") (x := h1.x) (kd := h1.kd) (rw := h1.rw) (φ := meD P wd K mg base ctab clog) w (by simp) (by decide) ?_
        wtm_at "n"
        refine n_asked (C := C_Heights) (φ := meD P wd K mg base ctab clog) (x := h1.x) (kd := h1.kd) (rw := h1.rw) (as := s1.as) w (.mem (by simp)) (by simp) fun p1 H22 w => ?_
        wtm_at "n"
        refine n_lasked (as := s1.as) w (.ml (.head _)) (.ml (by simp)) ok1.p (by have := ok1.al; omega) fun H23 w => ?_
        wtm_at "n"
        refine n_forgetQ (m := "asked") (x := h0.x) (kd := h0.kd) (rw := h0.rw) (φ := meD P wd K mg base ctab clog) w (by simp) (by decide) ?_
        wtm_at "n"
        refine n_asked (C := C_Heights) (φ := meD P wd K mg base ctab clog) (x := h0.x) (kd := h0.kd) (rw := h0.rw) (as := s0.as) w (.mem (by simp)) (by simp) fun p2 H24 w => ?_
        wtm_at "n"
        refine n_lasked (as := s0.as) w (.ml (.head _)) (.ml (by simp)) ok0.p (by have := ok0.al; omega) fun H25 w => ?_
        wtm_at "n"
        exact k _
end
theorem all_mk {l : PySem.W.OpenLaw} {w : World} {K : PySem.W.Frag} {h : Heap} {mg : Str → Option Value} {fa : Addr} (X : K.In h) (G : h.Ns mainGlobals mg) (hfa : mg "law" = some (.ref fa))
    {C_Heights : Addr} (aC_Heights : PySem.W.nsIn K mainGlobals "Heights" = some (some (.ref C_Heights)))
    (pg_Heights : PySem.W.plainGet K C_Heights Str.empty = true)
    (hd_Heights : PySem.W.hasDictIn K C_Heights = true)
    (po_Heights : PySem.W.plainOver K C_Heights = true)
    (sa_Heights : PySem.W.findIn K (.ref C_Heights) "__setattr__" = some (some (.builtin "object.__setattr__")))
    (mk_Heights : PySem.W.makesIn K C_Heights = true)
    (kc_Heights : PySem.W.keepIn K (.ref C_Heights) = true)
    (ha_Heights : PySem.W.findIn K (.ref C_Heights) "__class__" = some (some (.builtin "object.__class__")))
    (hn_Heights : PySem.W.specialIn K (.builtin "object.__class__") "__get__" = some (some (.builtin "getset_descriptor.__get__")))
    (htk_Heights : PySem.W.takesIn K (.builtin "object.__class__") = some true)
    (hm_Heights : PySem.W.mroIn K C_Heights (.type "object") = some true)
    (nf_Heights_measure : PySem.W.findIn K (.ref C_Heights) "measure" = some none)
    (nf_Heights_known : PySem.W.findIn K (.ref C_Heights) "known" = some none)
    (nf_Heights_row : PySem.W.findIn K (.ref C_Heights) "row" = some none)
    {f_Heights___init__ : Addr} {od_Heights___init__ an_Heights___init__ : Option Addr} {sl_Heights___init__ : Array (Option Value)} {oc_Heights___init__ kV_Heights___init__ dc_Heights___init__ pm_Heights___init__ cd_Heights___init__ ct_Heights___init__ : Value}
    (a_Heights___init__ : PySem.W.findIn K (.ref C_Heights) "__init__" = some (some (.ref f_Heights___init__))) (i_Heights___init__ : PySem.W.isFn K (.ref f_Heights___init__) = true)
    (l_Heights___init__ : K.lookup f_Heights___init__ = some ⟨oc_Heights___init__, od_Heights___init__, .func (PySem.W.fnOf "__init__" "Heights.__init__" (defArgs s_Heights___init__) (defBody s_Heights___init__) (defScope s_Heights___init__) .none kV_Heights___init__ dc_Heights___init__ pm_Heights___init__ an_Heights___init__ cd_Heights___init__ ct_Heights___init__), sl_Heights___init__⟩)
    (cc_Heights___init__ : PySem.W.codeIn K cd_Heights___init__ "Heights.__init__" = true) (k_Heights___init__ : PySem.W.keepIn K (.ref f_Heights___init__) = true)
    {f_Heights_height_of : Addr} {od_Heights_height_of an_Heights_height_of : Option Addr} {sl_Heights_height_of : Array (Option Value)} {oc_Heights_height_of kV_Heights_height_of dc_Heights_height_of pm_Heights_height_of cd_Heights_height_of ct_Heights_height_of : Value}
    (a_Heights_height_of : PySem.W.findIn K (.ref C_Heights) "height_of" = some (some (.ref f_Heights_height_of))) (i_Heights_height_of : PySem.W.isFn K (.ref f_Heights_height_of) = true)
    (l_Heights_height_of : K.lookup f_Heights_height_of = some ⟨oc_Heights_height_of, od_Heights_height_of, .func (PySem.W.fnOf "height_of" "Heights.height_of" (defArgs s_Heights_height_of) (defBody s_Heights_height_of) (defScope s_Heights_height_of) .none kV_Heights_height_of dc_Heights_height_of pm_Heights_height_of an_Heights_height_of cd_Heights_height_of ct_Heights_height_of), sl_Heights_height_of⟩)
    (cc_Heights_height_of : PySem.W.codeIn K cd_Heights_height_of "Heights.height_of" = true) (k_Heights_height_of : PySem.W.keepIn K (.ref f_Heights_height_of) = true)
    {f_Heights_forget : Addr} {od_Heights_forget an_Heights_forget : Option Addr} {sl_Heights_forget : Array (Option Value)} {oc_Heights_forget kV_Heights_forget dc_Heights_forget pm_Heights_forget cd_Heights_forget ct_Heights_forget : Value}
    (a_Heights_forget : PySem.W.findIn K (.ref C_Heights) "forget" = some (some (.ref f_Heights_forget))) (i_Heights_forget : PySem.W.isFn K (.ref f_Heights_forget) = true)
    (l_Heights_forget : K.lookup f_Heights_forget = some ⟨oc_Heights_forget, od_Heights_forget, .func (PySem.W.fnOf "forget" "Heights.forget" (defArgs s_Heights_forget) (defBody s_Heights_forget) (defScope s_Heights_forget) .none kV_Heights_forget dc_Heights_forget pm_Heights_forget an_Heights_forget cd_Heights_forget ct_Heights_forget), sl_Heights_forget⟩)
    (cc_Heights_forget : PySem.W.codeIn K cd_Heights_forget "Heights.forget" = true) (k_Heights_forget : PySem.W.keepIn K (.ref f_Heights_forget) = true)
    {f_Heights_asked : Addr} {od_Heights_asked an_Heights_asked : Option Addr} {sl_Heights_asked : Array (Option Value)} {oc_Heights_asked kV_Heights_asked dc_Heights_asked pm_Heights_asked cd_Heights_asked ct_Heights_asked : Value}
    (a_Heights_asked : PySem.W.findIn K (.ref C_Heights) "asked" = some (some (.ref f_Heights_asked))) (i_Heights_asked : PySem.W.isFn K (.ref f_Heights_asked) = true)
    (l_Heights_asked : K.lookup f_Heights_asked = some ⟨oc_Heights_asked, od_Heights_asked, .func (PySem.W.fnOf "asked" "Heights.asked" (defArgs s_Heights_asked) (defBody s_Heights_asked) (defScope s_Heights_asked) .none kV_Heights_asked dc_Heights_asked pm_Heights_asked an_Heights_asked cd_Heights_asked ct_Heights_asked), sl_Heights_asked⟩)
    (cc_Heights_asked : PySem.W.codeIn K cd_Heights_asked "Heights.asked" = true) (k_Heights_asked : PySem.W.keepIn K (.ref f_Heights_asked) = true)
    {f__law_bag : Addr} {od__law_bag an__law_bag : Option Addr} {sl__law_bag : Array (Option Value)} {oc__law_bag kV__law_bag dc__law_bag pm__law_bag cd__law_bag ct__law_bag : Value}
    (a__law_bag : PySem.W.nsIn K mainGlobals "_law_bag" = some (some (.ref f__law_bag)))
    (l__law_bag : K.lookup f__law_bag = some ⟨oc__law_bag, od__law_bag, .func (PySem.W.fnOf "_law_bag" "_law_bag" (defArgs s__law_bag) (defBody s__law_bag) (defScope s__law_bag) .none kV__law_bag dc__law_bag pm__law_bag an__law_bag cd__law_bag ct__law_bag), sl__law_bag⟩)
    (cc__law_bag : PySem.W.codeIn K cd__law_bag "_law_bag" = true) (k__law_bag : PySem.W.keepIn K (.ref f__law_bag) = true)
    {f__law_take : Addr} {od__law_take an__law_take : Option Addr} {sl__law_take : Array (Option Value)} {oc__law_take kV__law_take dc__law_take pm__law_take cd__law_take ct__law_take : Value}
    (a__law_take : PySem.W.nsIn K mainGlobals "_law_take" = some (some (.ref f__law_take)))
    (l__law_take : K.lookup f__law_take = some ⟨oc__law_take, od__law_take, .func (PySem.W.fnOf "_law_take" "_law_take" (defArgs s__law_take) (defBody s__law_take) (defScope s__law_take) .none kV__law_take dc__law_take pm__law_take an__law_take cd__law_take ct__law_take), sl__law_take⟩)
    (cc__law_take : PySem.W.codeIn K cd__law_take "_law_take" = true) (k__law_take : PySem.W.keepIn K (.ref f__law_take) = true)
    {f__law_length : Addr} {od__law_length an__law_length : Option Addr} {sl__law_length : Array (Option Value)} {oc__law_length kV__law_length dc__law_length pm__law_length cd__law_length ct__law_length : Value}
    (a__law_length : PySem.W.nsIn K mainGlobals "_law_length" = some (some (.ref f__law_length)))
    (l__law_length : K.lookup f__law_length = some ⟨oc__law_length, od__law_length, .func (PySem.W.fnOf "_law_length" "_law_length" (defArgs s__law_length) (defBody s__law_length) (defScope s__law_length) .none kV__law_length dc__law_length pm__law_length an__law_length cd__law_length ct__law_length), sl__law_length⟩)
    (cc__law_length : PySem.W.codeIn K cd__law_length "_law_length" = true) (k__law_length : PySem.W.keepIn K (.ref f__law_length) = true)
    {f__law_whole : Addr} {od__law_whole an__law_whole : Option Addr} {sl__law_whole : Array (Option Value)} {oc__law_whole kV__law_whole dc__law_whole pm__law_whole cd__law_whole ct__law_whole : Value}
    (a__law_whole : PySem.W.nsIn K mainGlobals "_law_whole" = some (some (.ref f__law_whole)))
    (l__law_whole : K.lookup f__law_whole = some ⟨oc__law_whole, od__law_whole, .func (PySem.W.fnOf "_law_whole" "_law_whole" (defArgs s__law_whole) (defBody s__law_whole) (defScope s__law_whole) .none kV__law_whole dc__law_whole pm__law_whole an__law_whole cd__law_whole ct__law_whole), sl__law_whole⟩)
    (cc__law_whole : PySem.W.codeIn K cd__law_whole "_law_whole" = true) (k__law_whole : PySem.W.keepIn K (.ref f__law_whole) = true)
    {f__law_name : Addr} {od__law_name an__law_name : Option Addr} {sl__law_name : Array (Option Value)} {oc__law_name kV__law_name dc__law_name pm__law_name cd__law_name ct__law_name : Value}
    (a__law_name : PySem.W.nsIn K mainGlobals "_law_name" = some (some (.ref f__law_name)))
    (l__law_name : K.lookup f__law_name = some ⟨oc__law_name, od__law_name, .func (PySem.W.fnOf "_law_name" "_law_name" (defArgs s__law_name) (defBody s__law_name) (defScope s__law_name) .none kV__law_name dc__law_name pm__law_name an__law_name cd__law_name ct__law_name), sl__law_name⟩)
    (cc__law_name : PySem.W.codeIn K cd__law_name "_law_name" = true) (k__law_name : PySem.W.keepIn K (.ref f__law_name) = true)
    {f__law_keys : Addr} {od__law_keys an__law_keys : Option Addr} {sl__law_keys : Array (Option Value)} {oc__law_keys kV__law_keys dc__law_keys pm__law_keys cd__law_keys ct__law_keys : Value}
    (a__law_keys : PySem.W.nsIn K mainGlobals "_law_keys" = some (some (.ref f__law_keys)))
    (l__law_keys : K.lookup f__law_keys = some ⟨oc__law_keys, od__law_keys, .func (PySem.W.fnOf "_law_keys" "_law_keys" (defArgs s__law_keys) (defBody s__law_keys) (defScope s__law_keys) .none kV__law_keys dc__law_keys pm__law_keys an__law_keys cd__law_keys ct__law_keys), sl__law_keys⟩)
    (cc__law_keys : PySem.W.codeIn K cd__law_keys "_law_keys" = true) (k__law_keys : PySem.W.keepIn K (.ref f__law_keys) = true)
    {f__law_high : Addr} {od__law_high an__law_high : Option Addr} {sl__law_high : Array (Option Value)} {oc__law_high kV__law_high dc__law_high pm__law_high cd__law_high ct__law_high : Value}
    (a__law_high : PySem.W.nsIn K mainGlobals "_law_high" = some (some (.ref f__law_high)))
    (l__law_high : K.lookup f__law_high = some ⟨oc__law_high, od__law_high, .func (PySem.W.fnOf "_law_high" "_law_high" (defArgs s__law_high) (defBody s__law_high) (defScope s__law_high) .none kV__law_high dc__law_high pm__law_high an__law_high cd__law_high ct__law_high), sl__law_high⟩)
    (cc__law_high : PySem.W.codeIn K cd__law_high "_law_high" = true) (k__law_high : PySem.W.keepIn K (.ref f__law_high) = true)
    {f__law_asked_well : Addr} {od__law_asked_well an__law_asked_well : Option Addr} {sl__law_asked_well : Array (Option Value)} {oc__law_asked_well kV__law_asked_well dc__law_asked_well pm__law_asked_well cd__law_asked_well ct__law_asked_well : Value}
    (a__law_asked_well : PySem.W.nsIn K mainGlobals "_law_asked_well" = some (some (.ref f__law_asked_well)))
    (l__law_asked_well : K.lookup f__law_asked_well = some ⟨oc__law_asked_well, od__law_asked_well, .func (PySem.W.fnOf "_law_asked_well" "_law_asked_well" (defArgs s__law_asked_well) (defBody s__law_asked_well) (defScope s__law_asked_well) .none kV__law_asked_well dc__law_asked_well pm__law_asked_well an__law_asked_well cd__law_asked_well ct__law_asked_well), sl__law_asked_well⟩)
    (cc__law_asked_well : PySem.W.codeIn K cd__law_asked_well "_law_asked_well" = true) (k__law_asked_well : PySem.W.keepIn K (.ref f__law_asked_well) = true)
    {f__law_asking : Addr} {od__law_asking an__law_asking : Option Addr} {sl__law_asking : Array (Option Value)} {oc__law_asking kV__law_asking dc__law_asking pm__law_asking cd__law_asking ct__law_asking : Value}
    (a__law_asking : PySem.W.nsIn K mainGlobals "_law_asking" = some (some (.ref f__law_asking)))
    (l__law_asking : K.lookup f__law_asking = some ⟨oc__law_asking, od__law_asking, .func (PySem.W.fnOf "_law_asking" "_law_asking" (defArgs s__law_asking) (defBody s__law_asking) (defScope s__law_asking) .none kV__law_asking dc__law_asking pm__law_asking an__law_asking cd__law_asking ct__law_asking), sl__law_asking⟩)
    (cc__law_asking : PySem.W.codeIn K cd__law_asking "_law_asking" = true) (k__law_asking : PySem.W.keepIn K (.ref f__law_asking) = true)
    {f__law_forgetting : Addr} {od__law_forgetting an__law_forgetting : Option Addr} {sl__law_forgetting : Array (Option Value)} {oc__law_forgetting kV__law_forgetting dc__law_forgetting pm__law_forgetting cd__law_forgetting ct__law_forgetting : Value}
    (a__law_forgetting : PySem.W.nsIn K mainGlobals "_law_forgetting" = some (some (.ref f__law_forgetting)))
    (l__law_forgetting : K.lookup f__law_forgetting = some ⟨oc__law_forgetting, od__law_forgetting, .func (PySem.W.fnOf "_law_forgetting" "_law_forgetting" (defArgs s__law_forgetting) (defBody s__law_forgetting) (defScope s__law_forgetting) .none kV__law_forgetting dc__law_forgetting pm__law_forgetting an__law_forgetting cd__law_forgetting ct__law_forgetting), sl__law_forgetting⟩)
    (cc__law_forgetting : PySem.W.codeIn K cd__law_forgetting "_law_forgetting" = true) (k__law_forgetting : PySem.W.keepIn K (.ref f__law_forgetting) = true)
    {f__law_pair : Addr} {od__law_pair an__law_pair : Option Addr} {sl__law_pair : Array (Option Value)} {oc__law_pair kV__law_pair dc__law_pair pm__law_pair cd__law_pair ct__law_pair : Value}
    (a__law_pair : PySem.W.nsIn K mainGlobals "_law_pair" = some (some (.ref f__law_pair)))
    (l__law_pair : K.lookup f__law_pair = some ⟨oc__law_pair, od__law_pair, .func (PySem.W.fnOf "_law_pair" "_law_pair" (defArgs s__law_pair) (defBody s__law_pair) (defScope s__law_pair) .none kV__law_pair dc__law_pair pm__law_pair an__law_pair cd__law_pair ct__law_pair), sl__law_pair⟩)
    (cc__law_pair : PySem.W.codeIn K cd__law_pair "_law_pair" = true) (k__law_pair : PySem.W.keepIn K (.ref f__law_pair) = true)
    {f__law_deed : Addr} {od__law_deed an__law_deed : Option Addr} {sl__law_deed : Array (Option Value)} {oc__law_deed kV__law_deed dc__law_deed pm__law_deed cd__law_deed ct__law_deed : Value}
    (a__law_deed : PySem.W.nsIn K mainGlobals "_law_deed" = some (some (.ref f__law_deed)))
    (l__law_deed : K.lookup f__law_deed = some ⟨oc__law_deed, od__law_deed, .func (PySem.W.fnOf "_law_deed" "_law_deed" (defArgs s__law_deed) (defBody s__law_deed) (defScope s__law_deed) .none kV__law_deed dc__law_deed pm__law_deed an__law_deed cd__law_deed ct__law_deed), sl__law_deed⟩)
    (cc__law_deed : PySem.W.codeIn K cd__law_deed "_law_deed" = true) (k__law_deed : PySem.W.keepIn K (.ref f__law_deed) = true)
    {f_law : Addr} {od_law an_law : Option Addr} {sl_law : Array (Option Value)} {oc_law kV_law dc_law pm_law ct_law : Value} {cA_law P_law : Addr}
    (a_law : PySem.W.nsIn K mainGlobals "law" = some (some (.ref f_law)))
    (l_law : K.lookup f_law = some ⟨oc_law, od_law, .func (PySem.W.fnOf "law" "law" (defArgs s_law) (defBody s_law) (defScope s_law) .none kV_law dc_law pm_law an_law (.ref cA_law) ct_law), sl_law⟩)
    (cc_law : PySem.W.codeIn K (.ref cA_law) "law" = true) (k_law : PySem.W.keepIn K (.ref f_law) = true)
    {ob_law : Obj} (lc_law : K.lookup cA_law = some ob_law) (tv_law : tabOf ob_law = some P_law) (np_law : K.lookup P_law = none)
    (z_len : PySem.W.nsIn K mainGlobals "len" = some none)
    (z_abs : PySem.W.nsIn K mainGlobals "abs" = some none)
    (z_isinstance : PySem.W.nsIn K mainGlobals "isinstance" = some none)
    (z_min : PySem.W.nsIn K mainGlobals "min" = some none)
    (z_max : PySem.W.nsIn K mainGlobals "max" = some none)
    (z_sum : PySem.W.nsIn K mainGlobals "sum" = some none)
    (z_sorted : PySem.W.nsIn K mainGlobals "sorted" = some none)
    (z_range : PySem.W.nsIn K mainGlobals "range" = some none)
    (z_zip : PySem.W.nsIn K mainGlobals "zip" = some none)
    (z_enumerate : PySem.W.nsIn K mainGlobals "enumerate" = some none)
    (z_reversed : PySem.W.nsIn K mainGlobals "reversed" = some none)
    (z_int : PySem.W.nsIn K mainGlobals "int" = some none)
    (z_bool : PySem.W.nsIn K mainGlobals "bool" = some none)
    (z_tuple : PySem.W.nsIn K mainGlobals "tuple" = some none)
    (z_list : PySem.W.nsIn K mainGlobals "list" = some none)
    (z_str : PySem.W.nsIn K mainGlobals "str" = some none)
    (z_dict : PySem.W.nsIn K mainGlobals "dict" = some none)
    (z_ValueError : PySem.W.nsIn K mainGlobals "ValueError" = some none)
    (z_set : PySem.W.nsIn K mainGlobals "set" = some none)
    (z_any : PySem.W.nsIn K mainGlobals "any" = some none)
    (z_all : PySem.W.nsIn K mainGlobals "all" = some none)
    (z_ord : PySem.W.nsIn K mainGlobals "ord" = some none)
    : ∃ (c P : Addr) (fd : FuncData), PySem.W.tabIn K "law" = some (c, P) ∧ K.lookup P = none ∧ (∀ (s : Shared) (v : Value), BindsTo s fd ⟨[v], []⟩ [("_law_script", v)]) ∧ ∀ base : Heap, K.In base → base.Ns mainGlobals mg → LamX.TabB base mg c P → FnOk l.prog w K mg base CX0 12 fa fd ["_law_script"] (sp_law K P) := by
  have e := hfa.symm.trans (PySem.W.mg_of X G a_law)
  cases e
  have B : Bn mg := ⟨PySem.W.mg_none_of X G z_len, PySem.W.mg_none_of X G z_abs, PySem.W.mg_none_of X G z_isinstance, PySem.W.mg_none_of X G z_min, PySem.W.mg_none_of X G z_max, PySem.W.mg_none_of X G z_sum, PySem.W.mg_none_of X G z_sorted, PySem.W.mg_none_of X G z_range, PySem.W.mg_none_of X G z_zip, PySem.W.mg_none_of X G z_enumerate, PySem.W.mg_none_of X G z_reversed, PySem.W.mg_none_of X G z_int, PySem.W.mg_none_of X G z_bool, PySem.W.mg_none_of X G z_tuple, PySem.W.mg_none_of X G z_list, PySem.W.mg_none_of X G z_str, PySem.W.mg_none_of X G z_dict, PySem.W.mg_none_of X G z_ValueError, PySem.W.mg_none_of X G z_set, PySem.W.mg_none_of X G z_any, PySem.W.mg_none_of X G z_all, PySem.W.mg_none_of X G z_ord⟩
  have g_Heights : mg "Heights" = some (.ref C_Heights) := PySem.W.mg_of X G aC_Heights
  have o_Heights : OwnC K C_Heights := ⟨⟨pg_Heights, hd_Heights, po_Heights, sa_Heights⟩, ha_Heights, hn_Heights, htk_Heights, hm_Heights⟩
  have n_Heights : ∀ f ∈ (["measure", "known", "row"] : List Str), NoAttr K C_Heights f := (List.forall_mem_cons.2 ⟨nf_Heights_measure, (List.forall_mem_cons.2 ⟨nf_Heights_known, (List.forall_mem_cons.2 ⟨nf_Heights_row, (fun _ z => nomatch z)⟩)⟩)⟩)
  have F_Heights___init__ := fun_mk (st := s_Heights___init__) l_Heights___init__ cc_Heights___init__ k_Heights___init__
  have F_Heights_height_of := fun_mk (st := s_Heights_height_of) l_Heights_height_of cc_Heights_height_of k_Heights_height_of
  have F_Heights_forget := fun_mk (st := s_Heights_forget) l_Heights_forget cc_Heights_forget k_Heights_forget
  have F_Heights_asked := fun_mk (st := s_Heights_asked) l_Heights_asked cc_Heights_asked k_Heights_asked
  have F__law_bag := fun_mk (st := s__law_bag) l__law_bag cc__law_bag k__law_bag
  have F__law_take := fun_mk (st := s__law_take) l__law_take cc__law_take k__law_take
  have F__law_length := fun_mk (st := s__law_length) l__law_length cc__law_length k__law_length
  have F__law_whole := fun_mk (st := s__law_whole) l__law_whole cc__law_whole k__law_whole
  have F__law_name := fun_mk (st := s__law_name) l__law_name cc__law_name k__law_name
  have F__law_keys := fun_mk (st := s__law_keys) l__law_keys cc__law_keys k__law_keys
  have F__law_high := fun_mk (st := s__law_high) l__law_high cc__law_high k__law_high
  have F__law_asked_well := fun_mk (st := s__law_asked_well) l__law_asked_well cc__law_asked_well k__law_asked_well
  have F__law_asking := fun_mk (st := s__law_asking) l__law_asking cc__law_asking k__law_asking
  have F__law_forgetting := fun_mk (st := s__law_forgetting) l__law_forgetting cc__law_forgetting k__law_forgetting
  have F__law_pair := fun_mk (st := s__law_pair) l__law_pair cc__law_pair k__law_pair
  have F__law_deed := fun_mk (st := s__law_deed) l__law_deed cc__law_deed k__law_deed
  have F_law := fun_mk (st := s_law) l_law cc_law k_law
  refine ⟨_, _, PySem.W.fnOf "law" "law" (defArgs s_law) (defBody s_law) (defScope s_law) .none kV_law dc_law pm_law an_law (.ref cA_law) ct_law, tabIn_of a_law l_law rfl lc_law tv_law, np_law, fun s v => .of_eq rfl, fun base _ _ TB => ?_⟩
  have m_Heights : Mak l.prog w K mg base "Heights" C_Heights 1 ["self", "measure"] [] (sp_Heights___init__ C_Heights) := ⟨_, _, [], ⟨mk_Heights, a_Heights___init__, i_Heights___init__, kc_Heights⟩, ok_Heights___init__ F_Heights___init__ B o_Heights n_Heights, PySem.W.mg_of X G aC_Heights, F_Heights___init__.binds (ps := ["self", "measure"]) fun _ _ _ _ _ _ us hl => match us, hl with | [_, _], _ => rfl, .nil⟩
  have t_Heights_height_of : Met l.prog w K mg base "height_of" C_Heights 9 ["self", "key", "wide"] [] (sp_Heights_height_of l.prog w K mg base C_Heights) := ⟨_, _, [], o_Heights.cl, ⟨a_Heights_height_of, i_Heights_height_of, k_Heights_height_of⟩, ok_Heights_height_of F_Heights_height_of B o_Heights n_Heights, F_Heights_height_of.binds (ps := ["self", "key", "wide"]) fun _ _ _ _ _ _ us hl => match us, hl with | [_, _, _], _ => rfl, .nil⟩
  have t_Heights_forget : Met l.prog w K mg base "forget" C_Heights 1 ["self", "key"] [] (sp_Heights_forget C_Heights) := ⟨_, _, [], o_Heights.cl, ⟨a_Heights_forget, i_Heights_forget, k_Heights_forget⟩, ok_Heights_forget F_Heights_forget B o_Heights n_Heights, F_Heights_forget.binds (ps := ["self", "key"]) fun _ _ _ _ _ _ us hl => match us, hl with | [_, _], _ => rfl, .nil⟩
  have t_Heights_asked : Met l.prog w K mg base "asked" C_Heights 1 ["self"] [] (sp_Heights_asked C_Heights) := ⟨_, _, [], o_Heights.cl, ⟨a_Heights_asked, i_Heights_asked, k_Heights_asked⟩, ok_Heights_asked F_Heights_asked B o_Heights n_Heights, F_Heights_asked.binds (ps := ["self"]) fun _ _ _ _ _ _ us hl => match us, hl with | [_], _ => rfl, .nil⟩
  have c__law_bag : Cal l.prog w K mg base "_law_bag" 1 ["_law_script"] [] (sp__law_bag K) := ⟨_, _, [], ok__law_bag F__law_bag B , PySem.W.mg_of X G a__law_bag, k__law_bag, F__law_bag.binds (ps := ["_law_script"]) fun _ _ _ _ _ _ us hl => match us, hl with | [_], _ => rfl, .nil⟩
  have c__law_take : Cal l.prog w K mg base "_law_take" 1 ["_law_bag_here", "_law_many"] [] sp__law_take := ⟨_, _, [], ok__law_take F__law_take B , PySem.W.mg_of X G a__law_take, k__law_take, F__law_take.binds (ps := ["_law_bag_here", "_law_many"]) fun _ _ _ _ _ _ us hl => match us, hl with | [_, _], _ => rfl, .nil⟩
  have c__law_length : Cal l.prog w K mg base "_law_length" 2 ["_law_bag_here", "_law_most"] [] sp__law_length := ⟨_, _, [], ok__law_length F__law_length B c__law_take, PySem.W.mg_of X G a__law_length, k__law_length, F__law_length.binds (ps := ["_law_bag_here", "_law_most"]) fun _ _ _ _ _ _ us hl => match us, hl with | [_, _], _ => rfl, .nil⟩
  have c__law_whole : Cal l.prog w K mg base "_law_whole" 1 ["_law_found"] [] sp__law_whole := ⟨_, _, [], ok__law_whole F__law_whole B , PySem.W.mg_of X G a__law_whole, k__law_whole, F__law_whole.binds (ps := ["_law_found"]) fun _ _ _ _ _ _ us hl => match us, hl with | [_], _ => rfl, .nil⟩
  have c__law_name : Cal l.prog w K mg base "_law_name" 2 ["_law_bag_here"] [] (sp__law_name) := ⟨_, _, [], ok__law_name F__law_name B c__law_take, PySem.W.mg_of X G a__law_name, k__law_name, F__law_name.binds (ps := ["_law_bag_here"]) fun _ _ _ _ _ _ us hl => match us, hl with | [_], _ => rfl, .nil⟩
  have c__law_keys : Cal l.prog w K mg base "_law_keys" 3 ["_law_bag_here"] [] (sp__law_keys) := ⟨_, _, [], ok__law_keys F__law_keys B c__law_name c__law_take, PySem.W.mg_of X G a__law_keys, k__law_keys, F__law_keys.binds (ps := ["_law_bag_here"]) fun _ _ _ _ _ _ us hl => match us, hl with | [_], _ => rfl, .nil⟩
  have c__law_high : Cal l.prog w K mg base "_law_high" 1 ["_law_table", "_law_log", "_law_key", "_law_wide"] [] (sp__law_high) := ⟨_, _, [], ok__law_high F__law_high B , PySem.W.mg_of X G a__law_high, k__law_high, F__law_high.binds (ps := ["_law_table", "_law_log", "_law_key", "_law_wide"]) fun _ _ _ _ _ _ us hl => match us, hl with | [_, _, _, _], _ => rfl, .nil⟩
  have c__law_asked_well : Cal l.prog w K mg base "_law_asked_well" 2 ["_law_found", "_law_due"] [] (sp__law_asked_well) := ⟨_, _, [], ok__law_asked_well F__law_asked_well B c__law_whole, PySem.W.mg_of X G a__law_asked_well, k__law_asked_well, F__law_asked_well.binds (ps := ["_law_found", "_law_due"]) fun _ _ _ _ _ _ us hl => match us, hl with | [_, _], _ => rfl, .nil⟩
  have c__law_asking : Cal l.prog w K mg base "_law_asking" 10 ["_law_both", "_law_kept", "_law_due", "_law_log", "_law_table", "_law_at", "_law_key", "_law_wide"] [] (sp__law_asking l.prog w K mg base C_Heights) := ⟨_, _, [], ok__law_asking F__law_asking B c__law_whole t_Heights_height_of o_Heights n_Heights, PySem.W.mg_of X G a__law_asking, k__law_asking, F__law_asking.binds (ps := ["_law_both", "_law_kept", "_law_due", "_law_log", "_law_table", "_law_at", "_law_key", "_law_wide"]) fun _ _ _ _ _ _ us hl => match us, hl with | [_, _, _, _, _, _, _, _], _ => rfl, .nil⟩
  have c__law_forgetting : Cal l.prog w K mg base "_law_forgetting" 2 ["_law_both", "_law_kept", "_law_at", "_law_key"] [] (sp__law_forgetting C_Heights) := ⟨_, _, [], ok__law_forgetting F__law_forgetting B t_Heights_forget o_Heights n_Heights, PySem.W.mg_of X G a__law_forgetting, k__law_forgetting, F__law_forgetting.binds (ps := ["_law_both", "_law_kept", "_law_at", "_law_key"]) fun _ _ _ _ _ _ us hl => match us, hl with | [_, _, _, _], _ => rfl, .nil⟩
  have c__law_pair : Cal l.prog w K mg base "_law_pair" 3 ["_law_bag_here"] [] (sp__law_pair) := ⟨_, _, [], ok__law_pair F__law_pair B c__law_length, PySem.W.mg_of X G a__law_pair, k__law_pair, F__law_pair.binds (ps := ["_law_bag_here"]) fun _ _ _ _ _ _ us hl => match us, hl with | [_], _ => rfl, .nil⟩
  have c__law_deed : Cal l.prog w K mg base "_law_deed" 11 ["_law_bag_here", "_law_both", "_law_kept", "_law_due", "_law_log", "_law_table", "_law_keys_here", "_law_wides"] [] (sp__law_deed l.prog w K mg base C_Heights) := ⟨_, _, [], ok__law_deed F__law_deed B c__law_take c__law_length c__law_pair c__law_forgetting c__law_asking o_Heights n_Heights, PySem.W.mg_of X G a__law_deed, k__law_deed, F__law_deed.binds (ps := ["_law_bag_here", "_law_both", "_law_kept", "_law_due", "_law_log", "_law_table", "_law_keys_here", "_law_wides"]) fun _ _ _ _ _ _ us hl => match us, hl with | [_, _, _, _, _, _, _, _], _ => rfl, .nil⟩
  exact ok_law F_law B c__law_bag c__law_take c__law_keys c__law_pair c__law_length c__law_high c__law_deed c__law_asked_well m_Heights t_Heights_asked o_Heights n_Heights rfl TB
theorem walk {l : PySem.W.OpenLaw} {q : Program} {loose : List Str} {XP : (Str → Option Value) → Heap → Prop} {YP : World → Heap → Prop} {d : DefRec} {K : Params → PySem.W.Frag} (hn : l.most = some 63) (hdf : d.params.defaults = []) (hq : ((recsOf q).find? (fun e => e.name == (Str.ofString "law"))).isSome = true)
    (hY : ∀ (w : World) (h : Heap), YP w h → (K w.params).In h)
    (F : ∀ (w : World) (mg : Str → Option Value) (fa : Addr) (h : Heap), (K w.params).In h → h.Ns mainGlobals mg → mg d.name = some (.ref fa) →
      ∃ (c P : Addr) (fd : FuncData), PySem.W.tabIn (K w.params) "law" = some (c, P) ∧ (K w.params).lookup P = none ∧ (∀ (s : Shared) (u : Value), BindsTo s fd ⟨[u], []⟩ [("_law_script", u)]) ∧ ∀ base : Heap, (K w.params).In base → base.Ns mainGlobals mg → LamX.TabB base mg c P → FnOk l.prog w (K w.params) mg base CX0 12 fa fd ["_law_script"] (sp_law (K w.params) P)) :
    PySem.W.WalkO q loose XP YP l.row.toRowW d [] (fun f vs => PySem.call f vs) :=
  walk_T (n := 63) (k := 12) (x := "_law_script") (CX := fun _ => CX0) hn (by decide) hdf ⟨rfl, by decide, by decide⟩ hY (fun w mg fa h KX G hm => by
    obtain ⟨c, P, fd, h1, h2, h3, h4⟩ := F w mg fa h KX G hm
    obtain ⟨d2, hd2⟩ := Option.isSome_iff_exists.mp hq
    refine ⟨fd, [(c, P)], sp_law (K w.params) P, fun p hp => ?_, h3, fun H a ns hl hb hT hS => ⟨a, ns, rfl, hS, hT (c, P) List.mem_cons_self, hl, hb, fun _ => rfl⟩, fun base a b t => h4 base a b (t (c, P) List.mem_cons_self)⟩
    rw [List.mem_singleton.mp hp]
    exact ⟨⟨"law", d2, hd2, h1⟩, h2⟩) fun _ _ _ _ _ z => z
end Fs
open PySem PySem.W PyProof.Rows
set_option maxRecDepth 100000 in
set_option maxHeartbeats 0 in
theorem PySem.Challenge.cw_fairsheet_k51_heights_kept_holds : PySem.Challenge.rw_fairsheet_k51_heights_kept.Holds := by
  w_on; o_law; k_head; (case hw => w_witness2)
  k_fill
  refine Fs.walk (l := PySem.Challenge.rw_fairsheet_k51_heights_kept) rfl rfl rfl (fun w h Y => by first | exact PySem.W.kIn_of Y | exact PySem.W.km_in_of Y) ?F
  case F =>
    intro w mg fa h KX G hmg
    refine' Fs.all_mk KX G hmg ?aC_Heights ?pg_Heights ?hd_Heights ?po_Heights ?sa_Heights ?mk_Heights ?kc_Heights ?ha_Heights ?hn_Heights ?htk_Heights ?hm_Heights ?nf_Heights_measure ?nf_Heights_known ?nf_Heights_row ?a_Heights___init__ ?i_Heights___init__ ?l_Heights___init__ ?cc_Heights___init__ ?k_Heights___init__ ?a_Heights_height_of ?i_Heights_height_of ?l_Heights_height_of ?cc_Heights_height_of ?k_Heights_height_of ?a_Heights_forget ?i_Heights_forget ?l_Heights_forget ?cc_Heights_forget ?k_Heights_forget ?a_Heights_asked ?i_Heights_asked ?l_Heights_asked ?cc_Heights_asked ?k_Heights_asked ?a__law_bag ?l__law_bag ?cc__law_bag ?k__law_bag ?a__law_take ?l__law_take ?cc__law_take ?k__law_take ?a__law_length ?l__law_length ?cc__law_length ?k__law_length ?a__law_whole ?l__law_whole ?cc__law_whole ?k__law_whole ?a__law_name ?l__law_name ?cc__law_name ?k__law_name ?a__law_keys ?l__law_keys ?cc__law_keys ?k__law_keys ?a__law_high ?l__law_high ?cc__law_high ?k__law_high ?a__law_asked_well ?l__law_asked_well ?cc__law_asked_well ?k__law_asked_well ?a__law_asking ?l__law_asking ?cc__law_asking ?k__law_asking ?a__law_forgetting ?l__law_forgetting ?cc__law_forgetting ?k__law_forgetting ?a__law_pair ?l__law_pair ?cc__law_pair ?k__law_pair ?a__law_deed ?l__law_deed ?cc__law_deed ?k__law_deed ?a_law ?l_law ?cc_law ?k_law ?lc_law ?tv_law ?np_law ?z_len ?z_abs ?z_isinstance ?z_min ?z_max ?z_sum ?z_sorted ?z_range ?z_zip ?z_enumerate ?z_reversed ?z_int ?z_bool ?z_tuple ?z_list ?z_str ?z_dict ?z_ValueError ?z_set ?z_any ?z_all ?z_ord
    (case aC_Heights => k_is)
    (case pg_Heights => k_is)
    (case hd_Heights => k_is)
    (case po_Heights => k_is)
    (case sa_Heights => k_is)
    (case mk_Heights => k_is)
    (case kc_Heights => k_is)
    (case ha_Heights => k_is)
    (case hn_Heights => k_is)
    (case htk_Heights => k_is)
    (case hm_Heights => k_is)
    (case nf_Heights_measure => k_is)
    (case nf_Heights_known => k_is)
    (case nf_Heights_row => k_is)
    (case a_Heights___init__ => k_is)
    (case i_Heights___init__ => k_is)
    (case l_Heights___init__ => k_is)
    (case cc_Heights___init__ => k_is)
    (case k_Heights___init__ => k_is)
    (case a_Heights_height_of => k_is)
    (case i_Heights_height_of => k_is)
    (case l_Heights_height_of => k_is)
    (case cc_Heights_height_of => k_is)
    (case k_Heights_height_of => k_is)
    (case a_Heights_forget => k_is)
    (case i_Heights_forget => k_is)
    (case l_Heights_forget => k_is)
    (case cc_Heights_forget => k_is)
    (case k_Heights_forget => k_is)
    (case a_Heights_asked => k_is)
    (case i_Heights_asked => k_is)
    (case l_Heights_asked => k_is)
    (case cc_Heights_asked => k_is)
    (case k_Heights_asked => k_is)
    (case a__law_bag => k_is)
    (case l__law_bag => k_is)
    (case cc__law_bag => k_is)
    (case k__law_bag => k_is)
    (case a__law_take => k_is)
    (case l__law_take => k_is)
    (case cc__law_take => k_is)
    (case k__law_take => k_is)
    (case a__law_length => k_is)
    (case l__law_length => k_is)
    (case cc__law_length => k_is)
    (case k__law_length => k_is)
    (case a__law_whole => k_is)
    (case l__law_whole => k_is)
    (case cc__law_whole => k_is)
    (case k__law_whole => k_is)
    (case a__law_name => k_is)
    (case l__law_name => k_is)
    (case cc__law_name => k_is)
    (case k__law_name => k_is)
    (case a__law_keys => k_is)
    (case l__law_keys => k_is)
    (case cc__law_keys => k_is)
    (case k__law_keys => k_is)
    (case a__law_high => k_is)
    (case l__law_high => k_is)
    (case cc__law_high => k_is)
    (case k__law_high => k_is)
    (case a__law_asked_well => k_is)
    (case l__law_asked_well => k_is)
    (case cc__law_asked_well => k_is)
    (case k__law_asked_well => k_is)
    (case a__law_asking => k_is)
    (case l__law_asking => k_is)
    (case cc__law_asking => k_is)
    (case k__law_asking => k_is)
    (case a__law_forgetting => k_is)
    (case l__law_forgetting => k_is)
    (case cc__law_forgetting => k_is)
    (case k__law_forgetting => k_is)
    (case a__law_pair => k_is)
    (case l__law_pair => k_is)
    (case cc__law_pair => k_is)
    (case k__law_pair => k_is)
    (case a__law_deed => k_is)
    (case l__law_deed => k_is)
    (case cc__law_deed => k_is)
    (case k__law_deed => k_is)
    (case a_law => k_is)
    (case l_law => k_is)
    (case cc_law => k_is)
    (case k_law => k_is)
    (case lc_law => k_is)
    (case tv_law => rfl)
    (case np_law => kernel_rfl)
    (case z_len => k_is)
    (case z_abs => k_is)
    (case z_isinstance => k_is)
    (case z_min => k_is)
    (case z_max => k_is)
    (case z_sum => k_is)
    (case z_sorted => k_is)
    (case z_range => k_is)
    (case z_zip => k_is)
    (case z_enumerate => k_is)
    (case z_reversed => k_is)
    (case z_int => k_is)
    (case z_bool => k_is)
    (case z_tuple => k_is)
    (case z_list => k_is)
    (case z_str => k_is)
    (case z_dict => k_is)
    (case z_ValueError => k_is)
    (case z_set => k_is)
    (case z_any => k_is)
    (case z_all => k_is)
    (case z_ord => k_is)
