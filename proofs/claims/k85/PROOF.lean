import PyProof.Rows.All
import Wide.All
import OpenK.AllK
import Wide.FinOn
import HandS.ForMost
import HandS.Wide
import HandS.Walk
import HandS.IsInst
import HandS.Flow
import HandS.Style
import HandS.Zip
import HandS.EndBits
import HandS.Defaults
import HandS.More
import HandS.MakeKwOnly
import HandS.MakeKw
import HandS.Text
import PyProof.StrOps2
import HandS.SortInts
import HandS.Exc
import HandS.ExcOwn
import HandS.WordsExc
import HandS.ExcIs
import HandS.ExcInit
import KE.KExcIs
import HandS.DictComp
import KE.KDictCopyH
import PySem.Challenge.RW_fairsheet_k85_reach_and_evens
set_option Elab.async false
set_option linter.all false
set_option maxRecDepth 100000
set_option maxHeartbeats 20000000
set_option exponentiation.threshold 20000
namespace Fs
open PySem PySem.Spec PyProof.Rows L2

/-! ### data and what denotes it -/
inductive D where
  | non | bl (b : Bool) | int (i : Int) | str (x : Str) | ref (a : Addr) | ty (n : String)
  | tup (ds : List D) | lst (ds : List D) | obj (C : Addr) (fs : List (Str × D)) | dict

mutual
inductive Is (I : Hp) : V → D → Prop
  | non : Is I .non .non
  | bl (b : Bool) : Is I (.bl b) (.bl b)
  | int (i : Int) : Is I (.int i) (.int i)
  | str (x : Str) : Is I (.str x) (.str x)
  | ref (a : Addr) : Is I (.ref a) (.ref a)
  | ty (n : String) : Is I (.ty n) (.ty n)
  | tup {p : Addr} {vs : List V} {ds : List D} : I p = some (.tup vs) → IsA I vs ds → Is I (.ref p) (.tup ds)
  | lst {p : Addr} {vs : List V} {ds : List D} : I p = some (.lst vs) → IsA I vs ds → Is I (.ref p) (.lst ds)
  | obj {p C dx : Addr} {fs : List (Str × V)} {ds : List (Str × D)} : I p = some (.ins C dx fs) → IsF I fs ds → Is I (.ref p) (.obj C ds)
  | dct {p : Addr} {kvs : List (Key × V)} : I p = some (.dK kvs) → Is I (.ref p) .dict
inductive IsA (I : Hp) : List V → List D → Prop
  | nil : IsA I [] []
  | cons {v : V} {d : D} {vs : List V} {ds : List D} : Is I v d → IsA I vs ds → IsA I (v :: vs) (d :: ds)
inductive IsF (I : Hp) : List (Str × V) → List (Str × D) → Prop
  | nil : IsF I [] []
  | cons {f : Str} {v : V} {d : D} {vs : List (Str × V)} {ds : List (Str × D)} : Is I v d → IsF I vs ds → IsF I ((f, v) :: vs) ((f, d) :: ds)
end
mutual
theorem Is.mono {I J : Hp} (s : Same I J) : ∀ {v : V} {d : D}, Is I v d → Is J v d
  | _, _, .non => .non
  | _, _, .bl b => .bl b
  | _, _, .int i => .int i
  | _, _, .str x => .str x
  | _, _, .ref a => .ref a
  | _, _, .ty n => .ty n
  | _, _, .tup h a => .tup (s _ _ h) (IsA.mono s a)
  | _, _, .lst h a => .lst (s _ _ h) (IsA.mono s a)
  | _, _, .obj h a => .obj (s _ _ h) (IsF.mono s a)
  | _, _, .dct h => .dct (s _ _ h)
theorem IsA.mono {I J : Hp} (s : Same I J) : ∀ {vs : List V} {ds : List D}, IsA I vs ds → IsA J vs ds
  | _, _, .nil => .nil
  | _, _, .cons h a => .cons (Is.mono s h) (IsA.mono s a)
theorem IsF.mono {I J : Hp} (s : Same I J) : ∀ {vs : List (Str × V)} {ds : List (Str × D)}, IsF I vs ds → IsF J vs ds
  | _, _, .nil => .nil
  | _, _, .cons h a => .cons (Is.mono s h) (IsF.mono s a)
end
section
variable {I J : Hp} {v : V} {vs : List V} {ds es : List D} {d : D}
theorem Is.int_eq {n : Int} (h : Is I v (.int n)) : v = .int n := by cases h; rfl
theorem Is.bl_eq {n : Bool} (h : Is I v (.bl n)) : v = .bl n := by cases h; rfl
theorem Is.str_eq {n : Str} (h : Is I v (.str n)) : v = .str n := by cases h; rfl
theorem Is.non_eq (h : Is I v .non) : v = .non := by cases h; rfl
theorem Is.ref_eq {a : Addr} (h : Is I v (.ref a)) : v = .ref a := by cases h; rfl
theorem Is.tup_ex (h : Is I v (.tup ds)) : ∃ p vs, v = .ref p ∧ I p = some (.tup vs) ∧ IsA I vs ds := by
  cases h with | tup h a => exact ⟨_, _, rfl, h, a⟩
theorem Is.lst_ex (h : Is I v (.lst ds)) : ∃ p vs, v = .ref p ∧ I p = some (.lst vs) ∧ IsA I vs ds := by
  cases h with | lst h a => exact ⟨_, _, rfl, h, a⟩
theorem Is.obj_ex {C : Addr} {fs : List (Str × D)} (h : Is I v (.obj C fs)) : ∃ p dx vs, v = .ref p ∧ I p = some (.ins C dx vs) ∧ IsF I vs fs := by
  cases h with | obj h a => exact ⟨_, _, _, rfl, h, a⟩
theorem IsA.length : ∀ {vs : List V} {ds : List D}, IsA I vs ds → vs.length = ds.length
  | _, _, .nil => rfl
  | _, _, .cons _ a => by rw [List.length_cons, List.length_cons, a.length]
theorem IsA.get : ∀ {vs : List V} {ds : List D} {i : Nat} {d : D}, IsA I vs ds → ds[i]? = some d → ∃ v, vs[i]? = some v ∧ Is I v d
  | _, _, _, _, .nil, h => by simp at h
  | _, _, 0, _, .cons h _, e => by simp at e; subst e; exact ⟨_, rfl, h⟩
  | _, _, i + 1, d, .cons _ a, e => by
    obtain ⟨v, h1, h2⟩ := IsA.get (i := i) (d := d) a (by simpa using e)
    exact ⟨v, by simpa using h1, h2⟩
theorem IsA.of : ∀ {vs : List V} {ds : List D} {i : Nat} {v : V}, IsA I vs ds → vs[i]? = some v → ∃ d, ds[i]? = some d ∧ Is I v d
  | _, _, _, _, .nil, h => by simp at h
  | _, _, 0, _, .cons h _, e => by simp at e; subst e; exact ⟨_, rfl, h⟩
  | _, _, i + 1, d, .cons _ a, e => by
    obtain ⟨v, h1, h2⟩ := IsA.of (i := i) a (by simpa using e)
    exact ⟨v, by simpa using h1, h2⟩
theorem IsA.app : ∀ {vs us : List V} {ds es : List D}, IsA I vs ds → IsA I us es → IsA I (vs ++ us) (ds ++ es)
  | _, _, _, _, .nil, b => b
  | _, _, _, _, .cons h a, b => .cons h (IsA.app a b)
theorem IsA.one (h : Is I v d) : IsA I [v] [d] := .cons h .nil
theorem IsA.rev : ∀ {vs : List V} {ds : List D}, IsA I vs ds → IsA I vs.reverse ds.reverse
  | _, _, .nil => .nil
  | _, _, .cons h a => by rw [List.reverse_cons, List.reverse_cons]; exact (IsA.rev a).app (.one h)
theorem IsA.take : ∀ {vs : List V} {ds : List D} (n : Nat), IsA I vs ds → IsA I (vs.take n) (ds.take n)
  | _, _, 0, _ => .nil
  | _, _, _ + 1, .nil => .nil
  | _, _, n + 1, .cons h a => .cons h (IsA.take n a)
theorem IsA.drop : ∀ {vs : List V} {ds : List D} (n : Nat), IsA I vs ds → IsA I (vs.drop n) (ds.drop n)
  | _, _, 0, a => a
  | _, _, _ + 1, .nil => .nil
  | _, _, n + 1, .cons h a => IsA.drop n a
theorem IsA.ints : ∀ (ns : List Int), IsA I (ns.map V.int) (ns.map D.int)
  | [] => .nil
  | n :: r => .cons (.int n) (IsA.ints r)
theorem IsA.ints_eq : ∀ {vs : List V} {ns : List Int}, IsA I vs (ns.map D.int) → vs = ns.map V.int
  | _, [], h => by cases h; rfl
  | _, n :: r, h => by
    cases h with
    | cons h a => rw [h.int_eq, IsA.ints_eq a]; rfl
theorem IsF.get : ∀ {fs : List (Str × V)} {ds : List (Str × D)} {f : Str} {d : D}, IsF I fs ds → ds.lookup f = some d → ∃ v, fs.lookup f = some v ∧ Is I v d
  | _, _, _, _, .nil, e => by simp at e
  | _, _, f, d, .cons (f := g) h a, e => by
    rw [List.lookup_cons] at e
    cases hc : f == g with
    | true => rw [hc] at e; simp at e; subst e; exact ⟨_, by rw [List.lookup_cons, hc], h⟩
    | false =>
      rw [hc] at e
      obtain ⟨v, h1, h2⟩ := IsF.get a e
      exact ⟨v, by rw [List.lookup_cons, hc]; exact h1, h2⟩
theorem IsF.no : ∀ {fs : List (Str × V)} {ds : List (Str × D)} {f : Str}, IsF I fs ds → ds.lookup f = none → fs.lookup f = none
  | _, _, _, .nil, _ => rfl
  | _, _, f, .cons (f := g) h a, e => by
    rw [List.lookup_cons] at e ⊢
    cases hc : f == g with
    | true => rw [hc] at e; cases e
    | false => rw [hc] at e; exact IsF.no a e
end

/-! ### the heap: what stays (I), what may be changed (M) -/
structure W (I H : Hp) (M : List (Addr × HO)) : Prop where
  imm : Same I H
  mu : ∀ p ∈ M, H p.1 = some p.2 ∧ I p.1 = none
  nd : (M.map (·.1)).Nodup
section
variable {I H : Hp} {M M1 M2 : List (Addr × HO)} {p : Addr} {o o' : HO} {m : Addr × HO}
theorem same_new (h : H p = none) : Same H (upd H p o) := fun b x e => by
  rw [upd_ne (ne_of_none e h)]
  exact e
theorem W.fresh (w : W I H M) (h : H p = none) : I p = none := w.imm.free h
theorem W.notin (w : W I H M) (h : H p = none) : p ∉ M.map (·.1) := fun q => by
  obtain ⟨x, hx, e⟩ := List.mem_map.mp q
  have := (w.mu x hx).1
  rw [e, h] at this
  cases this
/-- a new thing that stays -/
theorem W.newI (w : W I H M) (h : H p = none) : W (upd I p o) (upd H p o) M where
  imm := fun b x e => by
    by_cases hb : b = p
    · subst hb; rw [upd_same] at e ⊢; exact e
    · rw [upd_ne hb] at e ⊢; exact w.imm b x e
  mu := fun x hx => by
    have q : x.1 ≠ p := fun e => w.notin h (e ▸ List.mem_map_of_mem hx)
    rw [upd_ne q, upd_ne q]
    exact w.mu x hx
  nd := w.nd
theorem W.same (w : W I H M) (h : H p = none) : Same I (upd I p o) := same_new (w.fresh h)
/-- a new thing that may be changed -/
theorem W.newM (w : W I H M) (h : H p = none) : W I (upd H p o) ((p, o) :: M) where
  imm := fun b x e => by
    rw [upd_ne (ne_of_none e (w.fresh h))]
    exact w.imm b x e
  mu := fun x hx => by
    rcases List.mem_cons.mp hx with e | hx
    · subst e; exact ⟨upd_same, w.fresh h⟩
    · have q : x.1 ≠ p := fun e => w.notin h (e ▸ List.mem_map_of_mem hx)
      rw [upd_ne q]
      exact w.mu x hx
  nd := List.nodup_cons.mpr ⟨w.notin h, w.nd⟩
theorem W.newM2 (w : W I H (m :: M)) (h : H p = none) : W I (upd H p o) (m :: (p, o) :: M) := by
  have q := w.newM (o := o) h
  refine ⟨q.imm, fun x hx => q.mu x ?_, ?_⟩
  · rcases List.mem_cons.mp hx with e | hx
    · exact List.mem_cons.mpr (.inr (List.mem_cons.mpr (.inl e)))
    · rcases List.mem_cons.mp hx with e | hx
      · exact List.mem_cons.mpr (.inl e)
      · exact List.mem_cons.mpr (.inr (List.mem_cons.mpr (.inr hx)))
  · have n := q.nd
    simp only [List.map_cons, List.nodup_cons, List.mem_cons, not_or] at n ⊢
    exact ⟨⟨fun e => n.1.1 e.symm, n.2.1⟩, n.1.2, n.2.2⟩
/-- a change -/
theorem W.put (w : W I H (M1 ++ (p, o) :: M2)) : W I (upd H p o') (M1 ++ (p, o') :: M2) := by
  have n := w.nd
  simp only [List.map_append, List.map_cons] at n
  have hp := w.mu (p, o) (List.mem_append_right _ List.mem_cons_self)
  refine ⟨fun b x e => ?_, fun x hx => ?_, by simpa only [List.map_append, List.map_cons] using n⟩
  · rw [upd_ne (ne_of_none e hp.2)]
    exact w.imm b x e
  · have n2 := List.nodup_append.mp n
    have n3 := List.nodup_cons.mp n2.2.1
    rcases List.mem_append.mp hx with h | h
    · have q : x.1 ≠ p := n2.2.2 _ (List.mem_map_of_mem h) _ List.mem_cons_self
      rw [upd_ne q]
      exact w.mu x (List.mem_append_left _ h)
    · rcases List.mem_cons.mp h with e | h
      · subst e; exact ⟨upd_same, hp.2⟩
      · have q : x.1 ≠ p := fun e => n3.1 (e ▸ List.mem_map_of_mem h)
        rw [upd_ne q]
        exact w.mu x (List.mem_append_right _ (List.mem_cons_of_mem _ h))
theorem W.put0 (w : W I H ((p, o) :: M2)) : W I (upd H p o') ((p, o') :: M2) := W.put (M1 := []) w
theorem W.put1 {m0 : Addr × HO} (w : W I H (m0 :: (p, o) :: M2)) : W I (upd H p o') (m0 :: (p, o') :: M2) := W.put (M1 := [m0]) w
theorem W.put2 {m0 m1 : Addr × HO} (w : W I H (m0 :: m1 :: (p, o) :: M2)) : W I (upd H p o') (m0 :: m1 :: (p, o') :: M2) := W.put (M1 := [m0, m1]) w
/-- what may be changed stays from now on -/
theorem W.frz (w : W I H (M1 ++ (p, o) :: M2)) : W (upd I p o) H (M1 ++ M2) := by
  have n := w.nd
  simp only [List.map_append, List.map_cons] at n
  have hp := w.mu (p, o) (List.mem_append_right _ List.mem_cons_self)
  have n2 := List.nodup_append.mp n
  have n3 := List.nodup_cons.mp n2.2.1
  refine ⟨fun b x e => ?_, fun x hx => ?_, ?_⟩
  · by_cases hb : b = p
    · subst hb; rw [upd_same] at e; cases e; exact hp.1
    · rw [upd_ne hb] at e; exact w.imm b x e
  · have q : x.1 ≠ p := by
      rcases List.mem_append.mp hx with h | h
      · exact n2.2.2 _ (List.mem_map_of_mem h) _ List.mem_cons_self
      · exact fun e => n3.1 (e ▸ List.mem_map_of_mem h)
    rw [upd_ne q]
    refine w.mu x ?_
    rcases List.mem_append.mp hx with h | h
    · exact List.mem_append_left _ h
    · exact List.mem_append_right _ (List.mem_cons_of_mem _ h)
  · rw [List.map_append]
    exact n.sublist (List.Sublist.append_left (List.sublist_cons_self _ _) _)
theorem W.frzS (w : W I H (M1 ++ (p, o) :: M2)) : Same I (upd I p o) := same_new (w.mu (p, o) (List.mem_append_right _ List.mem_cons_self)).2
theorem W.at (w : W I H (M1 ++ (p, o) :: M2)) : H p = some o := (w.mu (p, o) (List.mem_append_right _ List.mem_cons_self)).1
theorem W.at0 (w : W I H ((p, o) :: M2)) : H p = some o := W.at (M1 := []) w
theorem W.at1 {m0 : Addr × HO} (w : W I H (m0 :: (p, o) :: M2)) : H p = some o := W.at (M1 := [m0]) w
theorem W.at2 {m0 m1 : Addr × HO} (w : W I H (m0 :: m1 :: (p, o) :: M2)) : H p = some o := W.at (M1 := [m0, m1]) w
/-- the heap has more -/
theorem W.more {H' : Hp} (w : W I H M) (s : Same H H') : W I H' M := ⟨w.imm.trans s, fun x hx => ⟨s _ _ (w.mu x hx).1, (w.mu x hx).2⟩, w.nd⟩
end
end Fs

namespace Fs
open PySem PySem.Spec PyProof.Rows L2

/-! ### rules for several kinds at once -/
section
variable {X : Cx}
theorem opOr {f : Value → Value → Sem Value} {r r' : R2} (a : OpR X f r) (b : OpR X f r') : OpR X f (fun x y H Q => r x y H Q ∨ r' x y H Q) := by
  intro pins s σ H x y v u Q I rx ry h
  rcases h with h | h
  · exact a pins s σ H x y v u Q I rx ry h
  · exact b pins s σ H x y v u Q I rx ry h
theorem callOr {f : Value} {r r' : List V → Hp → VK → Prop} (a : CallR X f r) (b : CallR X f r') : CallR X f (fun xs H Q => r xs H Q ∨ r' xs H Q) := by
  intro pins s σ H xs us Q I rx h
  rcases h with h | h
  · exact a pins s σ H xs us Q I rx h
  · exact b pins s σ H xs us Q I rx h
theorem piOr {tg iter : Expr} {w w' : TI} (a : PI X tg iter w) (b : PI X tg iter w') : PI X tg iter (fun σ H R => w σ H R ∨ w' σ H R) := by
  refine ⟨fun pins s σ H R I h => ?_⟩
  rcases h with h | h
  · exact a.run pins s σ H R I h
  · exact b.run pins s σ H R I h
def rAddS : R2 := fun x y H Q => ∃ i j, x = .str i ∧ y = .str j ∧ i.length + j.length ≤ sizeLine ∧ Q (.str (i ++ j)) H
def rAddU (K : PySem.W.Frag) : R2 := fun x y H Q => rI0 (fun i j => .int (i + j)) x y H Q ∨ (rAddS x y H Q ∨ (rCat x y H Q ∨ rCatT K x y H Q))
theorem uo_add : OpR X (binaryOp .Add) (rAddU X.K) := opOr op_add (opOr op_add_str (opOr op_cat op_catT))
def rMulU : R2 := fun x y H Q => rI CMulW (fun i j => .int (i * j)) x y H Q ∨ rRep x y H Q
theorem uo_mul : OpR X (binaryOp .Mult) rMulU := opOr op_mulW op_rep
def rEqU (K : PySem.W.Frag) : R2 := fun x y H Q => rEq x y H Q ∨ rEqD K x y H Q
def rNeU (K : PySem.W.Frag) : R2 := fun x y H Q => rNe x y H Q ∨ rNeD K x y H Q
theorem uo_eq (hu : X.A.units + 64 < cLine) : OpR X (compareOp .Eq) (rEqU X.K) := opOr op_eq (op_eqD hu)
theorem uo_ne (hu : X.A.units + 64 < cLine) : OpR X (compareOp .NotEq) (rNeU X.K) := opOr op_ne (op_neD hu)
def rLenQ (K : PySem.W.Frag) : List V → Hp → VK → Prop := fun xs H Q => ∃ p ys, xs = [.ref p] ∧ (SqL K H p ys ∨ SqT K H p ys) ∧ Q (.int ys.length) H
def rLenStr : List V → Hp → VK → Prop := fun xs H Q => ∃ z, xs = [.str z] ∧ z.length ≤ sizeLine ∧ Q (.int z.length) H
def rLenU (K : PySem.W.Frag) : List V → Hp → VK → Prop := fun xs H Q => rLenQ K xs H Q ∨ rLenStr xs H Q
theorem uc_len : CallR X (.builtin "len") (rLenU X.K) := callOr call_len_seq call_len_str
def rAbs : List V → Hp → VK → Prop := fun xs H Q => ∃ i, xs = [.int i] ∧ Q (.int (if i < 0 then -i else i)) H
theorem uc_abs : CallR X (.builtin "abs") rAbs := call_abs
def rIsiU (K : PySem.W.Frag) : List V → Hp → VK → Prop := fun xs H Q => rIsi K xs H Q ∨ rIsiT K xs H Q
theorem uc_isi : CallR X (.builtin "isinstance") (rIsiU X.K) := callOr call_isi call_isiT
def rInt1 : List V → Hp → VK → Prop := fun xs H Q => (∃ i, xs = [.int i] ∧ Q (.int i) H) ∨ ∃ k, xs = [.bl k] ∧ Q (.int (if k then 1 else 0)) H
theorem uc_int : CallR X (.type "int") rInt1 := call_int1
def rMin2 : List V → Hp → VK → Prop := fun xs H Q => ∃ i j, xs = [.int i, .int j] ∧ Q (.int (if j < i then j else i)) H
def rMax2 : List V → Hp → VK → Prop := fun xs H Q => ∃ i j, xs = [.int i, .int j] ∧ Q (.int (if j > i then j else i)) H
def rMinU (K : PySem.W.Frag) : List V → Hp → VK → Prop := fun xs H Q => rMin2 xs H Q ∨ rMin K xs H Q
def rMaxU (K : PySem.W.Frag) : List V → Hp → VK → Prop := fun xs H Q => rMax2 xs H Q ∨ rMax K xs H Q
theorem uc_min (hc : X.calm = true) : CallR X (.builtin "min") (rMinU X.K) := callOr (call_min2 hc) (cr_min hc)
theorem uc_max (hc : X.calm = true) : CallR X (.builtin "max") (rMaxU X.K) := callOr (call_max2 hc) (cr_max hc)
def rListOf (K : PySem.W.Frag) : List V → Hp → VK → Prop := fun xs H Q => ∃ p ys, xs = [.ref p] ∧ (SqL K H p ys ∨ SqT K H p ys) ∧ ∀ l, H l = none → Q (.ref l) (upd H l (.lst ys))
theorem uc_list : CallR X (.type "list") (rListOf X.K) := call_list_of
def iSeqU (K : PySem.W.Frag) (tl : TE) : TI := fun σ H R => iList K tl σ H R ∨ iTup K tl σ H R
theorem pi_seq {tg l : Expr} {tl : TE} (h : PE X l tl) : PI X tg l (iSeqU X.K tl) := piOr (pi_list h) (pi_tup h)
end

/-! ### a def that may be called -/
structure Cal (P : Program) (w : World) (K : PySem.W.Frag) (mg : Str → Option Value) (base : Heap) (x : Str) (k : Nat) (ps : List Str) (dvs : List V) (sp : Sp) : Prop where
  ex : ∃ (f : Addr) (fd : FuncData) (ds : List Value), FnOk P w K mg base CX0 k f fd ps sp ∧ mg x = some (.ref f) ∧ PySem.W.keepIn K (.ref f) = true ∧ Binds K fd ps ds ∧ Vals dvs ds
section
variable {X : Cx} {x : Str} {p pos : Pos} {e : Expr} {es : List Expr} {t : TA} {k : Nat} {ps : List Str} {dvs : List V} {sp : Sp}
theorem pe_cal (c : Cal X.prog X.w X.K X.mg X.base x k ps dvs sp) (hr : Room k X.A) (hg : Gl X x) (ha : PA X (e :: es) t) (hdb : (x == ("__debug__" : Str)) = false := by decide)
    (he : starEach (e :: es) X.env = (false, eval e X.env) :: starEach es X.env := by rfl) (hpl : (backTo pos (starEach es X.env)).any (·.1) = false := by rfl) : PE X (.Call (.Name x p) (e :: es) [] pos) (tCall sp dvs E0 t) := by
  obtain ⟨f, fd, ds, F, hm, hk, hb, hd⟩ := c.ex
  exact pe_call F hr hg hm hk hb hd pass0 ha hdb he hpl
theorem pe_cal0 (c : Cal X.prog X.w X.K X.mg X.base x k ps dvs sp) (hr : Room k X.A) (hg : Gl X x) (hdb : (x == ("__debug__" : Str)) = false := by decide) : PE X (.Call (.Name x p) [] [] pos) (tCall sp dvs E0 tNil) := by
  obtain ⟨f, fd, ds, F, hm, hk, hb, hd⟩ := c.ex
  exact pe_call0 F hr hg hm hk hb hd pass0 hdb
end

/-! ### steps of a reading -/
section
variable {K : PySem.W.Frag} {σ σ' : L2.St} {I H : Hp} {M M1 M2 : List (Addr × HO)} {Q : VK} {R : Bool → Hp → Prop} {RA : List V → Hp → Prop} {G : Ends} {ta tb tc te : TE} {t u : TS} {c c' : TT} {tA tr : TA} {g : TG} {r r' : R2} {i : Nat} {v x y : V} {xs vs : List V} {d : D} {ds es : List D}
-- statements
theorem s_seq (h : t { G with nx := u G } σ H) : tSeq t u G σ H := h
theorem s_next (h : G.nx σ H) : tNext G σ H := h
theorem s_brk (h : G.bk σ H) : tBreak G σ H := h
theorem s_cnt (h : G.ct σ H) : tCont G σ H := h
theorem s_ifS (h : c σ H fun b H1 => if b = true then t G σ H1 else u G σ H1) : tIfS c t u G σ H := h
theorem s_asg (h : te σ H fun x H1 => g x σ H1 G.nx) : tAsg te g G σ H := h
theorem s_ret (h : te σ H G.rt) : tRet te G σ H := h
theorem s_retN (h : G.rt .non H) : tRetN G σ H := h
theorem s_drop (h : te σ H fun _ H1 => G.nx σ H1) : tDrop te G σ H := h
theorem s_par {i j : Nat} (h : tA σ H fun vs H1 => ∃ v w, vs = [v, w] ∧ G.nx ((σ.set i (some v)).set j (some w)) H1) : tPar i j tA G σ H := h
theorem s_par2 {P : V → V → Prop} (h : P x y) : ∃ v w, [x, y] = [v, w] ∧ P v w := ⟨x, y, rfl, h⟩
theorem s_gname {T : L2.St → Hp → Prop} (h : T (σ.set i (some v)) H) : gName i v σ H T := h
/-- a mid-word: the ways of a statement meet -/
theorem s_mid (Mid : L2.St → Hp → Prop) (k : ∀ σ H, Mid σ H → u G σ H) (h : ∀ N : L2.St → Hp → Prop, (∀ σ' H', Mid σ' H' → N σ' H') → t { G with nx := N } σ H) : tSeq t u G σ H := h _ k
/-- .. (elder form) -/
theorem s_cut (Mid : L2.St → Hp → Prop) (h : t { G with nx := Mid } σ H) (k : ∀ σ H, Mid σ H → u G σ H) (mono : ∀ {G' : Ends}, True := by trivial) (hm : (∀ σ H, Mid σ H → u G σ H) → t { G with nx := Mid } σ H → t { G with nx := u G } σ H) : tSeq t u G σ H := hm k h
-- expressions
theorem s_var (h : σ[i]? = some (some v)) (q : Q v H) : tVar i σ H Q := ⟨v, h, q⟩
theorem s_c (q : Q v H) : tC v σ H Q := q
theorem s_op (h : ta σ H fun x H1 => tb σ H1 fun y H2 => r x y H2 Q) : tOp r ta tb σ H Q := h
theorem s_un {r : V → Hp → VK → Prop} (h : ta σ H fun x H1 => r x H1 Q) : tUn r ta σ H Q := h
theorem s_test (h : ta σ H fun x H' => ∃ k, x = .bl k ∧ R k H') : tTest ta σ H R := h
theorem s_B (h : ta σ H fun x H' => ∃ k, x = .bl k ∧ R k H') : tB ta σ H R := h
theorem s_k {b : Bool} {P : Bool → Prop} (h : P b) : ∃ k, V.bl b = .bl k ∧ P k := ⟨b, rfl, h⟩
theorem s_and (h : c σ H fun b H1 => if b = true then c' σ H1 R else R false H1) : tAnd c c' σ H R := h
theorem s_or (h : c σ H fun b H1 => if b = true then R true H1 else c' σ H1 R) : tOr c c' σ H R := h
theorem s_not (h : c σ H fun b H1 => R (!b) H1) : tNot c σ H R := h
theorem s_andV (h : ta σ H fun x H1 => ∃ c, x = .bl c ∧ if c = true then tb σ H1 Q else Q (.bl false) H1) : tAndV ta tb σ H Q := h
theorem s_orV (h : ta σ H fun x H1 => ∃ c, x = .bl c ∧ if c = true then Q (.bl true) H1 else tb σ H1 Q) : tOrV ta tb σ H Q := h
theorem s_notV (h : ta σ H fun x H1 => ∃ c, x = .bl c ∧ Q (.bl (!c)) H1) : tNotV ta σ H Q := h
theorem s_if (h : c σ H fun b H1 => if b = true then ta σ H1 Q else tb σ H1 Q) : tIf c ta tb σ H Q := h
theorem s_isN (h : ta σ H fun x H1 => Q (.bl (decide (x = .non))) H1) : tIsN ta σ H Q := h
theorem s_notN (h : ta σ H fun x H1 => Q (.bl (!decide (x = .non))) H1) : tNotN ta σ H Q := h
theorem s_chain (h : ta σ H fun x H1 => tb σ H1 fun y H2 => r x y H2 fun z H3 => ∃ k, z = .bl k ∧ if k = true then tc σ H3 fun w H4 => r' y w H4 Q else Q (.bl false) H3) : tChain r r' ta tb tc σ H Q := by
  unfold tChain
  exact h
theorem s_nil (h : RA [] H) : tNil σ H RA := h
theorem s_cons (h : ta σ H fun x H1 => tr σ H1 fun xs H2 => RA (x :: xs) H2) : tCons ta tr σ H RA := h
theorem s_call {sp : Sp} {dvs : List V} {E : XK} (h : tA σ H fun vs H1 => sp (vs ++ dvs) H1 Q E) : tCall sp dvs E tA σ H Q := h
theorem s_cb {r : List V → Hp → VK → Prop} (h : tA σ H fun vs H1 => r vs H1 Q) : tCB r tA σ H Q := h
-- ifs
theorem s_ite {b : Bool} {A B : Prop} (h1 : b = true → A) (h2 : b = false → B) : if b = true then A else B := by
  cases b with
  | true => exact iteT (h1 rfl)
  | false => exact iteF (h2 rfl)
theorem s_iteN {b : Bool} {A B : Prop} (h : if b = true then B else A) : if (!b) = true then A else B := by
  cases b with
  | true => exact iteF (by simpa using h)
  | false => exact iteT (by simpa using h)
theorem s_iteD {p : Prop} [Decidable p] {A B : Prop} (h1 : p → A) (h2 : ¬ p → B) : if decide p = true then A else B := s_ite (fun h => h1 (of_decide_eq_true h)) fun h => h2 (of_decide_eq_false h)
theorem s_iteDp {p : Prop} [Decidable p] {A B : Prop} (hp : p) (h1 : A) : if decide p = true then A else B := s_iteD (fun _ => h1) fun q => absurd hp q
theorem s_iteDn {p : Prop} [Decidable p] {A B : Prop} (hp : ¬ p) (h1 : B) : if decide p = true then A else B := s_iteD (fun q => absurd q hp) fun _ => h1
theorem s_iteI {i j : Int} {A B : Prop} (h1 : i = j → A) (h2 : i ≠ j → B) : if decide (V.int i = V.int j) = true then A else B := s_iteD (fun h => h1 (V.int.inj h)) fun h => h2 fun e => h (congrArg V.int e)
theorem s_iteIp {i j : Int} {A B : Prop} (hp : i = j) (h1 : A) : if decide (V.int i = V.int j) = true then A else B := s_iteI (fun _ => h1) fun q => absurd hp q
theorem s_iteIn {i j : Int} {A B : Prop} (hp : i ≠ j) (h1 : B) : if decide (V.int i = V.int j) = true then A else B := s_iteI (fun q => absurd q hp) fun _ => h1
-- ints
theorem s_I0 {f : Int → Int → V} {i j : Int} (q : Q (f i j) H) : rI0 f (.int i) (.int j) H Q := ⟨i, j, rfl, rfl, q⟩
theorem s_I {C : Int → Int → Prop} {f : Int → Int → V} {i j : Int} (hc : C i j) (q : Q (f i j) H) : rI C f (.int i) (.int j) H Q := ⟨i, j, rfl, rfl, hc, q⟩
theorem s_U {f : Int → V} {i : Int} (q : Q (f i) H) : rU f (.int i) H Q := ⟨i, rfl, q⟩
theorem s_add {i j : Int} (q : Q (.int (i + j)) H) : rAddU K (.int i) (.int j) H Q := .inl ⟨i, j, rfl, rfl, q⟩
theorem s_addS {i j : Str} (h : i.length + j.length ≤ sizeLine) (q : Q (.str (i ++ j)) H) : rAddU K (.str i) (.str j) H Q := .inr (.inl ⟨i, j, rfl, rfl, h, q⟩)
theorem s_mul {i j : Int} (hc : CMulW i j) (q : Q (.int (i * j)) H) : rMulU (.int i) (.int j) H Q := .inl ⟨i, j, rfl, rfl, hc, q⟩
theorem s_eq (h : scal x y = true) (q : Q (.bl (decide (x = y))) H) : rEqU K x y H Q := .inl ⟨h, q⟩
theorem s_ne (h : scal x y = true) (q : Q (.bl (!decide (x = y))) H) : rNeU K x y H Q := .inl ⟨h, q⟩
theorem s_abs {i : Int} (q : Q (.int (if i < 0 then -i else i)) H) : rAbs [.int i] H Q := ⟨i, rfl, q⟩
theorem s_intB {b : Bool} (q : Q (.int (if b then 1 else 0)) H) : rInt1 [.bl b] H Q := .inr ⟨b, rfl, q⟩
theorem s_intI {i : Int} (q : Q (.int i) H) : rInt1 [.int i] H Q := .inl ⟨i, rfl, q⟩
theorem s_min2 {i j : Int} (q : Q (.int (if j < i then j else i)) H) : rMinU K [.int i, .int j] H Q := .inl ⟨i, j, rfl, q⟩
theorem s_max2 {i j : Int} (q : Q (.int (if j > i then j else i)) H) : rMaxU K [.int i, .int j] H Q := .inl ⟨i, j, rfl, q⟩
-- reading what stays
theorem atI_isa {i : Int} (a : IsA I vs ds) (h : atI ds i = some d) : ∃ v, atI vs i = some v ∧ Is I v d := by
  unfold atI at h ⊢
  rw [a.length]
  cases e : ixN ds.length i with
  | none => rw [e] at h; cases h
  | some j => rw [e] at h; exact a.get h
theorem s_ixT {i : Int} (w : W I H M) (h : Is I v (.tup ds)) (hd : atI ds i = some d) (q : ∀ u, Is I u d → Q u H) : rIx K v (.int i) H Q := by
  obtain ⟨p, vs, rfl, hp, a⟩ := h.tup_ex
  obtain ⟨u, e, hu⟩ := atI_isa a hd
  exact .inr (.inl ⟨p, vs, i, u, rfl, rfl, .inl (.inl (w.imm _ _ hp)), e, q u hu⟩)
theorem s_ixL {i : Int} (w : W I H M) (h : Is I v (.lst ds)) (hd : atI ds i = some d) (q : ∀ u, Is I u d → Q u H) : rIx K v (.int i) H Q := by
  obtain ⟨p, vs, rfl, hp, a⟩ := h.lst_ex
  obtain ⟨u, e, hu⟩ := atI_isa a hd
  exact .inl ⟨p, vs, i, u, rfl, rfl, .inl (.inl (w.imm _ _ hp)), e, q u hu⟩
/-- .. of a list that may be changed -/
theorem s_ixM {p : Addr} {i : Int} (h : H p = some (.lst vs)) (hd : atI vs i = some v) (q : Q v H) : rIx K (.ref p) (.int i) H Q := .inl ⟨p, vs, i, v, rfl, rfl, .inl (.inl h), hd, q⟩
theorem s_lenL (w : W I H M) (h : Is I v (.lst ds)) (q : Q (.int ds.length) H) : rLenU K [v] H Q := by
  obtain ⟨p, vs, rfl, hp, a⟩ := h.lst_ex
  exact .inl ⟨p, vs, rfl, .inl (.inl (.inl (w.imm _ _ hp))), by rw [a.length]; exact q⟩
theorem s_lenT (w : W I H M) (h : Is I v (.tup ds)) (q : Q (.int ds.length) H) : rLenU K [v] H Q := by
  obtain ⟨p, vs, rfl, hp, a⟩ := h.tup_ex
  exact .inl ⟨p, vs, rfl, .inr (.inl (.inl (w.imm _ _ hp))), by rw [a.length]; exact q⟩
theorem s_lenM {p : Addr} (h : H p = some (.lst vs)) (q : Q (.int vs.length) H) : rLenU K [.ref p] H Q := .inl ⟨p, vs, rfl, .inl (.inl (.inl h)), q⟩
-- new things
def NewT (Q : VK) (xs : List V) (H : Hp) : Prop := xs.length ≤ sizeLine ∧ ∀ p, H p = none → Q (.ref p) (upd H p (.tup xs))
def NewL (Q : VK) (xs : List V) (H : Hp) : Prop := xs.length ≤ sizeLine ∧ ∀ p, H p = none → Q (.ref p) (upd H p (.lst xs))
theorem s_tup (h : tA σ H fun xs H1 => NewT Q xs H1) : tTup tA σ H Q := h
theorem s_lst (h : tA σ H fun xs H1 => NewL Q xs H1) : tLst tA σ H Q := h
theorem s_newT (w : W I H M) (a : IsA I xs ds) (hz : xs.length ≤ 1000) (q : ∀ p J H', Same I J → I p = none → W J H' M → Is J (.ref p) (.tup ds) → Q (.ref p) H') : NewT Q xs H :=
  ⟨Nat.le_trans hz (by decide), fun p hp => q p _ _ (w.same hp) (w.fresh hp) (w.newI hp) (.tup upd_same (a.mono (w.same hp)))⟩
theorem s_newL (w : W I H M) (a : IsA I xs ds) (hz : xs.length ≤ 1000) (q : ∀ p J H', Same I J → I p = none → W J H' M → Is J (.ref p) (.lst ds) → Q (.ref p) H') : NewL Q xs H :=
  ⟨Nat.le_trans hz (by decide), fun p hp => q p _ _ (w.same hp) (w.fresh hp) (w.newI hp) (.lst upd_same (a.mono (w.same hp)))⟩
theorem s_newM (w : W I H M) (hz : xs.length ≤ 1000) (q : ∀ p H', W I H' ((p, .lst xs) :: M) → Q (.ref p) H') : NewL Q xs H :=
  ⟨Nat.le_trans hz (by decide), fun p hp => q p _ (w.newM hp)⟩
/-- .. behind the head (the bag) -/
theorem s_newM2 {m : Addr × HO} (w : W I H (m :: M)) (hz : xs.length ≤ 1000) (q : ∀ p H', W I H' (m :: (p, .lst xs) :: M) → Q (.ref p) H') : NewL Q xs H :=
  ⟨Nat.le_trans hz (by decide), fun p hp => q p _ (w.newM2 hp)⟩
-- unpacking
theorem s_gtup {n : Nat} {gs : TGs} {T : L2.St → Hp → Prop} (w : W I H M) (h : Is I v (.tup ds)) (hn : ds.length = n) (q : ∀ xs, IsA I xs ds → gs xs σ H T) : gTup K n gs v σ H T := by
  obtain ⟨p, vs, rfl, hp, a⟩ := h.tup_ex
  exact ⟨p, vs, rfl, .inl (.inl (w.imm _ _ hp)), by rw [a.length]; exact hn, q vs a⟩
theorem s_gtup2 {gs : TGs} {T : L2.St → Hp → Prop} {d0 d1 : D} (w : W I H M) (h : Is I v (.tup [d0, d1])) (q : ∀ x y, Is I x d0 → Is I y d1 → gs [x, y] σ H T) : gTup K 2 gs v σ H T :=
  s_gtup w h rfl fun _ a => by
    cases a with | cons h0 a =>
    cases a with | cons h1 a =>
    cases a
    exact q _ _ h0 h1
theorem s_gtup3 {gs : TGs} {T : L2.St → Hp → Prop} {d0 d1 d2 : D} (w : W I H M) (h : Is I v (.tup [d0, d1, d2])) (q : ∀ x y z, Is I x d0 → Is I y d1 → Is I z d2 → gs [x, y, z] σ H T) : gTup K 3 gs v σ H T :=
  s_gtup w h rfl fun _ a => by
    cases a with | cons h0 a =>
    cases a with | cons h1 a =>
    cases a with | cons h2 a =>
    cases a
    exact q _ _ _ h0 h1 h2
theorem s_gtup4 {gs : TGs} {T : L2.St → Hp → Prop} {d0 d1 d2 d3 : D} (w : W I H M) (h : Is I v (.tup [d0, d1, d2, d3])) (q : ∀ x y z u, Is I x d0 → Is I y d1 → Is I z d2 → Is I u d3 → gs [x, y, z, u] σ H T) : gTup K 4 gs v σ H T :=
  s_gtup w h rfl fun _ a => by
    cases a with | cons h0 a =>
    cases a with | cons h1 a =>
    cases a with | cons h2 a =>
    cases a with | cons h3 a =>
    cases a
    exact q _ _ _ _ h0 h1 h2 h3
theorem s_gtup5 {gs : TGs} {T : L2.St → Hp → Prop} {d0 d1 d2 d3 d4 : D} (w : W I H M) (h : Is I v (.tup [d0, d1, d2, d3, d4])) (q : ∀ x y z u t, Is I x d0 → Is I y d1 → Is I z d2 → Is I u d3 → Is I t d4 → gs [x, y, z, u, t] σ H T) : gTup K 5 gs v σ H T :=
  s_gtup w h rfl fun _ a => by
    cases a with | cons h0 a =>
    cases a with | cons h1 a =>
    cases a with | cons h2 a =>
    cases a with | cons h3 a =>
    cases a with | cons h4 a =>
    cases a
    exact q _ _ _ _ _ h0 h1 h2 h3 h4
theorem s_gnil {T : L2.St → Hp → Prop} (q : T σ H) : gNil [] σ H T := ⟨rfl, q⟩
theorem s_gcons {gs : TGs} {T : L2.St → Hp → Prop} (h : g x σ H fun σ' H' => gs xs σ' H' T) : gCons g gs (x :: xs) σ H T := ⟨x, xs, rfl, h⟩
-- fields
theorem s_fld {f : Str} (h : ta σ H fun x H1 => ∃ a C dx fs v, x = .ref a ∧ H1 a = some (.ins C dx fs) ∧ Cls K C ∧ NoAttr K C f ∧ fs.lookup f = some v ∧ Q v H1) : tFld K ta f σ H Q := h
theorem s_fldAt {C : Addr} {f : Str} {fs : List (Str × D)} (w : W I H M) (h : Is I v (.obj C fs)) (hc : Cls K C) (hn : NoAttr K C f) (hd : fs.lookup f = some d) (q : ∀ u, Is I u d → Q u H) :
    ∃ a C dx fs u, v = .ref a ∧ H a = some (.ins C dx fs) ∧ Cls K C ∧ NoAttr K C f ∧ fs.lookup f = some u ∧ Q u H := by
  obtain ⟨p, dx, vs, rfl, hp, a⟩ := h.obj_ex
  obtain ⟨u, e, hu⟩ := a.get hd
  exact ⟨p, C, dx, vs, u, rfl, w.imm _ _ hp, hc, hn, e, q u hu⟩
-- isinstance
def D.tn : D → Option String
  | .non => some "NoneType" | .bl _ => some "bool" | .int _ => some "int" | .str _ => some "str" | .tup _ => some "tuple" | .lst _ => some "list" | .dict => some "dict" | _ => none
theorem Is.tyx {a : String} (w : W I H M) (h : Is I v d) (e : d.tn = some a) : TyX K H v (.type a) := by
  cases h with
  | non => cases e; exact .base .non
  | bl b => cases e; exact .base (.bl b)
  | int n => cases e; exact .base (.int n)
  | str n => cases e; exact .base (.str n)
  | tup hp _ => cases e; exact .base (.tup (w.imm _ _ hp))
  | lst hp _ => cases e; exact .base (.lst (w.imm _ _ hp))
  | ref a => cases e
  | ty n => cases e
  | obj _ _ => cases e
  | dct hp => cases e; exact .base (.dK (w.imm _ _ hp))
theorem s_isi {a b : String} {k : Bool} (w : W I H M) (h : Is I v d) (e : d.tn = some a) (hb : kitB a b = some k) (q : Q (.bl k) H) : rIsiU K [v, .ty b] H Q :=
  .inl ⟨v, .ty b, .type a, .type b, k, rfl, .ty b, h.tyx w e, kit_ty hb, q⟩
theorem kit_ii : kitB "int" "int" = some true := by decide +kernel
theorem kit_ib : kitB "int" "bool" = some false := by decide +kernel
theorem kit_bi : kitB "bool" "int" = some true := by decide +kernel
theorem kit_bb : kitB "bool" "bool" = some true := by decide +kernel
theorem kit_tt : kitB "tuple" "tuple" = some true := by decide +kernel
theorem kit_ll : kitB "list" "list" = some true := by decide +kernel
end
end Fs

namespace Fs
open PySem PySem.Spec PyProof.Rows L2

/-! ### the built-ins' names -/
structure Bn (mg : Str → Option Value) : Prop where
  len_ : mg "len" = none
  abs_ : mg "abs" = none
  isinstance_ : mg "isinstance" = none
  min_ : mg "min" = none
  max_ : mg "max" = none
  sum_ : mg "sum" = none
  sorted_ : mg "sorted" = none
  range_ : mg "range" = none
  zip_ : mg "zip" = none
  enumerate_ : mg "enumerate" = none
  reversed_ : mg "reversed" = none
  int_ : mg "int" = none
  bool_ : mg "bool" = none
  tuple_ : mg "tuple" = none
  list_ : mg "list" = none
  str_ : mg "str" = none
  dict_ : mg "dict" = none
  ValueError_ : mg "ValueError" = none
  set_ : mg "set" = none
  any_ : mg "any" = none
  all_ : mg "all" = none
section
variable {X : Cx} {pos : Pos}
theorem pe_globI {x : Str} {n : Int} (hg : Gl X x) (hm : ∃ t, X.mg x = some (.int n t)) (hd : (x == ("__debug__" : Str)) = false := by decide) : PE X (.Name x pos) (tC (.int n)) := by
  obtain ⟨t, e⟩ := hm
  exact pe_glob hg e ⟨t, rfl⟩ hd
theorem get_list : PGet X (rIxL X.K) := by
  intro pins s σ H x y v u Q I rx ry h
  obtain ⟨p, xs, i, z, rfl, rfl, hq, he, q⟩ := h
  cases rx
  obtain ⟨t, rfl⟩ := ry
  obtain ⟨its, r, pl, hz⟩ := I.list hq
  obtain ⟨j, h1, h2, h3, h4, h5⟩ := atI_get he
  obtain ⟨w, ew, rw'⟩ := r.get h2
  have hl := r.length
  have hn := line63
  have fin : EP X pins σ Q w s := ⟨z, H, I, rw', q⟩
  by_cases h0 : 0 ≤ i
  · have hj : i.toNat = j := by
      rw [seqIndex_of h0 h5] at h1
      exact Option.some.inj h1
    exact wpAny_getItem_list pl.isList h0 (by omega) (by rw [hj]; simpa using ew) fin
  · have hj : (i + (its.toArray.size : Int)).toNat = j := by
      rw [seqIndex_neg (by omega) h4] at h1
      rw [List.size_toArray, ← hl]
      exact Option.some.inj h1
    exact wpAny_getItem_list_neg pl.isList (by omega) (by rw [List.size_toArray] <;> omega) (by omega) (by rw [hj]; simpa using ew) fin
theorem ps_augL {o i e : Expr} {to ti te : TE} {tpos : Pos} (ho : PE X o to) (hi : PE X i ti) (he : PE X e te)
    (ha : ∀ ov iv new, augStore i ov iv new = (do holding [new, ov, iv] (setItem ov iv new); release [new, ov, iv] []; pure .next) := by intros; rfl) : PS X (.AugAssign (.Subscript o i tpos) .Add e pos) (tAugS to ti te (rIxL X.K) (ipI fun i j => i + j) rSetL) :=
  ps_augS ho hi get_list he ip_add set_list ha
end

/-! ### loops -/
section
variable {K : PySem.W.Frag} {σ : L2.St} {I H : Hp} {M : List (Addr × HO)} {G : Ends} {c : TT} {tb : TS} {g : TG}
theorem s_while (Pv : L2.St → Hp → Prop) (μ : L2.St → Nat) (h0 : Pv σ H)
    (hs : ∀ σ H, Pv σ H → c σ H fun b H1 => if b = true then ∃ N : L2.St → Hp → Prop, (∀ σ' H', N σ' H' → ∃ m', m' < μ σ ∧ m' = μ σ' ∧ Pv σ' H') ∧ tb { G with nx := N, ct := N, bk := G.nx } σ H1 else G.nx σ H1) : tWhile c tb G σ H := by
  refine ⟨fun m σ H => m = μ σ ∧ Pv σ H, ⟨_, rfl, h0⟩, ?_⟩
  rintro m σ H ⟨rfl, p⟩
  exact hs σ H p
theorem s_wN {Pv : L2.St → Hp → Prop} {μ : L2.St → Nat} {m : Nat} {σ1 : L2.St} (h : tb { G with nx := fun σ' H' => Pv σ' H' ∧ μ σ' < m, ct := fun σ' H' => Pv σ' H' ∧ μ σ' < m, bk := G.nx } σ1 H) :
    ∃ N : L2.St → Hp → Prop, (∀ σ' H', N σ' H' → ∃ m', m' < m ∧ m' = μ σ' ∧ Pv σ' H') ∧ tb { G with nx := N, ct := N, bk := G.nx } σ1 H :=
  ⟨_, fun _ _ h => ⟨_, h.2, rfl, h.1⟩, h⟩
theorem s_for {wi : TI} (h : wi σ H fun J H1 => ∃ W : Nat → Nat → L2.St → Hp → Prop, (∃ m, W 0 m σ H1) ∧ ∀ i m σ H, W i m σ H →
  (J.stop i H ∧ G.nx σ H) ∨ (J.go i H ∧ ∃ N : L2.St → Hp → Prop, (∀ σ' H', N σ' H' → ∃ m', m' < m ∧ W (i + 1) m' σ' H') ∧ ∀ x H', J.yld i H x H' → g x σ H' fun σ2 H2 => tb { G with nx := N, ct := N, bk := G.nx } σ2 H2)) : tFor wi g tb G σ H := h
theorem s_rng1 {ta : TA} {R : It → Hp → Prop} (h : ta σ H fun vs H1 => ∃ j : Int, vs = [.int j] ∧ -(2 ^ 62) ≤ j ∧ j < 2 ^ 62 ∧ R (Itr 0 j.toNat) H1) : iRng1 ta σ H R := h
theorem s_rng1' {P : Int → Prop} {j : Int} (h1 : -(2 ^ 62) ≤ j) (h2 : j < 2 ^ 62) (h : P j) : ∃ i : Int, [V.int j] = [.int i] ∧ -(2 ^ 62) ≤ i ∧ i < 2 ^ 62 ∧ P i := ⟨j, rfl, h1, h2, h⟩
theorem s_iL {tl : TE} {R : It → Hp → Prop} (h : tl σ H fun x H1 => ∃ a, x = .ref a ∧ (∃ xs, SqL K H1 a xs) ∧ R (Itl K a) H1) : iList K tl σ H R := h
theorem s_iT {tl : TE} {R : It → Hp → Prop} (h : tl σ H fun x H1 => ∃ a, x = .ref a ∧ (∃ xs, SqT K H1 a xs) ∧ R (Itt K a) H1) : iTup K tl σ H R := h
/-- a for over a list that stays: the word Pv over the turn, the slots, the heap; it says W of an extension of I -/
theorem s_forL {ds : List D} {v : V} (w : W I H M) (h : Is I v (.lst ds)) (Pv : Nat → L2.St → Hp → Prop) (h0 : Pv 0 σ H) (hI : ∀ i σ H, Pv i σ H → Same I H)
    (hs : ∀ i d x σ H, ds[i]? = some d → Is I x d → Pv i σ H → g x σ H fun σ2 H2 => tb { G with nx := Pv (i + 1), ct := Pv (i + 1), bk := G.nx } σ2 H2) (hd : ∀ σ H, Pv ds.length σ H → G.nx σ H) :
    ∃ a, v = .ref a ∧ (∃ xs, SqL K H a xs) ∧ ∃ W : Nat → Nat → L2.St → Hp → Prop, (∃ m, W 0 m σ H) ∧ ∀ i m σ H, W i m σ H →
      ((Itl K a).stop i H ∧ G.nx σ H) ∨ ((Itl K a).go i H ∧ ∃ N : L2.St → Hp → Prop, (∀ σ' H', N σ' H' → ∃ m', m' < m ∧ W (i + 1) m' σ' H') ∧ ∀ x H', (Itl K a).yld i H x H' → g x σ H' fun σ2 H2 => tb { G with nx := N, ct := N, bk := G.nx } σ2 H2) := by
  obtain ⟨p, vs, rfl, hp, a⟩ := h.lst_ex
  refine ⟨p, rfl, ⟨vs, .inl (.inl (w.imm _ _ hp))⟩, ?_⟩
  refine for_it (walk_list (K := K) (xs := vs)) Pv h0 (fun i σ H _ q => .inl (.inl (hI i σ H q _ _ hp))) (fun i x σ H H' hi q y => ?_) (fun σ H q => hd σ H (by rw [← a.length]; exact q))
  obtain ⟨rfl, e⟩ := y
  obtain ⟨d, e1, e2⟩ := a.of e
  exact hs i d x σ _ e1 e2 q
theorem s_forT {ds : List D} {v : V} (w : W I H M) (h : Is I v (.tup ds)) (Pv : Nat → L2.St → Hp → Prop) (h0 : Pv 0 σ H) (hI : ∀ i σ H, Pv i σ H → Same I H)
    (hs : ∀ i d x σ H, ds[i]? = some d → Is I x d → Pv i σ H → g x σ H fun σ2 H2 => tb { G with nx := Pv (i + 1), ct := Pv (i + 1), bk := G.nx } σ2 H2) (hd : ∀ σ H, Pv ds.length σ H → G.nx σ H) :
    ∃ a, v = .ref a ∧ (∃ xs, SqT K H a xs) ∧ ∃ W : Nat → Nat → L2.St → Hp → Prop, (∃ m, W 0 m σ H) ∧ ∀ i m σ H, W i m σ H →
      ((Itt K a).stop i H ∧ G.nx σ H) ∨ ((Itt K a).go i H ∧ ∃ N : L2.St → Hp → Prop, (∀ σ' H', N σ' H' → ∃ m', m' < m ∧ W (i + 1) m' σ' H') ∧ ∀ x H', (Itt K a).yld i H x H' → g x σ H' fun σ2 H2 => tb { G with nx := N, ct := N, bk := G.nx } σ2 H2) := by
  obtain ⟨p, vs, rfl, hp, a⟩ := h.tup_ex
  refine ⟨p, rfl, ⟨vs, .inl (.inl (w.imm _ _ hp))⟩, ?_⟩
  refine for_it (walk_tup (K := K) (xs := vs)) Pv h0 (fun i σ H _ q => .inl (.inl (hI i σ H q _ _ hp))) (fun i x σ H H' hi q y => ?_) (fun σ H q => hd σ H (by rw [← a.length]; exact q))
  obtain ⟨rfl, e⟩ := y
  obtain ⟨d, e1, e2⟩ := a.of e
  exact hs i d x σ _ e1 e2 q
theorem s_forR {lo : Int} {n : Nat} (Pv : Nat → L2.St → Hp → Prop) (h0 : Pv 0 σ H)
    (hs : ∀ i σ H, i < n → Pv i σ H → g (.int (lo + i)) σ H fun σ2 H2 => tb { G with nx := Pv (i + 1), ct := Pv (i + 1), bk := G.nx } σ2 H2) (hd : ∀ σ H, Pv n σ H → G.nx σ H) :
    ∃ W : Nat → Nat → L2.St → Hp → Prop, (∃ m, W 0 m σ H) ∧ ∀ i m σ H, W i m σ H →
      ((Itr lo n).stop i H ∧ G.nx σ H) ∨ ((Itr lo n).go i H ∧ ∃ N : L2.St → Hp → Prop, (∀ σ' H', N σ' H' → ∃ m', m' < m ∧ W (i + 1) m' σ' H') ∧ ∀ x H', (Itr lo n).yld i H x H' → g x σ H' fun σ2 H2 => tb { G with nx := N, ct := N, bk := G.nx } σ2 H2) := for_range Pv h0 hs hd
end

/-! ### changing a list -/
section
variable {K : PySem.W.Frag} {σ : L2.St} {I H : Hp} {M : List (Addr × HO)} {Q : VK} {x v : V} {xs vs : List V} {p : Addr} {ta te ti : TE} {tA : TA}
theorem s_bm {T : String} {r : V → List V → Hp → VK → Prop} (h : ta σ H fun x H1 => tyV K T x H1 ∧ tA σ H1 fun xs H2 => r x xs H2 Q) : tBM K T r ta tA σ H Q := h
theorem s_bm0 {T : String} {r : V → List V → Hp → VK → Prop} (h : ta σ H fun x H1 => tyV K T x H1 ∧ r x [] H1 Q) : tBM0 K T r ta σ H Q := h
theorem s_tyL {A : Prop} (h : H p = some (.lst xs)) (a : A) : tyV K "list" (.ref p) H ∧ A := ⟨.inl ⟨rfl, _, .inl (.inl h)⟩, a⟩
theorem s_app (h : H p = some (.lst xs)) (hz : xs.length ≤ 100000) (q : Q .non (upd H p (.lst (xs ++ [x])))) : rAppend (.ref p) [x] H Q := ⟨p, xs, x, rfl, rfl, h, Nat.lt_of_le_of_lt hz (by decide), q⟩
theorem s_clear (h : H p = some (.lst xs)) (q : Q .non (upd H p (.lst []))) : rClear (.ref p) [] H Q := ⟨p, xs, rfl, rfl, h, q⟩
theorem s_gsub {T : L2.St → Hp → Prop} {t : TSet} (h : ta σ H fun o H1 => ti σ H1 fun i H2 => t o i v H2 fun H3 => T σ H3) : gSub ta ti t v σ H T := h
theorem s_setL {T : Hp → Prop} {k : Int} {j : Nat} (h : H p = some (.lst xs)) (hj : ixN xs.length k = some j) (q : T (upd H p (.lst (xs.set j v)))) : rSetL (.ref p) (.int k) v H T := ⟨p, xs, k, j, rfl, rfl, h, hj, q⟩
theorem s_augS {G : Ends} {tget : V → V → Hp → VK → Prop} {tip : TIp} {tset : TSet} (h : ta σ H fun o H1 => ti σ H1 fun i H2 => tget o i H2 fun x H3 => te σ H3 fun y H4 => tip x y H4 fun z H5 => tset o i z H5 fun H6 => G.nx σ H6) : tAugS ta ti te tget tip tset G σ H := h
theorem s_ixLM {k : Int} (h : H p = some (.lst xs)) (hd : atI xs k = some v) (q : Q v H) : rIxL K (.ref p) (.int k) H Q := ⟨p, xs, k, v, rfl, rfl, .inl (.inl h), hd, q⟩
theorem s_ipI {f : Int → Int → Int} {i j : Int} (q : Q (.int (f i j)) H) : ipI f (.int i) (.int j) H Q := ⟨i, j, rfl, rfl, q⟩
def RevQ (K : PySem.W.Frag) (Q : VK) (v : V) (H : Hp) : Prop := ∃ a xs, v = .ref a ∧ SqL K H a xs ∧ ∀ p, H p = none → Q (.ref p) (upd H p (.lst xs.reverse))
theorem s_rev (h : te σ H fun x H1 => RevQ K Q x H1) : tRevL K te σ H Q := h
theorem s_rev' {ds : List D} (w : W I H M) (h : Is I v (.lst ds)) (q : ∀ p J H', Same I J → I p = none → W J H' M → Is J (.ref p) (.lst ds.reverse) → Q (.ref p) H') : RevQ K Q v H := by
  obtain ⟨p, vs, rfl, hp, a⟩ := h.lst_ex
  exact ⟨p, vs, rfl, .inl (.inl (w.imm _ _ hp)), fun l hl => q l _ _ (w.same hl) (w.fresh hl) (w.newI hl) (.lst upd_same (a.rev.mono (w.same hl)))⟩
end

section
variable {K : PySem.W.Frag} {σ : L2.St} {I H : Hp} {M : List (Addr × HO)} {Q : VK} {x v : V} {xs vs : List V} {p : Addr} {ta te ti : TE} {tA : TA} {m0 m1 : Addr × HO} {d0 d1 : D} {ds : List D}
theorem s_setW0 {T : Hp → Prop} {k : Int} {j : Nat} (w : W I H ((p, .lst xs) :: M)) (hj : ixN xs.length k = some j) (q : ∀ H', W I H' ((p, .lst (xs.set j v)) :: M) → T H') : rSetL (.ref p) (.int k) v H T := s_setL w.at0 hj (q _ w.put0)
theorem s_setW1 {T : Hp → Prop} {k : Int} {j : Nat} (w : W I H (m0 :: (p, .lst xs) :: M)) (hj : ixN xs.length k = some j) (q : ∀ H', W I H' (m0 :: (p, .lst (xs.set j v)) :: M) → T H') : rSetL (.ref p) (.int k) v H T := s_setL w.at1 hj (q _ w.put1)
theorem s_appW0 (w : W I H ((p, .lst xs) :: M)) (hz : xs.length ≤ 100000) (q : ∀ H', W I H' ((p, .lst (xs ++ [x])) :: M) → Q .non H') : rAppend (.ref p) [x] H Q := s_app w.at0 hz (q _ w.put0)
theorem s_appW1 (w : W I H (m0 :: (p, .lst xs) :: M)) (hz : xs.length ≤ 100000) (q : ∀ H', W I H' (m0 :: (p, .lst (xs ++ [x])) :: M) → Q .non H') : rAppend (.ref p) [x] H Q := s_app w.at1 hz (q _ w.put1)
theorem s_appW2 (w : W I H (m0 :: m1 :: (p, .lst xs) :: M)) (hz : xs.length ≤ 100000) (q : ∀ H', W I H' (m0 :: m1 :: (p, .lst (xs ++ [x])) :: M) → Q .non H') : rAppend (.ref p) [x] H Q := s_app w.at2 hz (q _ w.put2)
theorem W.frz0 {o : HO} (w : W I H ((p, o) :: M)) : W (upd I p o) H M := W.frz (M1 := []) w
theorem W.frz1 {o : HO} (w : W I H (m0 :: (p, o) :: M)) : W (upd I p o) H (m0 :: M) := W.frz (M1 := [m0]) w
theorem W.frz2 {o : HO} (w : W I H (m0 :: m1 :: (p, o) :: M)) : W (upd I p o) H (m0 :: m1 :: M) := W.frz (M1 := [m0, m1]) w
theorem W.frzS0 {o : HO} (w : W I H ((p, o) :: M)) : Same I (upd I p o) := W.frzS (M1 := []) w
theorem W.frzS1 {o : HO} (w : W I H (m0 :: (p, o) :: M)) : Same I (upd I p o) := W.frzS (M1 := [m0]) w
theorem W.frzS2 {o : HO} (w : W I H (m0 :: m1 :: (p, o) :: M)) : Same I (upd I p o) := W.frzS (M1 := [m0, m1]) w
/-- a list that grew stays from now on -/
theorem W.done0 (w : W I H ((p, .lst vs) :: M)) (a : IsA I vs ds) : ∃ J, Same I J ∧ W J H M ∧ Is J (.ref p) (.lst ds) := ⟨_, w.frzS0, w.frz0, .lst upd_same (a.mono w.frzS0)⟩
theorem W.done1 (w : W I H (m0 :: (p, .lst vs) :: M)) (a : IsA I vs ds) : ∃ J, Same I J ∧ W J H (m0 :: M) ∧ Is J (.ref p) (.lst ds) := ⟨_, w.frzS1, w.frz1, .lst upd_same (a.mono w.frzS1)⟩
theorem W.done2 (w : W I H (m0 :: m1 :: (p, .lst vs) :: M)) (a : IsA I vs ds) : ∃ J, Same I J ∧ W J H (m0 :: m1 :: M) ∧ Is J (.ref p) (.lst ds) := ⟨_, w.frzS2, w.frz2, .lst upd_same (a.mono w.frzS2)⟩
-- an item by an open place
theorem at_nat {α : Type} {l : List α} {i : Int} (h0 : 0 ≤ i) (h1 : i < l.length) : ∃ d, d ∈ l ∧ atI l i = some d := by
  have h2 : i.toNat < l.length := by omega
  have e : (i.toNat : Int) = i := by omega
  refine ⟨l[i.toNat], List.getElem_mem h2, ?_⟩
  have q := atI_nat (List.getElem?_eq_getElem h2)
  rw [e] at q
  exact q
theorem at_ints {ns : List Int} {z : Int} (h0 : 0 ≤ z) (h1 : z < ns.length) : ∃ n, n ∈ ns ∧ atI (ns.map D.int) z = some (.int n) := by
  obtain ⟨d, hd, e⟩ := at_nat (l := ns.map D.int) h0 (by simpa using h1)
  obtain ⟨n, hn, rfl⟩ := List.mem_map.mp hd
  exact ⟨n, hn, e⟩
theorem s_ixAny {i : Int} (w : W I H M) (h : Is I v (.lst ds)) (h0 : 0 ≤ i) (h1 : i < ds.length) (q : ∀ d u, d ∈ ds → Is I u d → Q u H) : rIx K v (.int i) H Q := by
  obtain ⟨d, hd, e⟩ := at_nat h0 h1
  exact s_ixL w h e fun u hu => q d u hd hu
theorem s_ixB {b : Bool} {m n : Int} (w : W I H M) (h : Is I v (.lst [.int m, .int n])) (q : ∀ k, k = m ∨ k = n → Q (.int k) H) : rIx K v (.int (if b then 1 else 0)) H Q := by
  cases b with
  | true => exact s_ixL w h (d := .int n) rfl fun u hu => by rw [hu.int_eq]; exact q n (.inr rfl)
  | false => exact s_ixL w h (d := .int m) rfl fun u hu => by rw [hu.int_eq]; exact q m (.inl rfl)
-- slices
theorem s_sl {r : V → Option Int → Option Int → Hp → VK → Prop} {tl th : TO} (h : te σ H fun x H1 => tl σ H1 fun lo H2 => th σ H2 fun hi H3 => r x lo hi H3 Q) : tSl r te tl th σ H Q := h
theorem s_noP {R : Option Int → Hp → Prop} (h : R none H) : tNoPart σ H R := h
theorem s_part {R : Option Int → Hp → Prop} (h : te σ H fun x H1 => ∃ i, x = .int i ∧ R (some i) H1) : tPart te σ H R := h
theorem s_part' {P : Int → Prop} {i : Int} (h : P i) : ∃ j, V.int i = .int j ∧ P j := ⟨i, rfl, h⟩
theorem s_slK {a : Addr} {lo hi : Option Int} (h : SqL K H a xs) (q : ∀ p, H p = none → Q (.ref p) (upd H p (.lst (cutV xs lo hi)))) : rSlL K (.ref a) lo hi H Q := ⟨a, xs, rfl, h, q⟩
-- comprehensions
theorem s_lc0 {wi : TI} {g : TG} {tt : TT} {xs : List Nat} (h : wi σ H fun J H1 => ∀ D, H1 D = none → ∃ W : Nat → Nat → Hp → Prop, (∃ m, W 0 m (upd H1 D (.lst []))) ∧ ∀ i m H, W i m H →
  (J.stop i H ∧ Q (.ref D) H) ∨ (J.go i H ∧ ∃ Nx : Hp → Prop, (∀ H', Nx H' → ∃ m', m' < m ∧ W (i + 1) m' H') ∧ ∀ x H', J.yld i H x H' → g x (wipe σ xs) H' fun σ2 H2 => wipe σ2 xs = wipe σ xs ∧ tt σ2 H2 fun b H3 =>
    if b = true then te σ2 H3 fun y H4 => ∃ acc, H4 D = some (.lst acc) ∧ acc.length < sizeLine ∧ Nx (upd H4 D (.lst (acc ++ [y]))) else Nx H3)) : tLc wi g tt te xs σ H Q := h
theorem s_yes {R : Bool → Hp → Prop} (h : R true H) : tYes σ H R := h
theorem s_iL' {R : Addr → Prop} (w : W I H M) (h : Is I v (.lst ds)) (q : ∀ a vs, v = .ref a → I a = some (.lst vs) → IsA I vs ds → R a) : ∃ a, v = .ref a ∧ (∃ xs, SqL K H a xs) ∧ R a := by
  obtain ⟨p, vs, rfl, hp, a⟩ := h.lst_ex
  exact ⟨p, rfl, ⟨vs, .inl (.inl (w.imm _ _ hp))⟩, q p vs rfl hp a⟩
end
/-- a written power -/
theorem op_powC {X : Cx} (n : Int) : OpR X (binaryOp .Pow) (rI (fun i j => CPow i j ∧ i ^ j.toNat = n) fun _ _ => .int n) := by
  intro pins s σ H x y v u Q I rx ry h
  obtain ⟨i, j, rfl, rfl, ⟨hc, e⟩, q⟩ := h
  exact op_pow pins s σ H _ _ v u Q I rx ry ⟨i, j, rfl, rfl, hc, by show Q (V.int (i ^ j.toNat)) H; rw [e]; exact q⟩
theorem cut63 (ns : List Int) (lo hi : Option Int) : ∃ ms : List Int, cutV (ns.map V.int) lo hi = ms.map V.int := by
  unfold cutV
  refine ⟨(ns.drop (HT.sIx (ns.map V.int).length 0 lo)).take (HT.sIx (ns.map V.int).length (ns.map V.int).length hi - HT.sIx (ns.map V.int).length 0 lo), ?_⟩
  rw [List.map_take, List.map_drop]

/-! ### sizes of numbers -/
def Bd (k : Nat) (x : Int) : Prop := x.natAbs < 2 ^ k
theorem Bd.mono {j k : Nat} {x : Int} (h : Bd j x) (hk : j ≤ k) : Bd k x := Nat.lt_of_lt_of_le h (Nat.pow_le_pow_right (by decide) hk)
theorem Bd.mul {j k : Nat} {x y : Int} (hx : Bd j x) (hy : Bd k y) : Bd (j + k) (x * y) := wide_lt hx hy
theorem Bd.neg {k : Nat} {x : Int} (h : Bd k x) : Bd k (-x) := by unfold Bd at *; rw [Int.natAbs_neg]; exact h
theorem Bd.add {k : Nat} {x y : Int} (hx : Bd k x) (hy : Bd k y) : Bd (k + 1) (x + y) := by
  unfold Bd at *
  have : (2 : Nat) ^ (k + 1) = 2 ^ k + 2 ^ k := by rw [Nat.pow_succ]; omega
  omega
theorem Bd.sub {k : Nat} {x y : Int} (hx : Bd k x) (hy : Bd k y) : Bd (k + 1) (x - y) := by
  unfold Bd at *
  have : (2 : Nat) ^ (k + 1) = 2 ^ k + 2 ^ k := by rw [Nat.pow_succ]; omega
  omega
theorem Bd.le {k : Nat} {x y : Int} (h : Bd k y) (hx : x.natAbs ≤ y.natAbs) : Bd k x := Nat.lt_of_le_of_lt hx h
theorem Bd.of {k : Nat} {x : Int} (n : Nat) (h : x.natAbs ≤ n) (hn : n < 2 ^ k := by decide) : Bd k x := Nat.lt_of_le_of_lt h hn
theorem Bd.cm {j k : Nat} {x y : Int} (hx : Bd j x) (hy : Bd k y) (h : j + k ≤ 900000 := by omega) : CMulW x y :=
  wide_mul (hx.mono (Nat.le_succ j)) (hy.mono (Nat.le_succ k)) (Nat.succ_pos _) (Nat.succ_pos _) (by omega)
theorem Bd.cd {k : Nat} {x y : Int} (hy : Bd k y) (h0 : 0 < y) (h : k ≤ 8000 := by omega) : CDivW x y := wide_div h0 (hy.mono (Nat.le_succ k)) (Nat.succ_pos _) (by omega)
theorem cm64 {i j : Int} (h1 : -18446744073709551616 ≤ i) (h2 : i ≤ 18446744073709551616) (h3 : -18446744073709551616 ≤ j) (h4 : j ≤ 18446744073709551616) : CMulW i j :=
  Bd.cm (j := 65) (k := 65) (Bd.of 18446744073709551616 (by omega)) (Bd.of 18446744073709551616 (by omega))
theorem cd64 {i j : Int} (h1 : 0 < j) (h2 : j ≤ 18446744073709551616) : CDivW i j := Bd.cd (k := 65) (Bd.of 18446744073709551616 (by omega)) h1

theorem W.zero {H : Hp} : W (fun _ => none) H [] := ⟨fun _ _ h => (nomatch h), fun _ h => (nomatch h), List.nodup_nil⟩
/-! ### fractions as data -/
abbrev fr (a b : Int) : D := .tup [.int a, .int b]

/-! ### the bag of draws: c is where its cells stand -/
structure BagAt (o : HO) (c : Addr) (x y z : Int) : Prop where
  ob : o = .lst [.int x, .int y, .int z, .ref c]
  x0 : 0 ≤ x
  y0 : 0 ≤ y
  y1 : y < 2147483647
  z0 : 0 ≤ z
def Bag (I : Hp) (c : Addr) (o : HO) : Prop := (∃ ns : List Int, I c = some (.lst (ns.map V.int)) ∧ ∀ n ∈ ns, 0 ≤ n) ∧ ∃ x y z, BagAt o c x y z
theorem Bag.mono {I J : Hp} {c : Addr} {o : HO} (s : Same I J) (h : Bag I c o) : Bag J c o := by
  obtain ⟨⟨ns, h1, h2⟩, h3⟩ := h
  exact ⟨⟨ns, s _ _ h1, h2⟩, h3⟩
end Fs

namespace Fs
open PySem PySem.Spec PyProof.Rows L2

/-! ### what stayed may be changed from now on -/
def del (I : Hp) (p : Addr) : Hp := fun a => if a = p then none else I a
theorem del_ne {I : Hp} {p a : Addr} (h : a ≠ p) : del I p a = I a := if_neg h
theorem del_same {I : Hp} {p : Addr} : del I p p = none := if_pos rfl
theorem same_del {J I : Hp} {p : Addr} (s : Same J I) (h : J p = none) : Same J (del I p) := fun b o e => by
  rw [del_ne (ne_of_none e h)]
  exact s b o e
section
variable {I J H : Hp} {M : List (Addr × HO)} {p : Addr} {o : HO} {m : Addr × HO}
theorem W.unf (w : W I H M) (h : I p = some o) : W (del I p) H ((p, o) :: M) where
  imm := fun b x e => by
    by_cases hb : b = p
    · subst hb; rw [del_same] at e; cases e
    · rw [del_ne hb] at e; exact w.imm b x e
  mu := fun x hx => by
    rcases List.mem_cons.mp hx with e | hx
    · subst e; exact ⟨w.imm _ _ h, del_same⟩
    · have q := w.mu x hx
      refine ⟨q.1, ?_⟩
      by_cases hb : x.1 = p
      · rw [hb]; exact del_same
      · rw [del_ne hb]; exact q.2
  nd := List.nodup_cons.mpr (And.intro (fun q => (by
    obtain ⟨x, hx, e⟩ := List.mem_map.mp q
    have := (w.mu x hx).2
    rw [e, h] at this
    cases this)) w.nd)
theorem W.swap {m0 m1 : Addr × HO} (w : W I H (m0 :: m1 :: M)) : W I H (m1 :: m0 :: M) := by
  refine ⟨w.imm, fun x hx => w.mu x ?_, ?_⟩
  · rcases List.mem_cons.mp hx with e | hx
    · exact List.mem_cons.mpr (.inr (List.mem_cons.mpr (.inl e)))
    · rcases List.mem_cons.mp hx with e | hx
      · exact List.mem_cons.mpr (.inl e)
      · exact List.mem_cons.mpr (.inr (List.mem_cons.mpr (.inr hx)))
  · have n := w.nd
    simp only [List.map_cons, List.nodup_cons, List.mem_cons, not_or] at n ⊢
    exact ⟨⟨fun e => n.1.1 e.symm, n.2.1⟩, n.1.2, n.2.2⟩
/-- behind the head -/
theorem W.unf1 (w : W I H (m :: M)) (h : I p = some o) : W (del I p) H (m :: (p, o) :: M) := (w.unf h).swap
theorem W.less (w : W I H (m :: M)) : W I H M := ⟨w.imm, fun x hx => w.mu x (List.mem_cons_of_mem _ hx), (List.nodup_cons.mp w.nd).2⟩
/-- fewer facts -/
theorem W.sub (w : W I H M) (s : Same J I) : W J H M := ⟨s.trans w.imm, fun x hx => ⟨(w.mu x hx).1, s.free (w.mu x hx).2⟩, w.nd⟩
theorem Bag.at {c : Addr} (h : Bag I c o) (hp : I p = none) : c ≠ p := by
  obtain ⟨⟨ns, h1, _⟩, _⟩ := h
  exact ne_of_none h1 hp
theorem Bag.del {c : Addr} (h : Bag I c o) (hp : c ≠ p) : Bag (del I p) c o := by
  obtain ⟨⟨ns, h1, h2⟩, h3⟩ := h
  exact ⟨⟨ns, by rw [del_ne hp]; exact h1, h2⟩, h3⟩
end

/-! ### == of data without truths -/
mutual
def D.pd : D → PyData
  | .non => .none
  | .bl b => .bool b
  | .int i => .int i
  | .str x => .str x
  | .ref _ => .none
  | .ty _ => .none
  | .tup ds => .tuple (D.pds ds)
  | .lst ds => .list (D.pds ds)
  | .obj _ _ => .none
  | .dict => .none
def D.pds : List D → List PyData
  | [] => []
  | d :: ds => D.pd d :: D.pds ds
end
/-- data of at most this depth, no truths in it -/
inductive NB : Nat → D → Prop
  | non {k : Nat} : NB k .non
  | int {k : Nat} (i : Int) : NB k (.int i)
  | str {k : Nat} {x : Str} (h : PyData.strOk x = true) : NB k (.str x)
  | tup {k : Nat} {ds : List D} (h : ∀ d ∈ ds, NB k d) : NB (k + 1) (.tup ds)
  | lst {k : Nat} {ds : List D} (h : ∀ d ∈ ds, NB k d) : NB (k + 1) (.lst ds)
theorem NB.mono {j : Nat} {d : D} (h : NB j d) : ∀ {k : Nat}, j ≤ k → NB k d := by
  induction h with
  | non => intro k _; exact .non
  | int i => intro k _; exact .int i
  | str h => intro k _; exact .str h
  | @tup j ds h ih =>
    intro k e
    cases k with
    | zero => omega
    | succ k => exact .tup fun d hd => ih d hd (by omega)
  | @lst j ds h ih =>
    intro k e
    cases k with
    | zero => omega
    | succ k => exact .lst fun d hd => ih d hd (by omega)
theorem pds_can : ∀ {ds : List D} {k : Nat}, (∀ d ∈ ds, (D.pd d).canLay0 = true ∧ (D.pd d).depth ≤ k) → PyData.canLayAll0 (D.pds ds) = true ∧ PyData.depthAll (D.pds ds) ≤ k
  | [], _, _ => ⟨by simp [D.pds, PyData.canLayAll0], by simp [D.pds, PyData.depthAll]⟩
  | d :: ds, k, h => by
    obtain ⟨h1, h2⟩ := h d List.mem_cons_self
    obtain ⟨h3, h4⟩ := pds_can (ds := ds) (k := k) fun e he => h e (List.mem_cons_of_mem _ he)
    exact ⟨by simp [D.pds, PyData.canLayAll0, h1, h3], by simp only [D.pds, PyData.depthAll]; omega⟩
theorem NB.can {k : Nat} {d : D} (h : NB k d) : (D.pd d).canLay0 = true ∧ (D.pd d).depth ≤ k := by
  induction h with
  | non => exact ⟨by simp [D.pd, PyData.canLay0], by simp [D.pd, PyData.depth]⟩
  | int i => exact ⟨by simp [D.pd, PyData.canLay0], by simp [D.pd, PyData.depth]⟩
  | str h => exact ⟨by simp [D.pd, PyData.canLay0, h], by simp [D.pd, PyData.depth]⟩
  | tup h ih =>
    obtain ⟨h1, h2⟩ := pds_can ih
    exact ⟨by simp [D.pd, PyData.canLay0, h1], by simp only [D.pd, PyData.depth]; omega⟩
  | lst h ih =>
    obtain ⟨h1, h2⟩ := pds_can ih
    exact ⟨by simp [D.pd, PyData.canLay0, h1], by simp only [D.pd, PyData.depth]; omega⟩
theorem NB.shaped {k : Nat} {d : D} (h : NB k d) (hk : k ≤ 64) : SeqAt.shaped (D.pd d) = true := by
  obtain ⟨h1, h2⟩ := h.can
  unfold SeqAt.shaped
  rw [h1, decide_eq_true (by omega)]
  rfl
theorem pds_eqv : ∀ {ds es : List D} {P : D → Prop}, (∀ d ∈ ds, ∀ e, P e → (PyData.eqv d.pd e.pd = true ↔ d = e)) → (∀ e ∈ es, P e) → (PyData.eqvAll (D.pds ds) (D.pds es) = true ↔ ds = es)
  | [], [], _, _, _ => by simp [D.pds, PyData.eqvAll]
  | [], e :: es, _, _, _ => by simp [D.pds, PyData.eqvAll]
  | d :: ds, [], _, _, _ => by simp [D.pds, PyData.eqvAll]
  | d :: ds, e :: es, P, h, g => by
    have h1 := h d List.mem_cons_self e (g e List.mem_cons_self)
    have h2 := pds_eqv (ds := ds) (es := es) (P := P) (fun x hx => h x (List.mem_cons_of_mem _ hx)) fun x hx => g x (List.mem_cons_of_mem _ hx)
    simp only [D.pds, PyData.eqvAll, Bool.and_eq_true, h1, h2, List.cons.injEq]
theorem NB.eqv {k : Nat} {d : D} (h : NB k d) : ∀ {j : Nat} {e : D}, NB j e → (PyData.eqv d.pd e.pd = true ↔ d = e) := by
  induction h with
  | non => intro j e g; cases g <;> simp [D.pd, PyData.eqv]
  | int i => intro j e g; cases g <;> simp [D.pd, PyData.eqv]
  | str h => intro j e g; cases g <;> simp [D.pd, PyData.eqv]
  | @tup k ds h ih =>
    intro j e g
    cases g with
    | non => simp [D.pd, PyData.eqv]
    | int i => simp [D.pd, PyData.eqv]
    | str h => simp [D.pd, PyData.eqv]
    | @tup j es g =>
      simp only [D.pd, PyData.eqv, D.tup.injEq]
      exact pds_eqv (P := fun e => ∃ j, NB j e) (fun d hd e he => by obtain ⟨j, he⟩ := he; exact ih d hd he) fun e he => ⟨_, g e he⟩
    | lst g => simp [D.pd, PyData.eqv]
  | @lst k ds h ih =>
    intro j e g
    cases g with
    | non => simp [D.pd, PyData.eqv]
    | int i => simp [D.pd, PyData.eqv]
    | str h => simp [D.pd, PyData.eqv]
    | @lst j es g =>
      simp only [D.pd, PyData.eqv, D.lst.injEq]
      exact pds_eqv (P := fun e => ∃ j, NB j e) (fun d hd e he => by obtain ⟨j, he⟩ := he; exact ih d hd he) fun e he => ⟨_, g e he⟩
    | tup g => simp [D.pd, PyData.eqv]
section
variable {K : PySem.W.Frag} {I H : Hp} {M : List (Addr × HO)} {Q : VK} {x y v : V} {d e : D} {ds es : List D} {j k : Nat}
theorem isA_dp (f : ∀ d ∈ ds, ∀ v, Is I v d → Dp K H v d.pd) : ∀ {vs : List V}, IsA I vs ds → DpAll K H vs (D.pds ds) := by
  induction ds with
  | nil => intro vs a; cases a; exact .nil
  | cons d ds ih =>
    intro vs a
    cases a with
    | cons h a => exact .cons (f d List.mem_cons_self _ h) (ih (fun e he => f e (List.mem_cons_of_mem _ he)) a)
theorem NB.dp (w : W I H M) (n : NB k d) : ∀ {v : V}, Is I v d → Dp K H v d.pd := by
  induction n with
  | non => intro v h; cases h; exact .non
  | int i => intro v h; cases h; exact .int i
  | str s => intro v h; cases h; exact .str _
  | tup n ih =>
    intro v h
    cases h with
    | tup hp a => exact .tup (.inl (.inl (w.imm _ _ hp))) (isA_dp (fun d hd v hv => ih d hd hv) a)
  | lst n ih =>
    intro v h
    cases h with
    | lst hp a => exact .lst (.inl (.inl (w.imm _ _ hp))) (isA_dp (fun d hd v hv => ih d hd hv) a)
theorem s_eqD {b : Bool} (w : W I H M) (hx : Is I x d) (hy : Is I y e) (n : NB k d) (m : NB j e) (hk : k ≤ 64) (hj : j ≤ 64) (hb : b = true ↔ d = e) (q : Q (.bl b) H) : rEqU K x y H Q :=
  .inr ⟨d.pd, e.pd, n.dp w hx, m.dp w hy, n.shaped hk, m.shaped hj, by
    have h1 := n.eqv m
    have h2 : PyData.eqv d.pd e.pd = b := by rw [Bool.eq_iff_iff, h1, hb]
    rw [h2]; exact q⟩
theorem s_neD {b : Bool} (w : W I H M) (hx : Is I x d) (hy : Is I y e) (n : NB k d) (m : NB j e) (hk : k ≤ 64) (hj : j ≤ 64) (hb : b = true ↔ d = e) (q : Q (.bl (!b)) H) : rNeU K x y H Q :=
  .inr ⟨d.pd, e.pd, n.dp w hx, m.dp w hy, n.shaped hk, m.shaped hj, by
    have h1 := n.eqv m
    have h2 : PyData.eqv d.pd e.pd = b := by rw [Bool.eq_iff_iff, h1, hb]
    rw [h2]; exact q⟩
theorem s_eqT (w : W I H M) (hx : Is I x d) (hy : Is I y d) (n : NB 60 d) (q : Q (.bl true) H) : rEqU K x y H Q := s_eqD w hx hy n n (by decide) (by decide) (b := true) (by simp) q
theorem s_neT (w : W I H M) (hx : Is I x d) (hy : Is I y d) (n : NB 60 d) (q : Q (.bl false) H) : rNeU K x y H Q := s_neD w hx hy n n (by decide) (by decide) (b := true) (by simp) q
theorem NB.fr {a b : Int} {k : Nat} : NB (k + 1) (fr a b) := .tup fun d hd => by
  rcases List.mem_cons.mp hd with rfl | hd
  · exact .int a
  · rw [List.mem_singleton.mp hd]; exact .int b
/-- lists -/
theorem s_catI (w : W I H M) (hx : Is I x (.lst ds)) (hy : Is I y (.lst es)) (hz : ds.length + es.length ≤ 100000) (q : ∀ p J H', Same I J → I p = none → W J H' M → Is J (.ref p) (.lst (ds ++ es)) → Q (.ref p) H') : rAddU K x y H Q := by
  obtain ⟨p1, vs, rfl, h1, a1⟩ := hx.lst_ex
  obtain ⟨p2, us, rfl, h2, a2⟩ := hy.lst_ex
  exact .inr (.inr (.inl ⟨p1, p2, vs, us, rfl, rfl, w.imm _ _ h1, w.imm _ _ h2, by rw [a1.length, a2.length]; exact Nat.le_trans hz (by decide), fun p hp => q p _ _ (w.same hp) (w.fresh hp) (w.newI hp) (.lst upd_same ((a1.app a2).mono (w.same hp)))⟩))
theorem s_listI (w : W I H M) (hx : Is I x (.lst ds)) (q : ∀ p J H', Same I J → I p = none → W J H' M → Is J (.ref p) (.lst ds) → Q (.ref p) H') : rListOf K [x] H Q := by
  obtain ⟨p1, vs, rfl, h1, a1⟩ := hx.lst_ex
  exact ⟨p1, vs, rfl, .inl (.inl (.inl (w.imm _ _ h1))), fun p hp => q p _ _ (w.same hp) (w.fresh hp) (w.newI hp) (.lst upd_same (a1.mono (w.same hp)))⟩
theorem s_listT (w : W I H M) (hx : Is I x (.tup ds)) (q : ∀ p J H', Same I J → I p = none → W J H' M → Is J (.ref p) (.lst ds) → Q (.ref p) H') : rListOf K [x] H Q := by
  obtain ⟨p1, vs, rfl, h1, a1⟩ := hx.tup_ex
  exact ⟨p1, vs, rfl, .inr (.inl (.inl (w.imm _ _ h1))), fun p hp => q p _ _ (w.same hp) (w.fresh hp) (w.newI hp) (.lst upd_same (a1.mono (w.same hp)))⟩
def cutD (ds : List D) (lo hi : Option Int) : List D := (ds.drop (HT.sIx ds.length 0 lo)).take (HT.sIx ds.length ds.length hi - HT.sIx ds.length 0 lo)
theorem IsA.cut {vs : List V} (a : IsA I vs ds) (lo hi : Option Int) : IsA I (cutV vs lo hi) (cutD ds lo hi) := by
  unfold cutV cutD
  rw [a.length]
  exact (a.drop _).take _
theorem s_slI {lo hi : Option Int} (w : W I H M) (hx : Is I x (.lst ds)) (q : ∀ p J H', Same I J → I p = none → W J H' M → Is J (.ref p) (.lst (cutD ds lo hi)) → Q (.ref p) H') : rSlL K x lo hi H Q := by
  obtain ⟨p1, vs, rfl, h1, a1⟩ := hx.lst_ex
  exact ⟨p1, vs, rfl, .inl (.inl (w.imm _ _ h1)), fun p hp => q p _ _ (w.same hp) (w.fresh hp) (w.newI hp) (.lst upd_same ((a1.cut lo hi).mono (w.same hp)))⟩
end

/-! ### defs with defaults -/
section
variable {P : Program} {w : World} {K : PySem.W.Frag} {mg : Str → Option Value} {base : Heap}
theorem _root_.L2.FunD.ok0 {x qual : Str} {st : Stmt} {dvs : List V} {f : Addr} {fd : FuncData} {N ps : List Str} {k : Nat} {sp : Sp} (F : FunD K x qual (defArgs st) (defBody st) (defScope st) dvs [] f fd) (S : FnScope N ps (defScope st)) (len : ∀ vs H Q E, sp vs H Q E → vs.length = ps.length)
    (hbody : ∀ (cdv : Value) (A : Around) (outer : List Env) (s : Shared) (H : Hp) (vs : List V) (Q : VK) (E : XK), Room k (A.deeper (envOfC qual (defScope st) s.heap.objs.size f cdv)) → sp vs H Q E →
      ∃ t, PSs (cxOf CX0 P w K mg base N qual (defScope st) f cdv A outer s H E).nox (defBody st) t ∧ t { nx := fun _ H' => Q .non H', rt := Q } (start N vs) H) : FnOk P w K mg base CX0 (k + 1) f fd ps sp :=
  F.ok S len fun cdv A outer s H vs Q E hr h => let ⟨t, a, b⟩ := hbody cdv A outer s H vs Q E hr h; ⟨t, a.nox, b⟩
/-- what the top has left of such a def -/
theorem funD_mk {x qual : Str} {st : Stmt} {f T : Addr} {oc to_ : Value} {od an td : Option Addr} {osl tsl : Array (Option Value)} {kV doc pm cdv ct : Value} {its : List Value} {n : Nat} {dvs : List V} (l : K.lookup f = some ⟨oc, od, .func (PySem.W.fnOf x qual (defArgs st) (defBody st) (defScope st) (.ref T) kV doc pm an cdv ct), osl⟩)
    (c : PySem.W.codeIn K cdv qual = true) (k : PySem.W.keepIn K (.ref f) = true) (lT : K.lookup T = some ⟨to_, td, .seq its.toArray n, tsl⟩) (hv : Vals dvs its) (hd : dvs ≠ []) :
    FunD K x qual (defArgs st) (defBody st) (defScope st) dvs [] f (PySem.W.fnOf x qual (defArgs st) (defBody st) (defScope st) (.ref T) kV doc pm an cdv ct) :=
  ⟨⟨oc, od, .ref T, kV, doc, pm, an, cdv, ct, osl, rfl, l, c, .inr ⟨hd, T, _, its, n, rfl, lT, rfl, hv⟩, .inl rfl⟩, k⟩
end
end Fs

namespace Fs
open PySem PySem.Spec PyProof.Rows L2
/-! ### fractions are rational numbers -/
abbrev frq (q : Rat) : D := fr q.num q.den
/-- its numbers have at most so many bits -/
structure Sz (k : Nat) (q : Rat) : Prop where
  n : Bd k q.num
  d : Bd k (q.den : Int)
theorem Sz.mono {j k : Nat} {q : Rat} (h : Sz j q) (hk : j ≤ k) : Sz k q := ⟨h.n.mono hk, h.d.mono hk⟩
theorem den_pos' (q : Rat) : (0 : Int) < (q.den : Int) := by have := q.den_pos; omega
theorem gcd_q (q : Rat) : Int.gcd q.num q.den = 1 := q.reduced
theorem gcd_pos' {t b : Int} (h : b ≠ 0) : (0 : Int) < (Int.gcd t b : Int) := by
  have : 0 < Int.gcd t b := Int.gcd_pos_of_ne_zero_right _ h
  omega
theorem gcd_abs (t b : Int) : Int.gcd (if t < 0 then -t else t) (if b < 0 then -b else b) = Int.gcd t b := by
  split <;> split <;> simp [Int.gcd_neg, Int.neg_gcd]
theorem gcd_le_right' {t b : Int} (h : b ≠ 0) : (Int.gcd t b : Int).natAbs ≤ b.natAbs := by
  have := Nat.le_of_dvd (by omega) (Nat.gcd_dvd_right t.natAbs b.natAbs)
  show Int.gcd t b ≤ _
  exact this
theorem low_num {t b : Int} (h : b ≠ 0) : (if b < 0 then -t else t) / (Int.gcd t b : Int) = (Rat.divInt t b).num := by
  rw [Rat.num_divInt, Int.gcd_comm b t]
  by_cases hb : b < 0
  · rw [if_pos hb, Int.sign_eq_neg_one_of_neg hb]
    congr 1
    omega
  · rw [if_neg hb, Int.sign_eq_one_of_pos (by omega)]
    congr 1
    omega
theorem low_den {t b : Int} (h : b ≠ 0) : (if b < 0 then -b else b) / (Int.gcd t b : Int) = ((Rat.divInt t b).den : Int) := by
  rw [Rat.den_divInt, if_neg h, Int.gcd_comm b t, Int.natCast_ediv]
  congr 1
  split <;> omega
theorem div_abs_le {a g : Int} (hg : 0 < g) (hd : g ∣ a) : (a / g).natAbs ≤ a.natAbs := by
  obtain ⟨c, rfl⟩ := hd
  rw [Int.mul_ediv_cancel_left _ (by omega), Int.natAbs_mul]
  exact Nat.le_mul_of_pos_left _ (by omega)
theorem num_le {t b : Int} (h : b ≠ 0) : (Rat.divInt t b).num.natAbs ≤ t.natAbs := by
  rw [← low_num h]
  have hd : (Int.gcd t b : Int) ∣ (if b < 0 then -t else t) := by
    split
    · exact Int.dvd_neg.mpr (Int.gcd_dvd_left _ _)
    · exact Int.gcd_dvd_left _ _
  have := div_abs_le (gcd_pos' (t := t) h) hd
  split at this <;> split <;> omega
theorem den_le {t b : Int} (h : b ≠ 0) : ((Rat.divInt t b).den : Int).natAbs ≤ b.natAbs := by
  rw [← low_den h]
  have hd : (Int.gcd t b : Int) ∣ (if b < 0 then -b else b) := by
    split
    · exact Int.dvd_neg.mpr (Int.gcd_dvd_right _ _)
    · exact Int.gcd_dvd_right _ _
  have := div_abs_le (gcd_pos' (t := t) h) hd
  split at this <;> split <;> omega
theorem Sz.divInt {j k : Nat} {t b : Int} (h : b ≠ 0) (ht : Bd j t) (hb : Bd k b) (m : Nat) (hj : j ≤ m := by omega) (hk : k ≤ m := by omega) : Sz m (Rat.divInt t b) := ⟨(ht.le (num_le h)).mono hj, (hb.le (den_le h)).mono hk⟩
theorem den_ne (q : Rat) : (q.den : Int) ≠ 0 := by have := q.den_pos; omega
theorem add_dv (p q : Rat) : Rat.divInt (p.num * q.den + q.num * p.den) (p.den * q.den) = p + q := by
  have h := Rat.divInt_add_divInt p.num q.num (den_ne p) (den_ne q)
  rw [Rat.num_divInt_den, Rat.num_divInt_den] at h
  exact h.symm
theorem sub_dv (p q : Rat) : Rat.divInt (p.num * q.den - q.num * p.den) (p.den * q.den) = p - q := by
  have h := Rat.divInt_sub_divInt p.num q.num (den_ne p) (den_ne q)
  rw [Rat.num_divInt_den, Rat.num_divInt_den] at h
  exact h.symm
theorem mul_dv (p q : Rat) : Rat.divInt (p.num * q.num) (p.den * q.den) = p * q := by
  have h := Rat.divInt_mul_divInt p.num q.num (d₁ := p.den) (d₂ := q.den)
  rw [Rat.num_divInt_den, Rat.num_divInt_den] at h
  exact h.symm
theorem div_dv (p q : Rat) : Rat.divInt (p.num * q.den) (p.den * q.num) = p / q := by
  have h := Rat.divInt_mul_divInt p.num q.den (d₁ := p.den) (d₂ := q.num)
  rw [Rat.num_divInt_den, ← Rat.inv_divInt q.num q.den, Rat.num_divInt_den] at h
  rw [Rat.div_def]
  exact h.symm
theorem den_mul_ne (p q : Rat) : (p.den * q.den : Int) ≠ 0 := Int.mul_ne_zero (den_ne p) (den_ne q)
theorem Sz.add {j k : Nat} {p q : Rat} (hp : Sz j p) (hq : Sz k q) : Sz (j + k + 1) (p + q) := by
  rw [← add_dv]
  exact Sz.divInt (den_mul_ne p q) (Bd.add (hp.n.mul hq.d) ((hq.n.mul hp.d).mono (by omega))) (hp.d.mul hq.d) _
theorem Sz.sub {j k : Nat} {p q : Rat} (hp : Sz j p) (hq : Sz k q) : Sz (j + k + 1) (p - q) := by
  rw [← sub_dv]
  exact Sz.divInt (den_mul_ne p q) (Bd.sub (hp.n.mul hq.d) ((hq.n.mul hp.d).mono (by omega))) (hp.d.mul hq.d) _
theorem Sz.mul {j k : Nat} {p q : Rat} (hp : Sz j p) (hq : Sz k q) : Sz (j + k) (p * q) := by
  rw [← mul_dv]
  exact Sz.divInt (den_mul_ne p q) (hp.n.mul hq.n) (hp.d.mul hq.d) _
theorem Sz.div {j k : Nat} {p q : Rat} (hp : Sz j p) (hq : Sz k q) (h0 : q ≠ 0) : Sz (j + k) (p / q) := by
  rw [← div_dv]
  exact Sz.divInt (Int.mul_ne_zero (den_ne p) (fun h => h0 (Rat.num_eq_zero.mp h))) (hp.n.mul hq.d) (hp.d.mul hq.n) _
theorem Sz.neg {k : Nat} {q : Rat} (h : Sz k q) : Sz k (-q) := ⟨by rw [Rat.neg_num]; exact h.n.neg, by rw [Rat.neg_den]; exact h.d⟩
theorem Sz.int {k : Nat} {n : Int} (h : Bd k n) (hk : 0 < k := by decide) : Sz k (n : Rat) := ⟨h, Bd.of 1 (by rw [Rat.den_intCast]; decide) (by
  have : 2 ^ 1 ≤ 2 ^ k := Nat.pow_le_pow_right (by decide) hk
  omega)⟩
theorem frq_int (n : Int) : frq (n : Rat) = fr n 1 := rfl
theorem frq_zero : frq 0 = fr 0 1 := rfl
theorem frq_inj {p q : Rat} (h : frq p = frq q) : p = q := by
  injection h with h
  injection h with h1 h
  injection h with h2 _
  injection h1 with h1
  injection h2 with h2
  exact Rat.ext h1 (by omega)
theorem frq_of {a b : Int} (hb : 0 < b) (g : Int.gcd a b = 1) : fr a b = frq (Rat.divInt a b) := by
  have h1 := low_num (t := a) (b := b) (by omega)
  have h2 := low_den (t := a) (b := b) (by omega)
  rw [if_neg (by omega), g] at h1 h2
  simp only [Int.natCast_one, Int.ediv_one] at h1 h2
  rw [frq, ← h1, ← h2]
theorem gcd_step {a b : Int} (ha : 0 ≤ a) (hb : 0 ≤ b) : Int.gcd b (a % b) = Int.gcd a b := by
  obtain ⟨m, rfl⟩ := Int.eq_ofNat_of_zero_le ha
  obtain ⟨n, rfl⟩ := Int.eq_ofNat_of_zero_le hb
  show Nat.gcd n (m % n) = Nat.gcd m n
  rw [Nat.gcd_comm n, ← Nat.gcd_rec, Nat.gcd_comm]
theorem gcd_end {a : Int} (ha : 0 ≤ a) : (Int.gcd a 0 : Int) = a := by
  rw [Int.gcd_zero_right]
  omega
end Fs

namespace Fs
open PySem PySem.Spec PyProof.Rows L2
/-! ### the rules with the written part as a letter (for a comprehension's block) -/
section
variable {X : Cx} {K : PySem.W.Frag}
theorem k_add (h : X.K = K) : OpR X (binaryOp .Add) (rAddU K) := h ▸ uo_add
theorem k_eq (h : X.K = K) (hu : X.A.units + 64 < cLine) : OpR X (compareOp .Eq) (rEqU K) := h ▸ uo_eq hu
theorem k_ne (h : X.K = K) (hu : X.A.units + 64 < cLine) : OpR X (compareOp .NotEq) (rNeU K) := h ▸ uo_ne hu
theorem k_ix (h : X.K = K) : IxR X (rIx K) := h ▸ ix_seq
theorem k_len (h : X.K = K) : CallR X (.builtin "len") (rLenU K) := h ▸ uc_len
theorem k_isi (h : X.K = K) : CallR X (.builtin "isinstance") (rIsiU K) := h ▸ uc_isi
theorem k_min (h : X.K = K) (hc : X.calm = true) : CallR X (.builtin "min") (rMinU K) := h ▸ uc_min hc
theorem k_max (h : X.K = K) (hc : X.calm = true) : CallR X (.builtin "max") (rMaxU K) := h ▸ uc_max hc
theorem k_sum (h : X.K = K) (hc : X.calm = true) : CallR X (.builtin "sum") (rSum K) := h ▸ cr_sum hc
theorem k_list (h : X.K = K) : CallR X (.type "list") (rListOf K) := h ▸ uc_list
theorem k_sl (h : X.K = K) : SlR X (rSlL K) := h ▸ sl_list
theorem kpi_list {tg l : Expr} {tl : TE} (h : X.K = K) (e : PE X l tl) : PI X tg l (iList K tl) := h ▸ pi_list e
theorem kpi_tup {tg l : Expr} {tl : TE} (h : X.K = K) (e : PE X l tl) : PI X tg l (iTup K tl) := h ▸ pi_tup e
theorem kpe_fld {e : Expr} {ta : TE} {f : Str} {pos : Pos} (h : X.K = K) (he : PE X e ta) (hb : attributeBase e f X.env (eval e X.env) = eval e X.env) : PE X (.Attribute e f pos) (tFld K ta f) := h ▸ pe_fld he hb
theorem kpg_tup {es : List Expr} {k : Nat} {t : TGs} {n : Nat} {pos : Pos} (h : X.K = K) (hc : X.calm = true) (hg : PGs X es t)
    (hn : (assignEach es X.env).length = n := by rfl) (hst : (assignEach es X.env).findIdx? (·.1) = none := by rfl) : PG X (.Tuple es k pos) (gTup K n t) := h ▸ pg_tup hc hg hn hst
end
/-! ### comprehensions -/
/-- what stands behind a comprehension's source -/
def LcGo (J : It) (g : TG) (tt : TT) (te : TE) (xs : List Nat) (σ : L2.St) (Q : VK) (H1 : Hp) : Prop := ∀ D, H1 D = none → ∃ W : Nat → Nat → Hp → Prop, (∃ m, W 0 m (upd H1 D (.lst []))) ∧ ∀ i m H, W i m H →
  (J.stop i H ∧ Q (.ref D) H) ∨ (J.go i H ∧ ∃ Nx : Hp → Prop, (∀ H', Nx H' → ∃ m', m' < m ∧ W (i + 1) m' H') ∧ ∀ x H', J.yld i H x H' → g x (wipe σ xs) H' fun σ2 H2 => wipe σ2 xs = wipe σ xs ∧ tt σ2 H2 fun b H3 =>
    if b = true then te σ2 H3 fun y H4 => ∃ acc, H4 D = some (.lst acc) ∧ acc.length < sizeLine ∧ Nx (upd H4 D (.lst (acc ++ [y]))) else Nx H3)
section
variable {K : PySem.W.Frag} {σ : L2.St} {I H : Hp} {M : List (Addr × HO)} {Q : VK} {x v : V} {b c : Addr} {o : HO} {te : TE} {wi : TI} {g : TG} {tt : TT} {xs : List Nat} {ds : List D} {k : Nat}
theorem s_lcc (h : wi σ H fun J H1 => LcGo J g tt te xs σ Q H1) : tLc wi g tt te xs σ H Q := h
theorem s_lcRng {n : Int} {lo : Int} (h1 : -(2 ^ 62) ≤ n) (h2 : n < 2 ^ 62) (h : LcGo (Itr 0 n.toNat) g tt te xs σ Q H) : ∃ j : Int, [V.int n] = [.int j] ∧ -(2 ^ 62) ≤ j ∧ j < 2 ^ 62 ∧ LcGo (Itr 0 j.toNat) g tt te xs σ Q H := ⟨n, rfl, h1, h2, h⟩
/-- turns that draw nothing, one name as target, no test; what the i-th turn gives is told by f -/
theorem lc_pure {J : It} {n : Nat} {Gd : Hp → Prop} {Y : Nat → Hp → V → Hp → Prop} (wk : Walk J n Gd Y) (w : W I H M) (hG : ∀ H', Same I H' → Gd H') (f : Nat → D) (hn : n ≤ 100000)
    (hw : ∀ v, wipe ((wipe σ xs).set k (some v)) xs = wipe σ xs)
    (step : ∀ i v D acc J' H0 H' C, i < n → Same I J' → W J' H0 ((D, .lst acc) :: M) → Y i H0 v H' → (∀ y J'' H4, Same J' J'' → W J'' H4 ((D, .lst acc) :: M) → Is J'' y (f i) → C y H4) → te ((wipe σ xs).set k (some v)) H' C)
    (q : ∀ p J' H', Same I J' → I p = none → W J' H' M → Is J' (.ref p) (.lst ((List.range n).map f)) → Q (.ref p) H') : LcGo J (gName k) tYes te xs σ Q H := by
  intro D nD
  have w1 := w.newM (o := .lst []) nD
  refine lc_it wk (fun i H' => ∃ acc J', Same I J' ∧ W J' H' ((D, .lst acc) :: M) ∧ IsA J' acc ((List.range i).map f) ∧ acc.length = i) ⟨[], I, Same.refl _, w1, .nil, rfl⟩ (fun i H' _ ⟨acc, J', s, w', _⟩ => hG H' (s.trans w'.imm)) ?_ ?_
  · rintro i v H0 H' hi ⟨acc, J', s, w', a, hl⟩ hy
    refine ⟨hw v, ?_⟩
    refine s_yes (iteT (step i v D acc J' H0 H' _ hi s w' hy fun y J'' H4 s2 w2 h2 => ?_))
    refine ⟨acc, w2.at0, by rw [hl]; exact Nat.lt_of_lt_of_le hi (Nat.le_trans hn (by decide)), acc ++ [y], J'', s.trans s2, w2.put0, ?_, by rw [List.length_append, hl]; rfl⟩
    rw [List.range_succ, List.map_append]
    exact (a.mono s2).app (.one h2)
  · rintro H' ⟨acc, J', s, w', a, hl⟩
    obtain ⟨J2, s2, w2, h2⟩ := w'.done0 a
    refine q D J2 H' (s.trans s2) (w.fresh nD) w2 h2
/-- turns that draw -/
theorem lc_bag {J : It} {n : Nat} {Gd : Hp → Prop} {Y : Nat → Hp → V → Hp → Prop} (wk : Walk J n Gd Y) (w : W I H ((b, o) :: M)) (hb : Bag I c o) (hG : ∀ H', Same I H' → Gd H') (P : Nat → D → Prop) (hn : n ≤ 100000)
    (hw : ∀ v, wipe ((wipe σ xs).set k (some v)) xs = wipe σ xs)
    (step : ∀ i v D acc o' J' H0 H' C, i < n → Same I J' → Bag J' c o' → W J' H0 ((b, o') :: (D, .lst acc) :: M) → Y i H0 v H' →
      (∀ y d o'' J'' H4, Same J' J'' → Bag J'' c o'' → W J'' H4 ((b, o'') :: (D, .lst acc) :: M) → Is J'' y d → P i d → C y H4) → te ((wipe σ xs).set k (some v)) H' C)
    (q : ∀ p ds o' J' H', Same I J' → I p = none → Bag J' c o' → W J' H' ((b, o') :: M) → Is J' (.ref p) (.lst ds) → ds.length = n → (∀ i d, ds[i]? = some d → P i d) → Q (.ref p) H') : LcGo J (gName k) tYes te xs σ Q H := by
  intro D nD
  have w1 := w.newM2 (o := .lst []) nD
  refine lc_it wk (fun i H' => ∃ acc J' o' ds, Same I J' ∧ Bag J' c o' ∧ W J' H' ((b, o') :: (D, .lst acc) :: M) ∧ IsA J' acc ds ∧ acc.length = i ∧ ds.length = i ∧ ∀ j d, ds[j]? = some d → P j d) ⟨[], I, o, [], Same.refl _, hb, w1, .nil, rfl, rfl, fun j d h => by simp at h⟩ (fun i H' _ ⟨acc, J', o', ds, s, _, w', _⟩ => hG H' (s.trans w'.imm)) ?_ ?_
  · rintro i v H0 H' hi ⟨acc, J', o', ds, s, hb', w', a, hl, hl2, hp⟩ hy
    refine ⟨hw v, ?_⟩
    refine s_yes (iteT (step i v D acc o' J' H0 H' _ hi s hb' w' hy fun y d o'' J'' H4 s2 hb2 w2 h2 hd => ?_))
    refine ⟨acc, w2.at1, by rw [hl]; exact Nat.lt_of_lt_of_le hi (Nat.le_trans hn (by decide)), acc ++ [y], J'', o'', ds ++ [d], s.trans s2, hb2, w2.put1, (a.mono s2).app (.one h2), by rw [List.length_append, hl]; rfl, by rw [List.length_append, hl2]; rfl, fun j e h => ?_⟩
    by_cases hj : j < ds.length
    · rw [List.getElem?_append_left hj] at h
      exact hp j e h
    · rw [List.getElem?_append_right (by omega)] at h
      have h3 : j - ds.length = 0 := by
        cases hz : j - ds.length with
        | zero => rfl
        | succ m => rw [hz] at h; simp at h
      rw [h3] at h
      simp at h
      subst h
      have : j = i := by omega
      rw [this]
      exact hd
  · rintro H' ⟨acc, J', o', ds, s, hb', w', a, hl, hl2, hp⟩
    obtain ⟨J2, s2, w2, h2⟩ := w'.done1 a
    exact q D ds o' J2 H' (s.trans s2) (w.fresh nD) (hb'.mono s2) w2 h2 hl2 hp
theorem s_iLc {J : Addr → Prop} (w : W I H M) (h : Is I v (.lst ds)) (q : ∀ a vs, v = .ref a → I a = some (.lst vs) → IsA I vs ds → J a) : ∃ a, v = .ref a ∧ (∃ xs, SqL K H a xs) ∧ J a := s_iL' w h q
end

/-! ### sums of fractions -/
def rs (qs : List Rat) : Rat := qs.foldl (· + ·) 0
theorem rs_nil : rs [] = 0 := rfl
theorem rs_snoc (qs : List Rat) (q : Rat) : rs (qs ++ [q]) = rs qs + q := by simp [rs, List.foldl_append]
theorem rs_take {qs : List Rat} {i : Nat} {q : Rat} (h : qs[i]? = some q) : rs (qs.take (i + 1)) = rs (qs.take i) + q := by
  rw [List.take_add_one, h, ← rs_snoc]
  rfl
theorem rs_from (ys : List Rat) : ∀ a : Rat, ys.foldl (· + ·) a = a + rs ys := by
  induction ys with
  | nil => intro a; simp [rs, Rat.add_zero]
  | cons y ys ih =>
    intro a
    show ys.foldl (· + ·) (a + y) = a + (ys.foldl (· + ·) (0 + y))
    rw [ih, ih, Rat.zero_add, Rat.add_assoc]
theorem rs_cons (y : Rat) (ys : List Rat) : rs (y :: ys) = y + rs ys := by
  show ys.foldl (· + ·) (0 + y) = _
  rw [rs_from, Rat.zero_add]
theorem rs_app (xs ys : List Rat) : rs (xs ++ ys) = rs xs + rs ys := by
  unfold rs
  rw [List.foldl_append, rs_from]
  rfl
/-- top and bottom by themselves -/
structure Sz2 (j k : Nat) (q : Rat) : Prop where
  n : Bd j q.num
  d : Bd k (q.den : Int)
theorem Sz2.mono {i j k l : Nat} {q : Rat} (h : Sz2 i k q) (hj : i ≤ j) (hk : k ≤ l) : Sz2 j l q := ⟨h.n.mono hj, h.d.mono hk⟩
theorem Sz2.sz {j k m : Nat} {q : Rat} (h : Sz2 j k q) (hj : j ≤ m) (hk : k ≤ m) : Sz m q := ⟨h.n.mono hj, h.d.mono hk⟩
theorem Sz.sz2 {k : Nat} {q : Rat} (h : Sz k q) : Sz2 k k q := ⟨h.n, h.d⟩
theorem Sz2.add {j k l m : Nat} {p q : Rat} (hp : Sz2 j k p) (hq : Sz2 l m q) (n : Nat) (h1 : j + m + 1 ≤ n) (h2 : l + k + 1 ≤ n) : Sz2 n (k + m) (p + q) := by
  rw [← add_dv]
  have b1 : Bd (n - 1) (p.num * q.den) := (hp.n.mul hq.d).mono (by omega)
  have b2 : Bd (n - 1) (q.num * p.den) := (hq.n.mul hp.d).mono (by omega)
  have b3 := (Bd.add b1 b2).mono (show n - 1 + 1 ≤ n by omega)
  exact ⟨b3.le (num_le (den_mul_ne p q)), (hp.d.mul hq.d).le (den_le (den_mul_ne p q))⟩
theorem Sz2.rs {j k : Nat} {qs : List Rat} (h : ∀ q ∈ qs, Sz2 j k q) : ∀ i, i ≤ qs.length → Sz2 (j + (k + 1) * i + 1) (k * i + 1) (rs (qs.take i))
  | 0, _ => ⟨Bd.of 0 (by simp [rs_nil]) (Nat.pow_pos (by decide)), Bd.of 1 (by simp [rs_nil]) (by
      have : 2 ^ 1 ≤ 2 ^ (k * 0 + 1) := Nat.pow_le_pow_right (by decide) (by omega)
      omega)⟩
  | i + 1, hi => by
    have hi' : i < qs.length := hi
    have e : qs[i]? = some qs[i] := List.getElem?_eq_getElem hi'
    rw [rs_take e]
    have ih := Sz2.rs h i (by omega)
    have hq := h _ (List.getElem_mem hi')
    have e1 : (k + 1) * (i + 1) = (k + 1) * i + k + 1 := by rw [Nat.mul_add]; omega
    have e2 : k * (i + 1) = k * i + k := by rw [Nat.mul_add]; omega
    have e3 : k * i ≤ (k + 1) * i := Nat.mul_le_mul_right _ (by omega)
    exact (ih.add hq (j + (k + 1) * (i + 1) + 1) (by omega) (by omega)).mono (Nat.le_refl _) (by omega)
theorem frqs_of {S : Rat → Prop} : ∀ {ds : List D}, (∀ (i : Nat) d, ds[i]? = some d → ∃ q, d = frq q ∧ S q) → ∃ qs : List Rat, ds = qs.map frq ∧ ∀ q ∈ qs, S q
  | [], _ => ⟨[], rfl, fun _ h => nomatch h⟩
  | d :: ds, h => by
    obtain ⟨q, rfl, hq⟩ := h 0 _ rfl
    obtain ⟨qs, rfl, hs⟩ := frqs_of (S := S) (ds := ds) fun i e he => h (i + 1) e (by simpa using he)
    exact ⟨q :: qs, rfl, fun r hr => by
      rcases List.mem_cons.mp hr with rfl | hr
      · exact hq
      · exact hs r hr⟩
theorem atI0 {α : Type} {l : List α} {i : Nat} {x : α} (h : l[i]? = some x) : atI l (0 + (i : Int)) = some x := by
  rw [Int.zero_add]
  exact atI_nat h
theorem NB.list {α : Type} {f : α → D} {k : Nat} {l : List α} (h : ∀ x ∈ l, NB k (f x)) : NB (k + 1) (.lst (l.map f)) := .lst fun d hd => by
  obtain ⟨x, hx, rfl⟩ := List.mem_map.mp hd
  exact h x hx
theorem NB.frqs {qs : List Rat} {k : Nat} : NB (k + 2) (.lst (qs.map frq)) := NB.list fun _ _ => NB.fr
theorem NB.ints {ns : List Int} {k : Nat} : NB (k + 1) (.lst (ns.map D.int)) := NB.list fun n _ => .int n
theorem s_listC {K : PySem.W.Frag} {I H : Hp} {M : List (Addr × HO)} {Q : VK} {x : V} {ds : List D} (w : W I H M) (hx : Is I x (.lst ds)) (q : ∀ p vs J H', Same I J → I p = none → W J H' M → J p = some (.lst vs) → IsA I vs ds → Q (.ref p) H') : rListOf K [x] H Q := by
  obtain ⟨p1, vs, rfl, h1, a1⟩ := hx.lst_ex
  exact ⟨p1, vs, rfl, .inl (.inl (.inl (w.imm _ _ h1))), fun p hp => q p vs _ _ (w.same hp) (w.fresh hp) (w.newI hp) upd_same a1⟩
/-- for x, y in zip(xs, ys), two lists of one length that stay -/
def ZipQ (K : PySem.W.Frag) (x y : V) (H : Hp) (R : It → Hp → Prop) : Prop := ∃ a b xs ys, [x, y] = [.ref a, .ref b] ∧ SqL K H a xs ∧ SqL K H b ys ∧ R (Itz K a b) H
theorem s_zip {K : PySem.W.Frag} {σ : L2.St} {H : Hp} {ta : TA} {R : It → Hp → Prop} (h : ta σ H fun vs H1 => ∃ a b xs ys, vs = [.ref a, .ref b] ∧ SqL K H1 a xs ∧ SqL K H1 b ys ∧ R (Itz K a b) H1) : iZip K ta σ H R := h
theorem s_zipL {K : PySem.W.Frag} {σ : L2.St} {I H : Hp} {M : List (Addr × HO)} {x y : V} {ds es : List D} {g : TG} {tb : TS} {G : Ends} (w : W I H M) (hx : Is I x (.lst ds)) (hy : Is I y (.lst es)) (hl : ds.length = es.length) (Pv : Nat → L2.St → Hp → Prop) (h0 : Pv 0 σ H) (hI : ∀ i σ H, Pv i σ H → Same I H)
    (hs : ∀ i d e x y T σ H H', ds[i]? = some d → es[i]? = some e → Is I x d → Is I y e → Pv i σ H → H T = none → H' = upd H T (.tup [x, y]) → g (.ref T) σ H' fun σ2 H2 => tb { G with nx := Pv (i + 1), ct := Pv (i + 1), bk := G.nx } σ2 H2) (hd : ∀ σ H, Pv ds.length σ H → G.nx σ H) :
    ∃ a b xs ys, [x, y] = [V.ref a, .ref b] ∧ SqL K H a xs ∧ SqL K H b ys ∧ ∃ W : Nat → Nat → L2.St → Hp → Prop, (∃ m, W 0 m σ H) ∧ ∀ i m σ H, W i m σ H →
      ((Itz K a b).stop i H ∧ G.nx σ H) ∨ ((Itz K a b).go i H ∧ ∃ N : L2.St → Hp → Prop, (∀ σ' H', N σ' H' → ∃ m', m' < m ∧ W (i + 1) m' σ' H') ∧ ∀ x H', (Itz K a b).yld i H x H' → g x σ H' fun σ2 H2 => tb { G with nx := N, ct := N, bk := G.nx } σ2 H2) := by
  obtain ⟨p1, vs, rfl, h1, a1⟩ := hx.lst_ex
  obtain ⟨p2, us, rfl, h2, a2⟩ := hy.lst_ex
  refine ⟨p1, p2, vs, us, rfl, .inl (.inl (w.imm _ _ h1)), .inl (.inl (w.imm _ _ h2)), ?_⟩
  refine RZ.for_zipL (K := K) (xs := vs) (ys := us) (by rw [a1.length, a2.length, hl]) Pv h0 (fun i σ H q => ⟨.inl (.inl (hI i σ H q _ _ h1)), .inl (.inl (hI i σ H q _ _ h2))⟩) (fun i x y T σ H e1 e2 q nT => ?_) (fun σ H q => hd σ H (by rw [← a1.length]; exact q))
  obtain ⟨d, f1, g1⟩ := a1.of e1
  obtain ⟨e, f2, g2⟩ := a2.of e2
  exact hs i d e x y T σ H _ f1 f2 g1 g2 q nT rfl
theorem s_aug {σ : L2.St} {H : Hp} {G : Ends} {i : Nat} {te : TE} {ti : TIp} {x : V} (h : σ[i]? = some (some x)) (q : te σ H fun y H1 => ti x y H1 fun z H2 => G.nx (σ.set i (some z)) H2) : tAug i te ti G σ H := ⟨x, h, q⟩
/-- a list is taken away: fractions stay -/
theorem Is.delF {I : Hp} {v : V} {a b : Int} {p : Addr} {vs : List V} (h : Is I v (fr a b)) (hp : I p = some (.lst vs)) : Is (del I p) v (fr a b) := by
  obtain ⟨t, us, rfl, ht, au⟩ := h.tup_ex
  have ne : t ≠ p := fun e => by rw [e, hp] at ht; cases ht
  refine .tup (by rw [del_ne ne]; exact ht) ?_
  cases au with | cons h1 au =>
  cases au with | cons h2 au =>
  cases au
  cases h1
  cases h2
  exact .cons (.int _) (.cons (.int _) .nil)
theorem IsA.delF {I : Hp} {p : Addr} {us : List V} (hp : I p = some (.lst us)) : ∀ {qs : List Rat} {vs : List V}, IsA I vs (qs.map frq) → IsA (del I p) vs (qs.map frq)
  | [], _, h => by cases h; exact .nil
  | q :: qs, _, h => by
    cases h with
    | cons h a => exact .cons (h.delF hp) (IsA.delF hp a)
theorem Is.delL {I : Hp} {p l : Addr} {us : List V} {qs : List Rat} (h : Is I (.ref l) (.lst (qs.map frq))) (hp : I p = some (.lst us)) (ne : l ≠ p) : Is (del I p) (.ref l) (.lst (qs.map frq)) := by
  cases h with
  | lst h a => exact .lst (by rw [del_ne ne]; exact h) (a.delF hp)
def rIns : V → List V → Hp → VK → Prop := fun x vs H Q => ∃ (l : Addr) (xs : List V) (i : Int) (y : V), x = .ref l ∧ vs = [.int i, y] ∧ H l = some (.lst xs) ∧ xs.length < sizeLine ∧ 0 ≤ i ∧ i < 2 ^ 63 ∧ Q .non (upd H l (.lst (xs.take i.toNat ++ [y] ++ xs.drop i.toNat)))
theorem mt_ins {X : Cx} : MtR X "list.insert" rIns := mt_insert
theorem s_insW1 {I H : Hp} {M : List (Addr × HO)} {m0 : Addr × HO} {p : Addr} {xs : List V} {i : Int} {y : V} {Q : VK} (w : W I H (m0 :: (p, .lst xs) :: M)) (hz : xs.length ≤ 100000) (h0 : 0 ≤ i) (h1 : i < 1000000) (q : ∀ H', W I H' (m0 :: (p, .lst (xs.take i.toNat ++ [y] ++ xs.drop i.toNat)) :: M) → Q .non H') : rIns (.ref p) [.int i, y] H Q :=
  ⟨p, xs, i, y, rfl, rfl, w.at1, Nat.lt_of_le_of_lt hz (by decide), h0, by omega, q _ w.put1⟩
theorem s_popW1 {I H : Hp} {M : List (Addr × HO)} {m0 : Addr × HO} {p : Addr} {xs : List V} {y : V} {Q : VK} (w : W I H (m0 :: (p, .lst xs) :: M)) (hy : xs[xs.length - 1]? = some y) (q : ∀ H', W I H' (m0 :: (p, .lst xs.dropLast) :: M) → Q y H') : rPop (.ref p) [] H Q :=
  ⟨p, xs, y, rfl, rfl, w.at1, hy, q _ w.put1⟩
/-! ### a displayed dict of one pair -/
def DispQ (Q : VK) (p : Addr) (x y : V) (H2 : Hp) : Prop := H2 p = some (.dK []) ∧ ∃ kvs : List (Key × V), [(x, y)] = kvs.map (fun kv => (kV kv.1, kv.2)) ∧ kvs.length ≤ 15 ∧ Q (.ref p) (upd H2 p (.dK (mergeK [] kvs)))
section
variable {σ : L2.St} {I H : Hp} {M : List (Addr × HO)} {Q : VK} {tk tv : TE} {p : Addr} {y : V}
theorem s_disp1 (w : W I H M) (q : ∀ p H', I p = none → W I H' ((p, .dK []) :: M) → tk σ H' fun x H1 => tv σ H1 fun y H2 => DispQ Q p x y H2) : tDisp [(tk, tv)] σ H Q := fun p hp => q p _ (w.fresh hp) (w.newM hp)
theorem s_dispI {n : Int} (w : W I H ((p, .dK []) :: M)) (q : ∀ J H', Same I J → W J H' M → Is J (.ref p) .dict → Q (.ref p) H') : DispQ Q p (.int n) y H :=
  have w2 := w.put0 (o' := .dK (mergeK [] [(Sum.inl n, y)]))
  ⟨w.at0, [(Sum.inl n, y)], rfl, by simp, q _ _ w2.frzS0 w2.frz0 (.dct upd_same)⟩
theorem s_dispS {n : Str} (w : W I H ((p, .dK []) :: M)) (q : ∀ J H', Same I J → W J H' M → Is J (.ref p) .dict → Q (.ref p) H') : DispQ Q p (.str n) y H :=
  have w2 := w.put0 (o' := .dK (mergeK [] [(Sum.inr n, y)]))
  ⟨w.at0, [(Sum.inr n, y)], rfl, by simp, q _ _ w2.frzS0 w2.frz0 (.dct upd_same)⟩
end
def D.whole : D → Bool
  | .int _ => true
  | _ => false
/-- its kind is known to isinstance -/
def Ty (d : D) : Prop := ∃ a, d.tn = some a
end Fs

namespace Fs
open PySem PySem.Spec PyProof.Rows L2
/-! ### own classes -/
/-- what is asked of a class of the text -/
structure OwnC (K : PySem.W.Frag) (C : Addr) : Prop where
  cl : Cls K C
  ha : PySem.W.findIn K (.ref C) "__class__" = some (some (.builtin "object.__class__"))
  hn : PySem.W.specialIn K (.builtin "object.__class__") "__get__" = some (some (.builtin "getset_descriptor.__get__"))
  htk : PySem.W.takesIn K (.builtin "object.__class__") = some true
  hm : PySem.W.mroIn K C (.type "object") = some true
/-- a class that may be made, by its __init__ -/
structure Mak (P : Program) (w : World) (K : PySem.W.Frag) (mg : Str → Option Value) (base : Heap) (x : Str) (C : Addr) (k : Nat) (ps : List Str) (dvs : List V) (sp : Sp) : Prop where
  ex : ∃ (f : Addr) (fd : FuncData) (ds : List Value), Mk K C f ∧ FnOk P w K mg base CX0 k f fd ps sp ∧ mg x = some (.ref C) ∧ Binds K fd ps ds ∧ Vals dvs ds
/-- a method -/
structure Met (P : Program) (w : World) (K : PySem.W.Frag) (mg : Str → Option Value) (base : Heap) (m : Str) (C : Addr) (k : Nat) (ps : List Str) (dvs : List V) (sp : Sp) : Prop where
  ex : ∃ (f : Addr) (fd : FuncData) (ds : List Value), Cls K C ∧ Meth K C m f ∧ FnOk P w K mg base CX0 k f fd ps sp ∧ Binds K fd ps ds ∧ Vals dvs ds
section
variable {X : Cx} {x m : Str} {C : Addr} {p pos apos : Pos} {e o : Expr} {es : List Expr} {ta : TE} {t : TA} {k : Nat} {ps : List Str} {dvs : List V} {sp : Sp}
theorem pe_mk (c : Mak X.prog X.w X.K X.mg X.base x C k ps dvs sp) (hr : Room (k + 1) X.A) (hg : Gl X x) (ha : PA X (e :: es) t) (hdb : (x == ("__debug__" : Str)) = false := by decide)
    (he : starEach (e :: es) X.env = (false, eval e X.env) :: starEach es X.env := by rfl) (hpl : (backTo pos (starEach es X.env)).any (·.1) = false := by rfl) : PE X (.Call (.Name x p) (e :: es) [] pos) (tMake C sp dvs E0 t) := by
  obtain ⟨f, fd, ds, M, F, hm, hb, hd⟩ := c.ex
  exact pe_make M F hr hg hm hb hd pass0 ha hdb he hpl
theorem pe_mk0 (c : Mak X.prog X.w X.K X.mg X.base x C k ps dvs sp) (hr : Room (k + 1) X.A) (hg : Gl X x) (hdb : (x == ("__debug__" : Str)) = false := by decide) : PE X (.Call (.Name x p) [] [] pos) (tMake C sp dvs E0 tNil) := by
  obtain ⟨f, fd, ds, M, F, hm, hb, hd⟩ := c.ex
  exact pe_make0 M F hr hg hm hb hd pass0 hdb
theorem pe_met {pl : Sem Bool} (he : PE X o ta) (c : Met X.prog X.w X.K X.mg X.base m C k ps dvs sp) (hr : Room k X.A) (ha : PA X (e :: es) t)
    (hst : starEach (e :: es) X.env = (false, eval e X.env) :: starEach es X.env := by rfl) (hpl : (backTo pos (starEach es X.env)).any (·.1) = false := by rfl)
    (ht : eval (.Call (.Attribute o m apos) (e :: es) [] pos) X.env = (do
      let ov ← eval o X.env
      standAt apos.atName
      let (f, first) ← holding [ov] (getMethod ov m pl)
      callWith pos f first (backTo pos (starEach (e :: es) X.env)) (backToKw pos (keywordEach [] X.env))) := by rfl) :
    PE X (.Call (.Attribute o m apos) (e :: es) [] pos) (tMeth C m sp dvs E0 ta t) := by
  obtain ⟨f, fd, ds, c, hm, F, hb, hd⟩ := c.ex
  exact pe_meth he c hm F hr hb hd pass0 ha hst hpl ht
theorem pe_met0 {pl : Sem Bool} (he : PE X o ta) (c : Met X.prog X.w X.K X.mg X.base m C k ps dvs sp) (hr : Room k X.A)
    (ht : eval (.Call (.Attribute o m apos) [] [] pos) X.env = (do
      let ov ← eval o X.env
      standAt apos.atName
      let (f, first) ← holding [ov] (getMethod ov m pl)
      callWith pos f first (backTo pos (starEach [] X.env)) (backToKw pos (keywordEach [] X.env))) := by rfl) :
    PE X (.Call (.Attribute o m apos) [] [] pos) (tMeth C m sp dvs E0 ta tNil) := by
  obtain ⟨f, fd, ds, c, hm, F, hb, hd⟩ := c.ex
  exact pe_meth0 he c hm F hr hb hd pass0 ht
end
/-- a class made with keywords -/
structure MakK (P : Program) (w : World) (K : PySem.W.Frag) (mg : Str → Option Value) (base : Heap) (x : Str) (C : Addr) (k : Nat) (ps : List Str) (n : Nat) (ks : List Str) (gV : List V → List V → List V) (sp : Sp) : Prop where
  ex : ∃ (f : Addr) (fd : FuncData) (g : List Value → List Value → List Value), Mk K C f ∧ FnOk P w K mg base CX0 k f fd ps sp ∧ mg x = some (.ref C) ∧ KBn K fd ps (n + 1) ks g gV
section
variable {X : Cx} {x : Str} {C : Addr} {p pos : Pos} {e : Expr} {es : List Expr} {kws : List Keyword} {t tk : TA} {k n : Nat} {ps ks : List Str} {gV : List V → List V → List V} {sp : Sp}
theorem pe_mkK (c : MakK X.prog X.w X.K X.mg X.base x C k ps n ks gV sp) (hr : Room (k + 1) X.A) (hg : Gl X x) (ha : PA X (e :: es) t) (hkw : PK X kws tk)
    (hall : (backToKw pos (keywordEach kws X.env)).all (·.1.isSome) = true := by rfl) (hks : (backToKw pos (keywordEach kws X.env)).filterMap (·.1) = ks := by rfl) (hdb : (x == ("__debug__" : Str)) = false := by decide)
    (he : starEach (e :: es) X.env = (false, eval e X.env) :: starEach es X.env := by rfl) (hpl : ((backTo pos (starEach (e :: es) X.env)).any (·.1) || (backToKw pos (keywordEach kws X.env)).any (·.1.isNone)) = false := by rfl) :
    PE X (.Call (.Name x p) (e :: es) kws pos) (tMakeK C n ks.length sp gV E0 t tk) := by
  obtain ⟨f, fd, g, M, F, hm, hb⟩ := c.ex
  exact pe_makeK M F hr hg hm hb pass0 ha hkw hall hks hdb he hpl
theorem pe_mkK0 (c : MakK X.prog X.w X.K X.mg X.base x C k ps 0 ks gV sp) (hr : Room (k + 1) X.A) (hg : Gl X x) (hkw : PK X kws tk)
    (hall : (backToKw pos (keywordEach kws X.env)).all (·.1.isSome) = true := by rfl) (hks : (backToKw pos (keywordEach kws X.env)).filterMap (·.1) = ks := by rfl) (hdb : (x == ("__debug__" : Str)) = false := by decide)
    (hpl : ((backTo pos (starEach [] X.env)).any (·.1) || (backToKw pos (keywordEach kws X.env)).any (·.1.isNone)) = false := by rfl) :
    PE X (.Call (.Name x p) [] kws pos) (tMakeK C 0 ks.length sp gV E0 tNil tk) := by
  obtain ⟨f, fd, g, M, F, hm, hb⟩ := c.ex
  exact pe_makeK0 M F hr hg hm hb pass0 hkw hall hks hdb hpl
end
theorem Vals.dt {vs : List V} {us : List Value} (r : Vals vs us) (j : Nat) : Vals ((vs.drop j).take 1) ((us.drop j).take 1) := by
  induction r generalizing j with
  | nil => simp; exact .nil
  | cons h r ih =>
    cases j with
    | zero => exact .cons h .nil
    | succ j => exact ih j
theorem kps_fld {X : Cx} {K : PySem.W.Frag} {o value : Expr} {f : Str} {pos pos' : Pos} {ta tv : TE} (h : X.K = K) (ha : PE X o ta) (hv : PE X value tv) (hs : swapsWith value (some (.Attribute o f pos')) pos.line X.env = pure false) : PS X (.Assign [.Attribute o f pos'] value pos) (sFld K ta tv f) := h ▸ ps_fld ha hv hs
/-! steps -/
def MakeQ (C : Addr) (sp : Sp) (E : XK) (Q : VK) (vs : List V) (H1 : Hp) : Prop := ∀ x dx, H1 x = none → H1 dx = none → dx ≠ x → sp (.ref x :: vs) (upd (upd H1 dx (.own x)) x (.ins C dx [])) (fun v H2 => v = .non ∧ Q (.ref x) H2) E
def SfQ (K : PySem.W.Frag) (f : Str) (G : Ends) (σ : L2.St) (x y : V) (H2 : Hp) : Prop := ∃ a C dx fs, x = .ref a ∧ H2 a = some (.ins C dx fs) ∧ Cls K C ∧ NoAttr K C f ∧ fs.length < 1000 ∧ G.nx σ (upd H2 a (.ins C dx (putF f y fs)))
def MethQ (C : Addr) (m : Str) (x : V) (H : Hp) (A : Prop) : Prop := ∃ a dx fs, x = .ref a ∧ H a = some (.ins C dx fs) ∧ fs.lookup m = none ∧ A
theorem putF_new {f : Str} {v : V} : ∀ {fs : List (Str × V)}, f ∉ fs.map (·.1) → putF f v fs = fs ++ [(f, v)]
  | [], _ => rfl
  | (g, x) :: r, h => by
    have h1 : ¬ g = f := fun e => h (by rw [e]; exact List.mem_cons_self)
    have h2 : f ∉ r.map (·.1) := fun e => h (List.mem_cons_of_mem _ e)
    show (if g = f then _ else (g, x) :: putF f v r) = _
    rw [if_neg h1, putF_new h2]
    rfl
section
variable {K : PySem.W.Frag} {σ : L2.St} {I H : Hp} {M : List (Addr × HO)} {Q : VK} {G : Ends} {ta tv : TE} {tA : TA} {C : Addr} {sp : Sp} {dvs vs : List V} {E : XK} {m f : Str} {v x y : V} {fs : List (Str × D)} {L : List Str}
theorem s_make (h : tA σ H fun vs H1 => MakeQ C sp E Q (vs ++ dvs) H1) : tMake C sp dvs E tA σ H Q := h
theorem s_makeW (w : W I H M) (q : ∀ x dx H', I x = none → W I H' ((x, .ins C dx []) :: M) → sp (.ref x :: vs) H' (fun v H2 => v = .non ∧ Q (.ref x) H2) E) : MakeQ C sp E Q vs H := fun x dx hx hd ne => by
  have w1 : W I (upd H dx (.own x)) M := w.more (same_new hd)
  have hx1 : upd H dx (.own x) x = none := by rw [upd_ne ne.symm]; exact hx
  exact q x dx _ (w.fresh hx) (w1.newM hx1)
def MakeKQ (C : Addr) (sp : Sp) (gV : List V → List V → List V) (E : XK) (Q : VK) (vs zs : List V) (H2 : Hp) : Prop := ∀ x dx, H2 x = none → H2 dx = none → dx ≠ x → sp (gV (.ref x :: vs) zs) (upd (upd H2 dx (.own x)) x (.ins C dx [])) (fun v H3 => v = .non ∧ Q (.ref x) H3) E
theorem s_makeK {gV : List V → List V → List V} {n m : Nat} {tK : TA} (h : tA σ H fun vs H1 => tK σ H1 fun zs H2 => vs.length = n ∧ zs.length = m ∧ MakeKQ C sp gV E Q vs zs H2) : tMakeK C n m sp gV E tA tK σ H Q := h
theorem s_mkKQ {gV : List V → List V → List V} {zs us : List V} (hg : ∀ x, gV (x :: vs) zs = x :: us) (h : MakeQ C sp E Q us H) : MakeKQ C sp gV E Q vs zs H := fun x dx a b c => by rw [hg]; exact h x dx a b c
theorem s_makeW2 {m0 : Addr × HO} (w : W I H (m0 :: M)) (q : ∀ x dx H', I x = none → W I H' ((x, .ins C dx []) :: m0 :: M) → sp (.ref x :: vs) H' (fun v H2 => v = .non ∧ Q (.ref x) H2) E) : MakeQ C sp E Q vs H := s_makeW w q
theorem s_sfld (h : tv σ H fun y H1 => ta σ H1 fun x H2 => SfQ K f G σ x y H2) : sFld K ta tv f G σ H := h
theorem s_sfW {a dx : Addr} {gs : List (Str × V)} (w : W I H ((a, .ins C dx gs) :: M)) (hc : Cls K C) (hn : ∀ f ∈ L, NoAttr K C f) (hf : f ∈ L) (hg : gs.length < 1000) (q : ∀ H', W I H' ((a, .ins C dx (putF f y gs)) :: M) → G.nx σ H') : SfQ K f G σ (.ref a) y H :=
  ⟨a, C, dx, gs, rfl, w.at0, hc, hn f hf, hg, q _ w.put0⟩
theorem s_meth (h : ta σ H fun x H1 => MethQ C m x H1 (tA σ H1 fun vs H2 => sp (x :: (vs ++ dvs)) H2 Q E)) : tMeth C m sp dvs E ta tA σ H Q := h
theorem s_methAt {A : Prop} (w : W I H M) (h : Is I v (.obj C fs)) (hm : m ∉ fs.map (·.1)) (q : A) : MethQ C m v H A := by
  obtain ⟨p, dx, vs, rfl, hp, a⟩ := h.obj_ex
  refine ⟨p, dx, vs, rfl, w.imm _ _ hp, a.no ?_, q⟩
  cases e : fs.lookup m with
  | none => rfl
  | some d =>
    exfalso
    apply hm
    clear a hp h
    induction fs with
    | nil => cases e
    | cons g r ih =>
      rw [List.lookup_cons] at e
      cases hc : m == g.1 with
      | true => rw [beq_iff_eq.mp hc]; exact List.mem_cons_self
      | false => rw [hc] at e; exact List.mem_cons_of_mem _ (ih (fun q => hm (List.mem_cons_of_mem _ q)) e)
theorem s_fldA {d : D} (w : W I H M) (h : Is I v (.obj C fs)) (hc : Cls K C) (hn : ∀ f ∈ L, NoAttr K C f) (hf : f ∈ L) (hd : fs.lookup f = some d) (q : ∀ u, Is I u d → Q u H) :
    ∃ a C dx fs u, v = .ref a ∧ H a = some (.ins C dx fs) ∧ Cls K C ∧ NoAttr K C f ∧ fs.lookup f = some u ∧ Q u H := s_fldAt w h hc (hn f hf) hd q
def FldQ (K : PySem.W.Frag) (f : Str) (Q : VK) (x : V) (H1 : Hp) : Prop := tFld K (fun _ H Q => Q x H) f [] H1 Q
theorem s_fldQ (h : ta σ H fun x H1 => FldQ K f Q x H1) : tFld K ta f σ H Q := h
theorem s_fldI {d : D} (w : W I H M) (h : Is I v (.obj C fs)) (hc : Cls K C) (hn : ∀ f ∈ L, NoAttr K C f) (hf : f ∈ L) (hd : fs.lookup f = some d) (q : ∀ u, Is I u d → Q u H) : FldQ K f Q v H := s_fldA w h hc hn hf hd q
theorem Is.tyo (o : OwnC K C) (w : W I H M) (h : Is I v (.obj C fs)) : TyX K H v (.ref C) := by
  obtain ⟨p, dx, vs, rfl, hp, a⟩ := h.obj_ex
  exact .base (.ins (w.imm _ _ hp) o.cl o.ha o.hn o.htk o.hm)
theorem s_isiO {b : String} {k : Bool} (o : OwnC K C) (w : W I H M) (h : Is I v (.obj C fs)) (hb : PySem.W.kitOne K (.ref C) (.type b) = some k) (q : Q (.bl k) H) : rIsiU K [v, .ty b] H Q :=
  .inl ⟨v, .ty b, .ref C, .type b, k, rfl, .ty b, h.tyo o w, hb, q⟩
theorem s_isiC {a : String} {d : D} {k : Bool} (w : W I H M) (h : Is I v d) (e : d.tn = some a) (hb : PySem.W.kitOne K (.type a) (.ref C) = some k) (q : Q (.bl k) H) : rIsiU K [v, .ref C] H Q :=
  .inl ⟨v, .ref C, .type a, .ref C, k, rfl, .own C, h.tyx w e, hb, q⟩
theorem s_isiOC {C' : Addr} {k : Bool} (o : OwnC K C) (w : W I H M) (h : Is I v (.obj C fs)) (hb : PySem.W.kitOne K (.ref C) (.ref C') = some k) (q : Q (.bl k) H) : rIsiU K [v, .ref C'] H Q :=
  .inl ⟨v, .ref C', .ref C, .ref C', k, rfl, .own C', h.tyo o w, hb, q⟩
end
theorem s_intN {n : Int} {A B : Prop} (h : B) : if decide (V.int n = V.non) = true then A else B := s_iteDn (fun q => nomatch q) h
theorem s_refN {n : Addr} {A B : Prop} (h : B) : if decide (V.ref n = V.non) = true then A else B := s_iteDn (fun q => nomatch q) h
theorem s_nonN {A B : Prop} (h : A) : if decide (V.non = V.non) = true then A else B := s_iteDp rfl h
/-- an own class is no built-in one -/
structure KitC (K : PySem.W.Frag) (C : Addr) : Prop where
  i : PySem.W.kitOne K (.ref C) (.type "int") = some false
  b : PySem.W.kitOne K (.ref C) (.type "bool") = some false
  t : PySem.W.kitOne K (.ref C) (.type "tuple") = some false
  l : PySem.W.kitOne K (.ref C) (.type "list") = some false
  s : PySem.W.kitOne K (.ref C) (.type "str") = some false
  d : PySem.W.kitOne K (.ref C) (.type "dict") = some false
theorem kit_mro {K : PySem.W.Frag} {C : Addr} {b : String} {r : Bool} (hk : PySem.W.kitMeta b = true) (hm : PySem.W.mroIn K C (.type b) = some r) : PySem.W.kitOne K (.ref C) (.type b) = some r := by
  have e : ¬ (Value.ref C == Value.type b) = true := fun h => by cases (beq_iff_eq.mp h)
  show (if (Value.ref C == Value.type b) = true then some true else PySem.W.kitCls K (.ref C) (.type b)) = some r
  rw [if_neg e]
  show (if PySem.W.kitMeta b = true then PySem.W.subIn K (.ref C) (.type b) else none) = some r
  rw [if_pos hk]
  exact hm
/-- of a known kind, or an instance that is no int -/
def TyK (K : PySem.W.Frag) (d : D) : Prop := Ty d ∨ ∃ C fs, d = .obj C fs ∧ OwnC K C ∧ PySem.W.kitOne K (.ref C) (.type "int") = some false
theorem TyK.of {K : PySem.W.Frag} {d : D} (h : Ty d) : TyK K d := .inl h
/-- a part -/
abbrev prt (C : Addr) (b l : Int) (g : D) (w s : Int) : D := .obj C [("base", .int b), ("least", .int l), ("greatest", g), ("grow", .int w), ("shrink", .int s)]
end Fs

namespace Fs
open PySem PySem.Spec PyProof.Rows L2
/-! ### texts -/
/-- a text times a number: here only its length is told -/
def rMulS : R2 := fun x y H Q => ∃ (z : Str) (n : Int), x = .str z ∧ y = .int n ∧ 0 ≤ n ∧ n ≤ 1000 ∧ z.length ≤ 1000 ∧ ∀ z' : Str, z'.length ≤ z.length * n.toNat → Q (.str z') H
theorem rep_len (x : Array Nat) : ∀ (n : Nat) (acc : Array Nat), ((List.replicate n x).foldl (· ++ ·) acc).size = acc.size + n * x.size
  | 0, acc => by simp
  | n + 1, acc => by
    rw [List.replicate_succ, List.foldl_cons, rep_len x n, Array.size_append, Nat.add_mul]
    omega
theorem op_mulS {X : Cx} : OpR X (binaryOp .Mult) rMulS := by
  intro pins s σ H x y v u Q I rx ry h
  obtain ⟨z, n, rfl, rfl, h0, h1, h2, q⟩ := h
  obtain ⟨t, rfl⟩ := rx
  obtain ⟨t', rfl⟩ := ry
  have hz : z.length * n.toNat ≤ 1000 * 1000 := Nat.mul_le_mul h2 (by omega)
  refine PySem.P.mul_str (by simp; omega) (fun hn _ => ?_) (fun hn _ => ?_) ?_
  · have : (1000 : Int) ≤ (2 ^ 63 - 1) / n := by
      refine Int.le_ediv_of_mul_le (by omega) ?_
      have : 1000 * n ≤ 1000 * 1000 := Int.mul_le_mul_of_nonneg_left h1 (by decide)
      omega
    have h3 : (z.length : Int) ≤ 1000 := by omega
    omega
  · exact decide_eq_false (by
      have : (1000 * 1000 : Nat) ≤ sizeLine := by decide
      omega)
  · by_cases hn : n < 1
    · rw [if_pos hn]
      exact ⟨by decide, .str Str.empty, H, I.tok _, ⟨_, rfl⟩, q _ (Nat.zero_le _)⟩
    · rw [if_neg hn]
      by_cases hc : (n == 1 || z.length == 0) = true
      · rw [if_pos hc]
        refine ⟨.str z, H, I, ⟨_, rfl⟩, q _ ?_⟩
        have : 1 ≤ n.toNat := by omega
        exact Nat.le_mul_of_pos_right _ this
      · rw [if_neg hc]
        have e : Str.length ⟨(List.replicate n.toNat z.cps).foldl (· ++ ·) #[]⟩ = n.toNat * z.length := by
          have := rep_len z.cps n.toNat #[]
          show Array.size _ = _
          rw [this]
          simp [Str.length]
        have : (1000 * 1000 : Nat) ≤ sizeLine := by decide
        rw [Nat.mul_comm] at hz
        exact ⟨by rw [e]; omega, .str _, H, I.tok _, ⟨_, rfl⟩, q _ (by rw [e, Nat.mul_comm]; exact Nat.le_refl _)⟩
section
variable {K : PySem.W.Frag} {X : Cx} {σ : L2.St} {I H : Hp} {M : List (Addr × HO)} {Q : VK} {G : Ends} {z y : Str} {n : Int} {te : TE} {g : TG} {tb : TS}
theorem small_line {n : Nat} (h : n ≤ 100000) : n ≤ sizeLine := Nat.le_trans h (by decide)
theorem s_mulS (h0 : 0 ≤ n) (h1 : n ≤ 1000) (h2 : z.length ≤ 1000) (q : ∀ z' : Str, z'.length ≤ z.length * n.toNat → Q (.str z') H) : rMulS (.str z) (.int n) H Q := ⟨z, n, rfl, rfl, h0, h1, h2, q⟩
theorem s_lenS (hz : z.length ≤ 100000) (q : Q (.int z.length) H) : rLenU K [.str z] H Q := .inr ⟨z, rfl, small_line hz, q⟩
theorem s_addT (hz : z.length + y.length ≤ 100000) (q : Q (.str (z ++ y)) H) : rAddU K (.str z) (.str y) H Q := .inr (.inl ⟨z, y, rfl, rfl, small_line hz, q⟩)
theorem s_ixS (h0 : 0 ≤ n) (h1 : n < z.length) (hz : z.length ≤ 100000) (q : ∀ c, Q (.str ⟨#[c]⟩) H) : rIx K (.str z) (.int n) H Q := by
  obtain ⟨c, _, e⟩ := at_nat (l := z.cps.toList) h0 (by rw [Array.length_toList]; exact h1)
  exact .inr (.inr ⟨z, n, c, rfl, rfl, small_line hz, e, q c⟩)
theorem cut_len {lo hi : Option Int} : (cutS z lo hi).length ≤ z.length := by
  show Array.size _ ≤ Array.size _
  simp only [cutS, List.size_toArray, List.length_take, List.length_drop, Array.length_toList]
  omega
theorem s_cutS {lo hi : Option Int} (hz : z.length ≤ 100000) (q : ∀ z' : Str, z'.length ≤ z.length → Q (.str z') H) : rSlS (.str z) lo hi H Q := ⟨z, rfl, small_line hz, q _ cut_len⟩
theorem s_ltS (q : Q (.bl (decide (z.cps.toList < y.cps.toList))) H) : (fun x y H Q => ∃ i j, x = V.str i ∧ y = V.str j ∧ Q (V.bl (decide (i.cps.toList < j.cps.toList))) H : R2) (.str z) (.str y) H Q := ⟨z, y, rfl, rfl, q⟩
def rLtS : R2 := fun x y H Q => ∃ i j, x = V.str i ∧ y = V.str j ∧ Q (.bl (decide (i.cps.toList < j.cps.toList))) H
def rGtS : R2 := fun x y H Q => ∃ i j, x = V.str i ∧ y = V.str j ∧ Q (.bl (decide (j.cps.toList < i.cps.toList))) H
def rNiS : R2 := fun x y H Q => ∃ (c : Nat) (z : Str), x = .str ⟨#[c]⟩ ∧ y = .str z ∧ Q (.bl (!decide (c ∈ z.cps.toList))) H
theorem u_ltS : OpR X (compareOp .Lt) rLtS := op_lt_str
theorem u_gtS : OpR X (compareOp .Gt) rGtS := op_gt_str
theorem u_niS : OpR X (compareOp .NotIn) rNiS := op_notIn_sign
theorem s_lts (q : Q (.bl (decide (z.cps.toList < y.cps.toList))) H) : rLtS (.str z) (.str y) H Q := ⟨z, y, rfl, rfl, q⟩
theorem s_gts (q : Q (.bl (decide (y.cps.toList < z.cps.toList))) H) : rGtS (.str z) (.str y) H Q := ⟨z, y, rfl, rfl, q⟩
theorem s_nis {c : Nat} (q : Q (.bl (!decide (c ∈ z.cps.toList))) H) : rNiS (.str ⟨#[c]⟩) (.str z) H Q := ⟨c, z, rfl, rfl, q⟩
/-- sep.join(list) : only the length is told -/
def rJoin (K : PySem.W.Frag) : V → List V → Hp → VK → Prop := fun x xs H Q => ∃ a p, ∃ ys : List Str, x = .str a ∧ xs = [.ref p] ∧ (SqL K H p (ys.map V.str) ∨ SqT K H p (ys.map V.str)) ∧
    (ys.map (·.length)).sum + ys.length * a.length ≤ 16777216 ∧ Q (.str (Txt.join a ys)) H
theorem k_join {o e : Expr} {to te : TE} {apos pos : Pos} (h : X.K = K) (ho : PE X o to) (he : PE X e te) (hs : starEach [e] X.env = [(false, eval e X.env)] := by rfl) (hbase : attributeBase o "join" X.env (eval o X.env) = eval o X.env := by rfl) (hline : (apos.endLine == pos.line) = true := by rfl) :
    PE X (.Call (.Attribute o "join" apos) [e] [] pos) (tM1 (rJoin K) to te) := h ▸ pe_join ho he hs hbase hline
theorem s_m1 {r : V → List V → Hp → VK → Prop} {to : TE} (h : to σ H fun x H1 => (∃ a, x = .str a) ∧ te σ H1 fun y H2 => r x [y] H2 Q) : tM1 r to te σ H Q := h
/-- for c in text -/
theorem s_iS {R : It → Hp → Prop} (h : te σ H fun v H1 => ∃ x, v = .str x ∧ R (Its x) H1) : iStr te σ H R := h
theorem s_forS (Pv : Nat → L2.St → Hp → Prop) (h0 : Pv 0 σ H)
    (hs : ∀ i c σ H, z.cps.toList[i]? = some c → Pv i σ H → g (.str ⟨#[c]⟩) σ H fun σ2 H2 => tb { G with nx := Pv (i + 1), ct := Pv (i + 1), bk := G.nx } σ2 H2) (hd : ∀ σ H, Pv z.length σ H → G.nx σ H) :
    ∃ x, V.str z = .str x ∧ ∃ W : Nat → Nat → L2.St → Hp → Prop, (∃ m, W 0 m σ H) ∧ ∀ i m σ H, W i m σ H →
      ((Its x).stop i H ∧ G.nx σ H) ∨ ((Its x).go i H ∧ ∃ N : L2.St → Hp → Prop, (∀ σ' H', N σ' H' → ∃ m', m' < m ∧ W (i + 1) m' σ' H') ∧ ∀ v H', (Its x).yld i H v H' → g v σ H' fun σ2 H2 => tb { G with nx := N, ct := N, bk := G.nx } σ2 H2) := by
  refine ⟨z, rfl, ?_⟩
  refine for_it walk_str Pv h0 (fun i σ H _ q => trivial) (fun i x σ H H' hi q y => ?_) (fun σ H q => hd σ H q)
  obtain ⟨rfl, c, e, rfl⟩ := y
  exact hs i c σ _ (by rw [Array.getElem?_toList]; exact e) q
end
end Fs

namespace Fs
open PySem PySem.Spec PyProof.Rows L2
/-! ### what is known, as a list of facts; what may be changed, by what it holds -/
inductive ME where
  | raw (p : Addr) (o : HO)
  | ml (p : Addr) (ds : List D)
  | mi (p C : Addr) (fs : List (Str × D))
  | bag (b : Addr)
  | dk (p : Addr) (kvs : List (Key × D))
  | dt (p : Addr) (kvs : List (List Key × D))
/-- pairs with the same keys -/
inductive IsP (I : Hp) {κ : Type} : List (κ × V) → List (κ × D) → Prop
  | nil : IsP I [] []
  | cons {f : κ} {v : V} {d : D} {vs : List (κ × V)} {ds : List (κ × D)} : Is I v d → IsP I vs ds → IsP I ((f, v) :: vs) ((f, d) :: ds)
theorem IsP.mono {I J : Hp} {κ : Type} (s : Same I J) : ∀ {vs : List (κ × V)} {ds : List (κ × D)}, IsP I vs ds → IsP J vs ds
  | _, _, .nil => .nil
  | _, _, .cons h a => .cons (h.mono s) (IsP.mono s a)
inductive Cn (I : Hp) : ME → Addr × HO → Prop
  | raw {p : Addr} {o : HO} (hn : ∀ vs, o ≠ .tup vs) : Cn I (.raw p o) (p, o)
  | ml {p : Addr} {vs : List V} {ds : List D} : IsA I vs ds → Cn I (.ml p ds) (p, .lst vs)
  | mi {p C dx : Addr} {vs : List (Str × V)} {fs : List (Str × D)} : IsF I vs fs → Cn I (.mi p C fs) (p, .ins C dx vs)
  | bag {b c : Addr} {o : HO} : Bag I c o → Cn I (.bag b) (b, o)
  | dk {p : Addr} {vs : List (Key × V)} {ds : List (Key × D)} : IsP I vs ds → Cn I (.dk p ds) (p, .dK vs)
  | dt {p : Addr} {vs : List (List Key × V)} {ds : List (List Key × D)} : IsP I vs ds → Cn I (.dt p ds) (p, .dT vs)
theorem Cn.mono {I J : Hp} {e : ME} {m : Addr × HO} (s : Same I J) (h : Cn I e m) : Cn J e m := by
  cases h with
  | raw hn => exact .raw hn
  | ml a => exact .ml (a.mono s)
  | mi a => exact .mi (a.mono s)
  | bag b => exact .bag (b.mono s)
  | dk b => exact .dk (b.mono s)
  | dt b => exact .dt (b.mono s)
inductive CnA (I : Hp) : List ME → List (Addr × HO) → Prop
  | nil : CnA I [] []
  | cons {e : ME} {m : Addr × HO} {M : List ME} {Mc : List (Addr × HO)} : Cn I e m → CnA I M Mc → CnA I (e :: M) (m :: Mc)
theorem CnA.mono {I J : Hp} (s : Same I J) : ∀ {M : List ME} {Mc : List (Addr × HO)}, CnA I M Mc → CnA J M Mc
  | _, _, .nil => .nil
  | _, _, .cons h a => .cons (h.mono s) (CnA.mono s a)
structure Wf (F : List (V × D)) (H : Hp) (M : List ME) : Prop where
  ex : ∃ I Mc, W I H Mc ∧ CnA I M Mc ∧ ∀ f ∈ F, Is I f.1 f.2
/-- one is changed -/
inductive Foc : List ME → ME → List ME → ME → Prop
  | here {e e' : ME} {M : List ME} : Foc (e :: M) e (e' :: M) e'
  | there {e e' m : ME} {M M' : List ME} : Foc M e M' e' → Foc (m :: M) e (m :: M') e'
/-- one is taken out -/
inductive Rem : List ME → ME → List ME → Prop
  | here {e : ME} {M : List ME} : Rem (e :: M) e M
  | there {e m : ME} {M M' : List ME} : Rem M e M' → Rem (m :: M) e (m :: M')
section
variable {I H : Hp} {M M' : List ME} {Mc : List (Addr × HO)} {e e' : ME}
theorem CnA.foc (a : CnA I M Mc) (f : Foc M e M' e') : ∃ M1 m M2, Mc = M1 ++ m :: M2 ∧ Cn I e m ∧ ∀ J m', Same I J → Cn J e' m' → CnA J M' (M1 ++ m' :: M2) := by
  induction f generalizing Mc with
  | here =>
    cases a with
    | cons h a => exact ⟨[], _, _, rfl, h, fun J m' s h' => .cons h' (a.mono s)⟩
  | there f ih =>
    cases a with
    | cons h a =>
      obtain ⟨M1, m, M2, rfl, h1, h2⟩ := ih a
      exact ⟨_ :: M1, m, M2, rfl, h1, fun J m' s h' => .cons (h.mono s) (h2 J m' s h')⟩
theorem CnA.rem (a : CnA I M Mc) (f : Rem M e M') : ∃ M1 m M2, Mc = M1 ++ m :: M2 ∧ Cn I e m ∧ CnA I M' (M1 ++ M2) := by
  induction f generalizing Mc with
  | here =>
    cases a with
    | cons h a => exact ⟨[], _, _, rfl, h, a⟩
  | there f ih =>
    cases a with
    | cons h a =>
      obtain ⟨M1, m, M2, rfl, h1, h2⟩ := ih a
      exact ⟨_ :: M1, m, M2, rfl, h1, .cons h h2⟩
theorem CnA.mem (a : CnA I M Mc) (h : e ∈ M) : ∃ m, m ∈ Mc ∧ Cn I e m := by
  induction a with
  | nil => cases h
  | cons h1 a ih =>
    rcases List.mem_cons.mp h with rfl | h
    · exact ⟨_, List.mem_cons_self, h1⟩
    · obtain ⟨m, q1, q2⟩ := ih h
      exact ⟨m, List.mem_cons_of_mem _ q1, q2⟩
theorem CnA.sub (a : CnA I M Mc) (s : List.Sublist M' M) : ∃ Mc', List.Sublist Mc' Mc ∧ CnA I M' Mc' := by
  induction s generalizing Mc with
  | slnil => cases a; exact ⟨[], .slnil, .nil⟩
  | cons _ s ih =>
    cases a with
    | cons h a =>
      obtain ⟨Mc', h1, h2⟩ := ih a
      exact ⟨Mc', .cons _ h1, h2⟩
  | cons_cons _ s ih =>
    cases a with
    | cons h a =>
      obtain ⟨Mc', h1, h2⟩ := ih a
      exact ⟨_ :: Mc', .cons_cons _ h1, .cons h h2⟩
theorem CnA.perm {M' : List ME} (p : List.Perm M M') : ∀ {Mc : List (Addr × HO)}, CnA I M Mc → ∃ Mc', List.Perm Mc Mc' ∧ CnA I M' Mc' := by
  induction p with
  | nil => intro Mc a; exact ⟨Mc, .refl _, a⟩
  | cons x p ih =>
    intro Mc a
    cases a with
    | cons h a =>
      obtain ⟨Mc', h1, h2⟩ := ih a
      exact ⟨_ :: Mc', .cons _ h1, .cons h h2⟩
  | swap x y l =>
    intro Mc a
    cases a with
    | cons h a =>
      cases a with
      | cons h' a => exact ⟨_, .swap _ _ _, .cons h' (.cons h a)⟩
  | trans p q ih1 ih2 =>
    intro Mc a
    obtain ⟨M1, h1, a1⟩ := ih1 a
    obtain ⟨M2, h2, a2⟩ := ih2 a1
    exact ⟨M2, h1.trans h2, a2⟩
theorem W.subl {Mc' : List (Addr × HO)} (w : W I H Mc) (s : List.Sublist Mc' Mc) : W I H Mc' := ⟨w.imm, fun x hx => w.mu x (s.subset hx), w.nd.sublist (s.map _)⟩
theorem W.perm {Mc' : List (Addr × HO)} (w : W I H Mc) (s : List.Perm Mc Mc') : W I H Mc' := ⟨w.imm, fun x hx => w.mu x (s.mem_iff.mpr hx), (s.map _).nodup_iff.mp w.nd⟩
end
/-- known -/
inductive Rk (F : List (V × D)) (M : List ME) : V → D → Prop
  | mem {v : V} {d : D} : (v, d) ∈ F → Rk F M v d
  | int (n : Int) : Rk F M (.int n) (.int n)
  | bl (n : Bool) : Rk F M (.bl n) (.bl n)
  | str (n : Str) : Rk F M (.str n) (.str n)
  | non : Rk F M .non .non
  | ml {p : Addr} {ds : List D} : .ml p ds ∈ M → Rk F M (.ref p) (.lst ds)
  | mi {p C : Addr} {fs : List (Str × D)} : .mi p C fs ∈ M → Rk F M (.ref p) (.obj C fs)
/-- known for good -/
inductive Kn (F : List (V × D)) : V → D → Prop
  | mem {v : V} {d : D} : (v, d) ∈ F → Kn F v d
  | int (n : Int) : Kn F (.int n) (.int n)
  | bl (n : Bool) : Kn F (.bl n) (.bl n)
  | str (n : Str) : Kn F (.str n) (.str n)
  | non : Kn F .non .non
  | ty (n : String) : Kn F (.ty n) (.ty n)
  | ref (a : Addr) : Kn F (.ref a) (.ref a)
inductive KnA (F : List (V × D)) : List V → List D → Prop
  | nil : KnA F [] []
  | cons {v : V} {d : D} {vs : List V} {ds : List D} : Kn F v d → KnA F vs ds → KnA F (v :: vs) (d :: ds)
/-- all facts of F' are among F's -/
def KS (F' F : List (V × D)) : Prop := ∀ f ∈ F', Kn F f.1 f.2
theorem KS.nil {F : List (V × D)} : KS [] F := fun _ h => nomatch h
theorem KS.refl {F : List (V × D)} : KS F F := fun _ h => .mem h
theorem KS.cons {F F' : List (V × D)} {v : V} {d : D} (h : Kn F v d) (r : KS F' F) : KS ((v, d) :: F') F := fun f hf => by
  rcases List.mem_cons.mp hf with rfl | hf
  · exact h
  · exact r f hf
theorem Kn.more {F : List (V × D)} {g : V × D} {v : V} {d : D} (h : Kn F v d) : Kn (g :: F) v d := by
  cases h with
  | mem h => exact .mem (List.mem_cons_of_mem _ h)
  | int n => exact .int n
  | bl n => exact .bl n
  | str n => exact .str n
  | non => exact .non
  | ty n => exact .ty n
  | ref a => exact .ref a
theorem KS.drop {F F' : List (V × D)} {g : V × D} (r : KS F' F) : KS F' (g :: F) := fun f hf => (r f hf).more
section
variable {I H H' : Hp} {F F' : List (V × D)} {M M' : List ME} {Mc : List (Addr × HO)} {v x y : V} {d : D} {ds : List D} {vs xs : List V}
theorem Kn.is (hF : ∀ f ∈ F, Is I f.1 f.2) (h : Kn F v d) : Is I v d := by
  cases h with
  | mem h => exact hF _ h
  | int n => exact .int n
  | bl n => exact .bl n
  | str n => exact .str n
  | non => exact .non
  | ty n => exact .ty n
  | ref a => exact .ref a
theorem KnA.is (hF : ∀ f ∈ F, Is I f.1 f.2) : ∀ {vs : List V} {ds : List D}, KnA F vs ds → IsA I vs ds
  | _, _, .nil => .nil
  | _, _, .cons h a => .cons (h.is hF) (KnA.is hF a)
theorem Rk.of (h : Kn F v d) (hd : (∃ n, d = .ref n) ∨ (∃ n, d = .ty n) → False) : Rk F M v d := by
  cases h with
  | mem h => exact .mem h
  | int n => exact .int n
  | bl n => exact .bl n
  | str n => exact .str n
  | non => exact .non
  | ty n => exact (hd (.inr ⟨_, rfl⟩)).elim
  | ref a => exact (hd (.inl ⟨_, rfl⟩)).elim
/-- what is known is there to be read -/
theorem Rk.rd (w : W I H Mc) (a : CnA I M Mc) (hF : ∀ f ∈ F, Is I f.1 f.2) (h : Rk F M v d) : Is H v d := by
  cases h with
  | mem h => exact (hF _ h).mono w.imm
  | int n => exact .int n
  | bl n => exact .bl n
  | str n => exact .str n
  | non => exact .non
  | ml h =>
    obtain ⟨m, h1, h2⟩ := a.mem h
    cases h2 with
    | ml b => exact .lst (w.mu _ h1).1 (b.mono w.imm)
  | mi h =>
    obtain ⟨m, h1, h2⟩ := a.mem h
    cases h2 with
    | mi b => exact .obj (w.mu _ h1).1 (b.mono w.imm)
theorem Rk.lst (w : W I H Mc) (a : CnA I M Mc) (hF : ∀ f ∈ F, Is I f.1 f.2) (h : Rk F M v (.lst ds)) : ∃ p vs, v = .ref p ∧ H p = some (.lst vs) ∧ IsA I vs ds := by
  cases h with
  | mem h =>
    obtain ⟨p, vs, e, h1, h2⟩ := (hF _ h).lst_ex
    exact ⟨p, vs, e, w.imm _ _ h1, h2⟩
  | ml h =>
    obtain ⟨m, h1, h2⟩ := a.mem h
    cases h2 with
    | ml b => exact ⟨_, _, rfl, (w.mu _ h1).1, b⟩
theorem Rk.tup (w : W I H Mc) (a : CnA I M Mc) (hF : ∀ f ∈ F, Is I f.1 f.2) (h : Rk F M v (.tup ds)) : ∃ p vs, v = .ref p ∧ H p = some (.tup vs) ∧ IsA I vs ds := by
  cases h with
  | mem h =>
    obtain ⟨p, vs, e, h1, h2⟩ := (hF _ h).tup_ex
    exact ⟨p, vs, e, w.imm _ _ h1, h2⟩
theorem Rk.obj {C : Addr} {fs : List (Str × D)} (w : W I H Mc) (a : CnA I M Mc) (hF : ∀ f ∈ F, Is I f.1 f.2) (h : Rk F M v (.obj C fs)) : ∃ p dx vs, v = .ref p ∧ H p = some (.ins C dx vs) ∧ IsF I vs fs := by
  cases h with
  | mem h =>
    obtain ⟨p, dx, vs, e, h1, h2⟩ := (hF _ h).obj_ex
    exact ⟨p, dx, vs, e, w.imm _ _ h1, h2⟩
  | mi h =>
    obtain ⟨m, h1, h2⟩ := a.mem h
    cases h2 with
    | mi b => exact ⟨_, _, _, rfl, (w.mu _ h1).1, b⟩
theorem Wf.sub (w : Wf F H M) (k : KS F' F) (s : List.Sublist M' M) : Wf F' H M' := by
  obtain ⟨I, Mc, w, a, hF⟩ := w.ex
  obtain ⟨Mc', h1, h2⟩ := a.sub s
  exact ⟨I, Mc', w.subl h1, h2, fun f hf => (k f hf).is hF⟩
theorem Wf.perm (w : Wf F H M) (s : List.Perm M M') : Wf F H M' := by
  obtain ⟨I, Mc, w, a, hF⟩ := w.ex
  obtain ⟨Mc', h1, h2⟩ := a.perm s
  exact ⟨I, Mc', w.perm h1, h2, hF⟩
theorem Wf.tail {f : V × D} (w : Wf (f :: F) H M) : Wf F H M := w.sub KS.refl.drop (.refl _)
theorem Wf.int_eq {n : Int} (w : Wf F H M) (h : Kn F v (.int n)) : v = .int n := by
  obtain ⟨I, Mc, w, a, hF⟩ := w.ex
  exact (h.is hF).int_eq
theorem Wf.eq0 {n : Int} (w : Wf ((v, .int n) :: F) H M) : v = .int n ∧ Wf F H M := ⟨w.int_eq (.mem List.mem_cons_self), w.tail⟩
theorem Wf.add (w : Wf F H M) (h : Kn F v d) : Wf ((v, d) :: F) H M := w.sub (KS.cons h KS.refl) (.refl _)
theorem Wf.more (w : Wf F H M) (s : Same H H') : Wf F H' M := by
  obtain ⟨I, Mc, w, a, hF⟩ := w.ex
  exact ⟨I, Mc, w.more s, a, hF⟩
/-- for contracts in the elder form -/
theorem Wf.old (w : Wf F H M) : ∃ I Mc, W I H Mc ∧ (∀ v d, Kn F v d → Is I v d) ∧ (∀ J H', Same I J → W J H' Mc → Wf F H' M) ∧ ∀ J H' r d, Same I J → W J H' Mc → Is J r d → Wf ((r, d) :: F) H' M := by
  obtain ⟨I, Mc, w, a, hF⟩ := w.ex
  refine ⟨I, Mc, w, fun v d h => h.is hF, fun J H' s w' => ⟨J, Mc, w', a.mono s, fun f hf => (hF f hf).mono s⟩, fun J H' r d s w' h => ⟨J, Mc, w', a.mono s, fun f hf => ?_⟩⟩
  rcases List.mem_cons.mp hf with rfl | hf
  · exact h
  · exact (hF f hf).mono s
theorem Wf.oldB {b : Addr} (w : Wf F H M) (hb : .bag b ∈ M) : ∃ I Mc c o, W I H ((b, o) :: Mc) ∧ Bag I c o ∧ (∀ v d, Kn F v d → Is I v d) ∧ (∀ J H' o', Same I J → W J H' ((b, o') :: Mc) → Bag J c o' → Wf F H' M) ∧ ∀ J H' o' r d, Same I J → W J H' ((b, o') :: Mc) → Bag J c o' → Is J r d → Wf ((r, d) :: F) H' M := by
  obtain ⟨M1, M2, rfl⟩ := List.append_of_mem hb
  have hp : List.Perm (M1 ++ .bag b :: M2) (.bag b :: (M1 ++ M2)) := List.perm_middle
  obtain ⟨I, Mc, w, a, hF⟩ := (w.perm hp).ex
  cases a with
  | cons h a =>
    cases h with
    | @bag _ c o hb =>
      have z : ∀ J H' o', Same I J → W J H' ((b, o') :: _) → Bag J c o' → ∀ F', (∀ f ∈ F', Is J f.1 f.2) → Wf F' H' (M1 ++ .bag b :: M2) := fun J H' o' s w' hb' F' hF' =>
        Wf.perm (M := .bag b :: (M1 ++ M2)) ⟨J, _, w', .cons (.bag hb') (a.mono s), hF'⟩ hp.symm
      refine ⟨I, _, _, _, w, hb, fun v d h => h.is hF, fun J H' o' s w' hb' => z J H' o' s w' hb' F fun f hf => (hF f hf).mono s, fun J H' o' r d s w' hb' h => z J H' o' s w' hb' _ fun f hf => ?_⟩
      rcases List.mem_cons.mp hf with rfl | hf
      · exact h
      · exact (hF f hf).mono s
end

/-! ### steps -/
section
variable {K : PySem.W.Frag} {σ : L2.St} {H : Hp} {F : List (V × D)} {M M' : List ME} {Q : VK} {G : Ends} {v x y u : V} {vs xs us : List V} {d e : D} {ds es : List D} {p : Addr} {i : Int} {g : TG} {tb : TS} {te : TE} {tt : TT} {sp : Sp} {C : Addr} {E : XK} {f m : Str} {fs : List (Str × D)} {L : List Str}
theorem Wf.put {o' : HO} {e e' : ME} (w : Wf F H M) (f : Foc M e M' e') (h : ∀ I m, (∀ f ∈ F, Is I f.1 f.2) → Cn I e m → m.1 = p ∧ Cn I e' (p, o')) : Wf F (upd H p o') M' := by
  obtain ⟨I, Mc, w, a, hF⟩ := w.ex
  obtain ⟨M1, m, M2, rfl, h1, h2⟩ := a.foc f
  obtain ⟨h3, h4⟩ := h I m hF h1
  obtain ⟨p', o⟩ := m
  cases h3
  exact ⟨I, _, w.put, h2 I _ (Same.refl _) h4, hF⟩
theorem Wf.lstAt (w : Wf F H M) (h : .ml p ds ∈ M) : ∃ vs, H p = some (.lst vs) ∧ vs.length = ds.length := by
  obtain ⟨I, Mc, w, a, hF⟩ := w.ex
  obtain ⟨m, h1, h2⟩ := a.mem h
  cases h2 with
  | ml b => exact ⟨_, (w.mu _ h1).1, b.length⟩
theorem Foc.mem {e e' : ME} (f : Foc M e M' e') : e ∈ M := by
  induction f with
  | here => exact List.mem_cons_self
  | there _ ih => exact List.mem_cons_of_mem _ ih
theorem Rem.mem {e : ME} (f : Rem M e M') : e ∈ M := by
  induction f with
  | here => exact List.mem_cons_self
  | there _ ih => exact List.mem_cons_of_mem _ ih
theorem Wf.frzL (w : Wf F H M) (r : Rem M (.ml p ds) M') : Wf ((.ref p, .lst ds) :: F) H M' := by
  obtain ⟨I, Mc, w, a, hF⟩ := w.ex
  obtain ⟨M1, m, M2, rfl, h1, h2⟩ := a.rem r
  cases h1 with
  | ml b =>
    refine ⟨_, _, w.frz, h2.mono w.frzS, fun f hf => ?_⟩
    rcases List.mem_cons.mp hf with rfl | hf
    · exact .lst upd_same (b.mono w.frzS)
    · exact (hF f hf).mono w.frzS
theorem Wf.frzI (w : Wf F H M) (r : Rem M (.mi p C fs) M') : Wf ((.ref p, .obj C fs) :: F) H M' := by
  obtain ⟨I, Mc, w, a, hF⟩ := w.ex
  obtain ⟨M1, m, M2, rfl, h1, h2⟩ := a.rem r
  cases h1 with
  | mi b =>
    refine ⟨_, _, w.frz, h2.mono w.frzS, fun f hf => ?_⟩
    rcases List.mem_cons.mp hf with rfl | hf
    · exact .obj upd_same (b.mono w.frzS)
    · exact (hF f hf).mono w.frzS
-- subscripts
theorem n_ixT (w : Wf F H M) (h : Rk F M v (.tup ds)) (hd : atI ds i = some d) (q : ∀ u, Wf ((u, d) :: F) H M → Q u H) : rIx K v (.int i) H Q := by
  obtain ⟨I, Mc, w, a, hF⟩ := w.ex
  obtain ⟨p, vs, rfl, hp, b⟩ := h.tup w a hF
  obtain ⟨u, e, hu⟩ := atI_isa b hd
  exact .inr (.inl ⟨p, vs, i, u, rfl, rfl, .inl (.inl hp), e, q u ⟨I, Mc, w, a, fun f hf => by
    rcases List.mem_cons.mp hf with rfl | hf
    · exact hu
    · exact hF f hf⟩⟩)
theorem n_ixL (w : Wf F H M) (h : Rk F M v (.lst ds)) (hd : atI ds i = some d) (q : ∀ u, Wf ((u, d) :: F) H M → Q u H) : rIx K v (.int i) H Q := by
  obtain ⟨I, Mc, w, a, hF⟩ := w.ex
  obtain ⟨p, vs, rfl, hp, b⟩ := h.lst w a hF
  obtain ⟨u, e, hu⟩ := atI_isa b hd
  exact .inl ⟨p, vs, i, u, rfl, rfl, .inl (.inl hp), e, q u ⟨I, Mc, w, a, fun f hf => by
    rcases List.mem_cons.mp hf with rfl | hf
    · exact hu
    · exact hF f hf⟩⟩
theorem n_ixTi {n : Int} (w : Wf F H M) (h : Rk F M v (.tup ds)) (hd : atI ds i = some (.int n)) (q : Q (.int n) H) : rIx K v (.int i) H Q := n_ixT w h hd fun u w => by rw [w.eq0.1]; exact q
theorem n_ixLi {n : Int} (w : Wf F H M) (h : Rk F M v (.lst ds)) (hd : atI ds i = some (.int n)) (q : Q (.int n) H) : rIx K v (.int i) H Q := n_ixL w h hd fun u w => by rw [w.eq0.1]; exact q
theorem n_ixTn (w : Wf F H M) (h : Rk F M v (.tup ds)) (hd : atI ds i = some .non) (q : Q .non H) : rIx K v (.int i) H Q := n_ixT w h hd fun u w => by
  obtain ⟨I, Mc, w, a, hF⟩ := w.ex
  cases (hF (u, .non) List.mem_cons_self : Is I u .non).non_eq
  exact q
theorem n_ixLLi {n : Int} (w : Wf F H M) (h : Rk F M v (.lst ds)) (hd : atI ds i = some (.int n)) (q : Q (.int n) H) : rIxL K v (.int i) H Q := by
  obtain ⟨I, Mc, w, a, hF⟩ := w.ex
  obtain ⟨p, vs, rfl, hp, b⟩ := h.lst w a hF
  obtain ⟨u, e, hu⟩ := atI_isa b hd
  cases hu.int_eq
  exact ⟨p, vs, i, _, rfl, rfl, .inl (.inl hp), e, q⟩
/-- an item at an open place -/
theorem n_ixAny (w : Wf F H M) (h : Rk F M v (.lst ds)) (h0 : 0 ≤ i) (h1 : i < ds.length) (q : ∀ d u, ds[i.toNat]? = some d → Wf ((u, d) :: F) H M → Q u H) : rIx K v (.int i) H Q := by
  have h2 : i.toNat < ds.length := by omega
  have e : (i.toNat : Int) = i := by omega
  have z := atI_nat (List.getElem?_eq_getElem h2)
  rw [e] at z
  exact n_ixL w h z fun u w' => q _ u (List.getElem?_eq_getElem h2) w'
theorem n_ixAnyT (w : Wf F H M) (h : Rk F M v (.tup ds)) (h0 : 0 ≤ i) (h1 : i < ds.length) (q : ∀ d u, ds[i.toNat]? = some d → Wf ((u, d) :: F) H M → Q u H) : rIx K v (.int i) H Q := by
  have h2 : i.toNat < ds.length := by omega
  have e : (i.toNat : Int) = i := by omega
  have z := atI_nat (List.getElem?_eq_getElem h2)
  rw [e] at z
  exact n_ixT w h z fun u w' => q _ u (List.getElem?_eq_getElem h2) w'
/-- an item of a list of ints at an open place -/
theorem n_ixInts {ns : List Int} (w : Wf F H M) (h : Rk F M v (.lst (ns.map D.int))) (h0 : 0 ≤ i) (h1 : i < ns.length) (q : ∀ n, ns[i.toNat]? = some n → Q (.int n) H) : rIx K v (.int i) H Q :=
  n_ixAny w h h0 (by rw [List.length_map]; exact h1) fun d u hd w => by
    rw [List.getElem?_map] at hd
    cases e : ns[i.toNat]? with
    | none => rw [e] at hd; cases hd
    | some n =>
      rw [e] at hd
      cases hd
      rw [w.eq0.1]
      exact q n e
-- len
theorem n_lenL (w : Wf F H M) (h : Rk F M v (.lst ds)) (q : Q (.int ds.length) H) : rLenU K [v] H Q := by
  obtain ⟨I, Mc, w, a, hF⟩ := w.ex
  obtain ⟨p, vs, rfl, hp, b⟩ := h.lst w a hF
  exact .inl ⟨p, vs, rfl, .inl (.inl (.inl hp)), by rw [b.length]; exact q⟩
theorem n_lenT (w : Wf F H M) (h : Rk F M v (.tup ds)) (q : Q (.int ds.length) H) : rLenU K [v] H Q := by
  obtain ⟨I, Mc, w, a, hF⟩ := w.ex
  obtain ⟨p, vs, rfl, hp, b⟩ := h.tup w a hF
  exact .inl ⟨p, vs, rfl, .inr (.inl (.inl hp)), by rw [b.length]; exact q⟩
-- new things
theorem n_newT (w : Wf F H M) (a : KnA F xs ds) (hz : xs.length ≤ 1000) (q : ∀ p H', Wf ((.ref p, .tup ds) :: F) H' M → Q (.ref p) H') : NewT Q xs H := by
  obtain ⟨I, Mc, w, ac, hF⟩ := w.ex
  refine s_newT w (a.is hF) hz fun p J H' s _ w' h' => q p H' ⟨J, Mc, w', ac.mono s, fun f hf => ?_⟩
  rcases List.mem_cons.mp hf with rfl | hf
  · exact h'
  · exact (hF f hf).mono s
theorem n_newL (w : Wf F H M) (a : KnA F xs ds) (hz : xs.length ≤ 1000) (q : ∀ p H', Wf F H' (.ml p ds :: M) → Q (.ref p) H') : NewL Q xs H := by
  obtain ⟨I, Mc, w, ac, hF⟩ := w.ex
  exact s_newM w hz fun p H' w' => q p H' ⟨I, _, w', .cons (.ml (a.is hF)) ac, hF⟩
theorem n_newNil (w : Wf F H M) (q : ∀ p H', Wf F H' (.ml p [] :: M) → Q (.ref p) H') : NewL Q [] H := n_newL w .nil (by simp) q
-- unpacking
theorem n_gtup {n : Nat} {gs : TGs} {T : L2.St → Hp → Prop} (w : Wf F H M) (h : Rk F M v (.tup ds)) (hn : ds.length = n) (q : ∀ I Mc xs, W I H Mc → CnA I M Mc → (∀ f ∈ F, Is I f.1 f.2) → IsA I xs ds → gs xs σ H T) : gTup K n gs v σ H T := by
  obtain ⟨I, Mc, w, a, hF⟩ := w.ex
  obtain ⟨p, vs, rfl, hp, b⟩ := h.tup w a hF
  exact ⟨p, vs, rfl, .inl (.inl hp), by rw [b.length]; exact hn, q I Mc vs w a hF b⟩
theorem n_gtup2 {gs : TGs} {T : L2.St → Hp → Prop} {d0 d1 : D} (w : Wf F H M) (h : Rk F M v (.tup [d0, d1])) (q : ∀ x y, Wf ((x, d0) :: (y, d1) :: F) H M → gs [x, y] σ H T) : gTup K 2 gs v σ H T :=
  n_gtup w h rfl fun I Mc xs w a hF b => by
    cases b with | cons h0 b =>
    cases b with | cons h1 b =>
    cases b
    refine q _ _ ⟨I, Mc, w, a, fun f hf => ?_⟩
    rcases List.mem_cons.mp hf with rfl | hf
    · exact h0
    rcases List.mem_cons.mp hf with rfl | hf
    · exact h1
    · exact hF f hf
theorem n_gtup3 {gs : TGs} {T : L2.St → Hp → Prop} {d0 d1 d2 : D} (w : Wf F H M) (h : Rk F M v (.tup [d0, d1, d2])) (q : ∀ x y z, Wf ((x, d0) :: (y, d1) :: (z, d2) :: F) H M → gs [x, y, z] σ H T) : gTup K 3 gs v σ H T :=
  n_gtup w h rfl fun I Mc xs w a hF b => by
    cases b with | cons h0 b =>
    cases b with | cons h1 b =>
    cases b with | cons h2 b =>
    cases b
    refine q _ _ _ ⟨I, Mc, w, a, fun f hf => ?_⟩
    rcases List.mem_cons.mp hf with rfl | hf
    · exact h0
    rcases List.mem_cons.mp hf with rfl | hf
    · exact h1
    rcases List.mem_cons.mp hf with rfl | hf
    · exact h2
    · exact hF f hf
theorem n_gtup4 {gs : TGs} {T : L2.St → Hp → Prop} {d0 d1 d2 d3 : D} (w : Wf F H M) (h : Rk F M v (.tup [d0, d1, d2, d3])) (q : ∀ x y z u, Wf ((x, d0) :: (y, d1) :: (z, d2) :: (u, d3) :: F) H M → gs [x, y, z, u] σ H T) : gTup K 4 gs v σ H T :=
  n_gtup w h rfl fun I Mc xs w a hF b => by
    cases b with | cons h0 b =>
    cases b with | cons h1 b =>
    cases b with | cons h2 b =>
    cases b with | cons h3 b =>
    cases b
    refine q _ _ _ _ ⟨I, Mc, w, a, fun f hf => ?_⟩
    rcases List.mem_cons.mp hf with rfl | hf
    · exact h0
    rcases List.mem_cons.mp hf with rfl | hf
    · exact h1
    rcases List.mem_cons.mp hf with rfl | hf
    · exact h2
    rcases List.mem_cons.mp hf with rfl | hf
    · exact h3
    · exact hF f hf
/-- two ints -/
theorem n_gtupII {gs : TGs} {T : L2.St → Hp → Prop} {m n : Int} (w : Wf F H M) (h : Rk F M v (.tup [.int m, .int n])) (q : gs [.int m, .int n] σ H T) : gTup K 2 gs v σ H T :=
  n_gtup2 w h fun x y w => by
    rw [w.eq0.1, w.eq0.2.eq0.1]
    exact q
theorem n_gtupIII {gs : TGs} {T : L2.St → Hp → Prop} {m n o : Int} (w : Wf F H M) (h : Rk F M v (.tup [.int m, .int n, .int o])) (q : gs [.int m, .int n, .int o] σ H T) : gTup K 3 gs v σ H T :=
  n_gtup3 w h fun x y z w => by
    rw [w.eq0.1, w.eq0.2.eq0.1, w.eq0.2.eq0.2.eq0.1]
    exact q
-- lists that may be changed
theorem n_tyL {A : Prop} (w : Wf F H M) (h : .ml p ds ∈ M) (a : A) : tyV K "list" (.ref p) H ∧ A := by
  obtain ⟨vs, h1, _⟩ := w.lstAt h
  exact s_tyL h1 a
theorem n_app (w : Wf F H M) (f : Foc M (.ml p ds) M' (.ml p (ds ++ [d]))) (h : Kn F x d) (hz : ds.length ≤ 100000) (q : ∀ H', Wf F H' M' → Q .non H') : rAppend (.ref p) [x] H Q := by
  obtain ⟨vs, h1, hl⟩ := w.lstAt f.mem
  obtain ⟨I, Mc, w, a, hF⟩ := w.ex
  obtain ⟨M1, m, M2, rfl, h3, h4⟩ := a.foc f
  cases h3 with
  | ml b =>
    exact s_app w.at (by rw [b.length]; exact hz) (q _ ⟨I, _, w.put, h4 I _ (Same.refl _) (.ml (b.app (.one (h.is hF)))), hF⟩)
theorem n_clear (w : Wf F H M) (f : Foc M (.ml p ds) M' (.ml p [])) (q : ∀ H', Wf F H' M' → Q .non H') : rClear (.ref p) [] H Q := by
  obtain ⟨vs, h1, hl⟩ := w.lstAt f.mem
  exact s_clear h1 (q _ (w.put f fun I m _ h => by cases h; exact ⟨rfl, .ml .nil⟩))
theorem IsA.set {I : Hp} (h : Is I v d) : ∀ {vs : List V} {ds : List D} (j : Nat), IsA I vs ds → IsA I (vs.set j v) (ds.set j d)
  | _, _, _, .nil => .nil
  | _, _, 0, .cons _ a => .cons h a
  | _, _, j + 1, .cons h' a => .cons h' (IsA.set h j a)
theorem n_set {T : Hp → Prop} {k : Int} {j : Nat} (w : Wf F H M) (f : Foc M (.ml p ds) M' (.ml p (ds.set j d))) (h : Kn F v d) (hj : ixN ds.length k = some j) (q : ∀ H', Wf F H' M' → T H') : rSetL (.ref p) (.int k) v H T := by
  obtain ⟨I, Mc, w, a, hF⟩ := w.ex
  obtain ⟨M1, m, M2, rfl, h3, h4⟩ := a.foc f
  cases h3 with
  | ml b => exact s_setL w.at (by rw [b.length]; exact hj) (q _ ⟨I, _, w.put, h4 I _ (Same.refl _) (.ml (IsA.set (h.is hF) j b)), hF⟩)
-- list(..), slices, +, reversed copies
theorem n_list (w : Wf F H M) (h : Rk F M x (.lst ds)) (q : ∀ p H', Wf F H' (.ml p ds :: M) → Q (.ref p) H') : rListOf K [x] H Q := by
  obtain ⟨I, Mc, w, a, hF⟩ := w.ex
  obtain ⟨p, vs, rfl, hp, b⟩ := h.lst w a hF
  exact ⟨p, vs, rfl, .inl (.inl (.inl hp)), fun l hl => q l _ ⟨I, _, w.newM hl, .cons (.ml b) a, hF⟩⟩
theorem n_listT (w : Wf F H M) (h : Rk F M x (.tup ds)) (q : ∀ p H', Wf F H' (.ml p ds :: M) → Q (.ref p) H') : rListOf K [x] H Q := by
  obtain ⟨I, Mc, w, a, hF⟩ := w.ex
  obtain ⟨p, vs, rfl, hp, b⟩ := h.tup w a hF
  exact ⟨p, vs, rfl, .inr (.inl (.inl hp)), fun l hl => q l _ ⟨I, _, w.newM hl, .cons (.ml b) a, hF⟩⟩
theorem n_sl {lo hi : Option Int} (w : Wf F H M) (h : Rk F M x (.lst ds)) (q : ∀ p H', Wf F H' (.ml p (cutD ds lo hi) :: M) → Q (.ref p) H') : rSlL K x lo hi H Q := by
  obtain ⟨I, Mc, w, a, hF⟩ := w.ex
  obtain ⟨p, vs, rfl, hp, b⟩ := h.lst w a hF
  exact ⟨p, vs, rfl, .inl (.inl hp), fun l hl => q l _ ⟨I, _, w.newM hl, .cons (.ml (b.cut lo hi)) a, hF⟩⟩
theorem n_cat (w : Wf F H M) (hx : Rk F M x (.lst ds)) (hy : Rk F M y (.lst es)) (hz : ds.length + es.length ≤ 100000) (q : ∀ p H', Wf F H' (.ml p (ds ++ es) :: M) → Q (.ref p) H') : rAddU K x y H Q := by
  obtain ⟨I, Mc, w, a, hF⟩ := w.ex
  obtain ⟨p1, vs, rfl, h1, a1⟩ := hx.lst w a hF
  obtain ⟨p2, us, rfl, h2, a2⟩ := hy.lst w a hF
  exact .inr (.inr (.inl ⟨p1, p2, vs, us, rfl, rfl, h1, h2, by rw [a1.length, a2.length]; exact Nat.le_trans hz (by decide), fun p hp => q p _ ⟨I, _, w.newM hp, .cons (.ml (a1.app a2)) a, hF⟩⟩))
theorem n_rev (w : Wf F H M) (h : Rk F M v (.lst ds)) (q : ∀ p H', Wf F H' (.ml p ds.reverse :: M) → Q (.ref p) H') : RevQ K Q v H := by
  obtain ⟨I, Mc, w, a, hF⟩ := w.ex
  obtain ⟨p, vs, rfl, hp, b⟩ := h.lst w a hF
  exact ⟨p, vs, rfl, .inl (.inl hp), fun l hl => q l _ ⟨I, _, w.newM hl, .cons (.ml b.rev) a, hF⟩⟩
-- == of data
theorem NB.dpH {k : Nat} (n : NB k d) : ∀ {v : V}, Is H v d → Dp K H v d.pd := fun {v} h => NB.dp (I := H) (M := []) ⟨fun _ _ e => e, fun _ h => (nomatch h), List.nodup_nil⟩ n h
theorem Wf.rd (w : Wf F H M) (h : Rk F M v d) : Is H v d := by
  obtain ⟨I, Mc, w, a, hF⟩ := w.ex
  exact h.rd w a hF
theorem n_eq {b : Bool} {j k : Nat} (w : Wf F H M) (hx : Rk F M x d) (hy : Rk F M y e) (n : NB k d) (m : NB j e) (hk : k ≤ 64) (hj : j ≤ 64) (hb : b = true ↔ d = e) (q : Q (.bl b) H) : rEqU K x y H Q :=
  .inr ⟨d.pd, e.pd, n.dpH (w.rd hx), m.dpH (w.rd hy), n.shaped hk, m.shaped hj, by
    have h1 := n.eqv m
    have h2 : PyData.eqv d.pd e.pd = b := by rw [Bool.eq_iff_iff, h1, hb]
    rw [h2]; exact q⟩
theorem n_ne {b : Bool} {j k : Nat} (w : Wf F H M) (hx : Rk F M x d) (hy : Rk F M y e) (n : NB k d) (m : NB j e) (hk : k ≤ 64) (hj : j ≤ 64) (hb : b = true ↔ d = e) (q : Q (.bl (!b)) H) : rNeU K x y H Q :=
  .inr ⟨d.pd, e.pd, n.dpH (w.rd hx), m.dpH (w.rd hy), n.shaped hk, m.shaped hj, by
    have h1 := n.eqv m
    have h2 : PyData.eqv d.pd e.pd = b := by rw [Bool.eq_iff_iff, h1, hb]
    rw [h2]; exact q⟩
theorem n_eqT (w : Wf F H M) (hx : Rk F M x d) (hy : Rk F M y d) (n : NB 60 d) (q : Q (.bl true) H) : rEqU K x y H Q := n_eq w hx hy n n (by decide) (by decide) (b := true) (by simp) q
theorem n_neT (w : Wf F H M) (hx : Rk F M x d) (hy : Rk F M y d) (n : NB 60 d) (q : Q (.bl false) H) : rNeU K x y H Q := n_ne w hx hy n n (by decide) (by decide) (b := true) (by simp) q
-- isinstance
theorem isi_base {a b : String} {k : Bool} (h : Is H v d) (e : d.tn = some a) (hb : kitB a b = some k) (q : Q (.bl k) H) : rIsiU K [v, .ty b] H Q := s_isi (I := H) (M := []) ⟨fun _ _ e => e, fun _ h => (nomatch h), List.nodup_nil⟩ h e hb q
theorem n_isi {a b : String} {k : Bool} (w : Wf F H M) (h : Rk F M v d) (e : d.tn = some a) (hb : kitB a b = some k) (q : Q (.bl k) H) : rIsiU K [v, .ty b] H Q := isi_base (w.rd h) e hb q
theorem W.self : W H H [] := ⟨fun _ _ e => e, fun _ h => (nomatch h), List.nodup_nil⟩
theorem n_isiO {b : String} {k : Bool} (o : OwnC K C) (w : Wf F H M) (h : Rk F M v (.obj C fs)) (hb : PySem.W.kitOne K (.ref C) (.type b) = some k) (q : Q (.bl k) H) : rIsiU K [v, .ty b] H Q := s_isiO o W.self (w.rd h) hb q
theorem n_isiC {a : String} {k : Bool} (w : Wf F H M) (h : Rk F M v d) (e : d.tn = some a) (hb : PySem.W.kitOne K (.type a) (.ref C) = some k) (q : Q (.bl k) H) : rIsiU K [v, .ref C] H Q := s_isiC W.self (w.rd h) e hb q
theorem n_isiOC {C' : Addr} {k : Bool} (o : OwnC K C) (w : Wf F H M) (h : Rk F M v (.obj C fs)) (hb : PySem.W.kitOne K (.ref C) (.ref C') = some k) (q : Q (.bl k) H) : rIsiU K [v, .ref C'] H Q := s_isiOC o W.self (w.rd h) hb q
-- objects
theorem n_fld (w : Wf F H M) (h : Rk F M v (.obj C fs)) (hc : Cls K C) (hn : ∀ f ∈ L, NoAttr K C f) (hf : f ∈ L) (hd : fs.lookup f = some d) (q : ∀ u, Wf ((u, d) :: F) H M → Q u H) : FldQ K f Q v H := by
  obtain ⟨I, Mc, w, a, hF⟩ := w.ex
  obtain ⟨p, dx, vs, rfl, hp, b⟩ := h.obj w a hF
  obtain ⟨u, e, hu⟩ := b.get hd
  exact ⟨p, C, dx, vs, u, rfl, hp, hc, hn f hf, e, q u ⟨I, Mc, w, a, fun f hf => by
    rcases List.mem_cons.mp hf with rfl | hf
    · exact hu
    · exact hF f hf⟩⟩
theorem n_fldi {n : Int} (w : Wf F H M) (h : Rk F M v (.obj C fs)) (hc : Cls K C) (hn : ∀ f ∈ L, NoAttr K C f) (hf : f ∈ L) (hd : fs.lookup f = some (.int n)) (q : Q (.int n) H) : FldQ K f Q v H := n_fld w h hc hn hf hd fun u w => by rw [w.eq0.1]; exact q
theorem n_fldn (w : Wf F H M) (h : Rk F M v (.obj C fs)) (hc : Cls K C) (hn : ∀ f ∈ L, NoAttr K C f) (hf : f ∈ L) (hd : fs.lookup f = some .non) (q : Q .non H) : FldQ K f Q v H := n_fld w h hc hn hf hd fun u w => by
  obtain ⟨I, Mc, w, a, hF⟩ := w.ex
  cases (hF (u, .non) List.mem_cons_self : Is I u .non).non_eq
  exact q
theorem n_meth {A : Prop} (w : Wf F H M) (h : Rk F M v (.obj C fs)) (hm : m ∉ fs.map (·.1)) (q : A) : MethQ C m v H A := s_methAt W.self (w.rd h) hm q
theorem n_make (w : Wf F H M) (q : ∀ x H', Wf F H' (.mi x C [] :: M) → sp (.ref x :: vs) H' (fun v H2 => v = .non ∧ Q (.ref x) H2) E) : MakeQ C sp E Q vs H := by
  obtain ⟨I, Mc, w, a, hF⟩ := w.ex
  exact s_makeW w fun x dx H' _ w' => q x H' ⟨I, _, w', .cons (.mi .nil) a, hF⟩
def putD (f : Str) (d : D) : List (Str × D) → List (Str × D)
  | [] => [(f, d)]
  | (g, x) :: r => if g = f then (g, d) :: r else (g, x) :: putD f d r
theorem IsF.put {I : Hp} (h : Is I v d) : ∀ {vs : List (Str × V)} {fs : List (Str × D)}, IsF I vs fs → IsF I (putF f v vs) (putD f d fs)
  | _, _, .nil => .cons h .nil
  | _, _, .cons (f := g) h' a => by
    unfold putF putD
    by_cases e : g = f
    · rw [if_pos e, if_pos e]; exact .cons h a
    · rw [if_neg e, if_neg e]; exact .cons h' (IsF.put h a)
theorem IsF.length {I : Hp} : ∀ {vs : List (Str × V)} {fs : List (Str × D)}, IsF I vs fs → vs.length = fs.length
  | _, _, .nil => rfl
  | _, _, .cons _ a => by rw [List.length_cons, List.length_cons, a.length]
theorem n_sf (w : Wf F H M) (fo : Foc M (.mi p C fs) M' (.mi p C (putD f d fs))) (h : Kn F y d) (hc : Cls K C) (hn : ∀ f ∈ L, NoAttr K C f) (hf : f ∈ L) (hg : fs.length < 1000) (q : ∀ H', Wf F H' M' → G.nx σ H') : SfQ K f G σ (.ref p) y H := by
  obtain ⟨I, Mc, w, a, hF⟩ := w.ex
  obtain ⟨M1, m, M2, rfl, h3, h4⟩ := a.foc fo
  cases h3 with
  | mi b =>
    exact ⟨p, C, _, _, rfl, w.at, hc, hn f hf, by rw [b.length]; exact hg, q _ ⟨I, _, w.put, h4 I _ (Same.refl _) (.mi (b.put (h.is hF))), hF⟩⟩
end

/-! ### loops -/
section
variable {K : PySem.W.Frag} {σ : L2.St} {H : Hp} {F : List (V × D)} {M M' : List ME} {Q : VK} {G : Ends} {v : V} {ds : List D} {g : TG} {tb : TS} {te : TE} {tt : TT} {c : TT}
/-- the heap of a loop -/
def LI (R : L2.St → List (V × D) → List ME → Prop) (σ : L2.St) (H : Hp) : Prop := ∃ F M, R σ F M ∧ Wf F H M
theorem n_forL (w : Wf F H M) (R : Nat → L2.St → List (V × D) → List ME → Prop) (hv : ∀ i σ F M, R i σ F M → Rk F M v (.lst ds)) (h0 : R 0 σ F M)
    (step : ∀ i d x σ H F M, ds[i]? = some d → R i σ F M → Wf ((x, d) :: F) H M → g x σ H fun σ2 H2 => tb { G with nx := LI (R (i + 1)), ct := LI (R (i + 1)), bk := G.nx } σ2 H2)
    (fin : ∀ σ H F M, R ds.length σ F M → Wf F H M → G.nx σ H) :
    ∃ a, v = .ref a ∧ (∃ xs, SqL K H a xs) ∧ ∃ W : Nat → Nat → L2.St → Hp → Prop, (∃ m, W 0 m σ H) ∧ ∀ i m σ H, W i m σ H →
      ((Itl K a).stop i H ∧ G.nx σ H) ∨ ((Itl K a).go i H ∧ ∃ N : L2.St → Hp → Prop, (∀ σ' H', N σ' H' → ∃ m', m' < m ∧ W (i + 1) m' σ' H') ∧ ∀ x H', (Itl K a).yld i H x H' → g x σ H' fun σ2 H2 => tb { G with nx := N, ct := N, bk := G.nx } σ2 H2) := by
  have e0 : ∃ a, v = .ref a ∧ ∃ xs, SqL K H a xs := by
    obtain ⟨I, Mc, w, a, hF⟩ := w.ex
    obtain ⟨p, vs, rfl, hp, b⟩ := (hv _ _ _ _ h0).lst w a hF
    exact ⟨p, rfl, vs, .inl (.inl hp)⟩
  obtain ⟨a, rfl, hx⟩ := e0
  refine ⟨a, rfl, hx, fun i m σ H => m = ds.length - i ∧ i ≤ ds.length ∧ LI (R i) σ H, ⟨ds.length, rfl, Nat.zero_le _, F, M, h0, w⟩, ?_⟩
  rintro i m σ H ⟨rfl, hi, F, M, hR, w⟩
  obtain ⟨I, Mc, w1, ac, hF⟩ := w.ex
  obtain ⟨p, vs, e, hp, b⟩ := (hv _ _ _ _ hR).lst w1 ac hF
  cases e
  have hs : SqL K H a vs := .inl (.inl hp)
  by_cases hlt : i < ds.length
  · have hl : i < vs.length := by rw [b.length]; exact hlt
    refine .inr ⟨⟨vs, vs[i], hs, List.getElem?_eq_getElem hl⟩, LI (R (i + 1)), fun σ' H' z => ⟨ds.length - (i + 1), by omega, rfl, hlt, z⟩, fun x H' y => ?_⟩
    obtain ⟨rfl, y⟩ := y
    obtain ⟨d, e1, e2⟩ := b.of (y vs hs)
    refine step i d x σ _ F M e1 hR ⟨I, Mc, w1, ac, fun f hf => ?_⟩
    rcases List.mem_cons.mp hf with rfl | hf
    · exact e2
    · exact hF f hf
  · have e : i = ds.length := by omega
    subst e
    exact .inl ⟨⟨vs, hs, by rw [b.length]; exact Nat.le_refl _⟩, fin σ H F M hR w⟩
theorem n_forT (w : Wf F H M) (R : Nat → L2.St → List (V × D) → List ME → Prop) (hv : ∀ i σ F M, R i σ F M → Rk F M v (.tup ds)) (h0 : R 0 σ F M)
    (step : ∀ i d x σ H F M, ds[i]? = some d → R i σ F M → Wf ((x, d) :: F) H M → g x σ H fun σ2 H2 => tb { G with nx := LI (R (i + 1)), ct := LI (R (i + 1)), bk := G.nx } σ2 H2)
    (fin : ∀ σ H F M, R ds.length σ F M → Wf F H M → G.nx σ H) :
    ∃ a, v = .ref a ∧ (∃ xs, SqT K H a xs) ∧ ∃ W : Nat → Nat → L2.St → Hp → Prop, (∃ m, W 0 m σ H) ∧ ∀ i m σ H, W i m σ H →
      ((Itt K a).stop i H ∧ G.nx σ H) ∨ ((Itt K a).go i H ∧ ∃ N : L2.St → Hp → Prop, (∀ σ' H', N σ' H' → ∃ m', m' < m ∧ W (i + 1) m' σ' H') ∧ ∀ x H', (Itt K a).yld i H x H' → g x σ H' fun σ2 H2 => tb { G with nx := N, ct := N, bk := G.nx } σ2 H2) := by
  have e0 : ∃ a, v = .ref a ∧ ∃ xs, SqT K H a xs := by
    obtain ⟨I, Mc, w, a, hF⟩ := w.ex
    obtain ⟨p, vs, rfl, hp, b⟩ := (hv _ _ _ _ h0).tup w a hF
    exact ⟨p, rfl, vs, .inl (.inl hp)⟩
  obtain ⟨a, rfl, hx⟩ := e0
  refine ⟨a, rfl, hx, fun i m σ H => m = ds.length - i ∧ i ≤ ds.length ∧ LI (R i) σ H, ⟨ds.length, rfl, Nat.zero_le _, F, M, h0, w⟩, ?_⟩
  rintro i m σ H ⟨rfl, hi, F, M, hR, w⟩
  obtain ⟨I, Mc, w1, ac, hF⟩ := w.ex
  obtain ⟨p, vs, e, hp, b⟩ := (hv _ _ _ _ hR).tup w1 ac hF
  cases e
  have hs : SqT K H a vs := .inl (.inl hp)
  by_cases hlt : i < ds.length
  · have hl : i < vs.length := by rw [b.length]; exact hlt
    refine .inr ⟨⟨vs, vs[i], hs, List.getElem?_eq_getElem hl⟩, LI (R (i + 1)), fun σ' H' z => ⟨ds.length - (i + 1), by omega, rfl, hlt, z⟩, fun x H' y => ?_⟩
    obtain ⟨rfl, y⟩ := y
    obtain ⟨d, e1, e2⟩ := b.of (y vs hs)
    refine step i d x σ _ F M e1 hR ⟨I, Mc, w1, ac, fun f hf => ?_⟩
    rcases List.mem_cons.mp hf with rfl | hf
    · exact e2
    · exact hF f hf
  · have e : i = ds.length := by omega
    subst e
    exact .inl ⟨⟨vs, hs, by rw [b.length]; exact Nat.le_refl _⟩, fin σ H F M hR w⟩
theorem n_forR {lo : Int} {n : Nat} (w : Wf F H M) (R : Nat → L2.St → List (V × D) → List ME → Prop) (h0 : R 0 σ F M)
    (step : ∀ i σ H F M, i < n → R i σ F M → Wf F H M → g (.int (lo + i)) σ H fun σ2 H2 => tb { G with nx := LI (R (i + 1)), ct := LI (R (i + 1)), bk := G.nx } σ2 H2)
    (fin : ∀ σ H F M, R n σ F M → Wf F H M → G.nx σ H) :
    ∃ W : Nat → Nat → L2.St → Hp → Prop, (∃ m, W 0 m σ H) ∧ ∀ i m σ H, W i m σ H →
      ((Itr lo n).stop i H ∧ G.nx σ H) ∨ ((Itr lo n).go i H ∧ ∃ N : L2.St → Hp → Prop, (∀ σ' H', N σ' H' → ∃ m', m' < m ∧ W (i + 1) m' σ' H') ∧ ∀ x H', (Itr lo n).yld i H x H' → g x σ H' fun σ2 H2 => tb { G with nx := N, ct := N, bk := G.nx } σ2 H2) :=
  for_range (fun i => LI (R i)) ⟨F, M, h0, w⟩ (fun i σ H hi ⟨F, M, hR, w⟩ => step i σ H F M hi hR w) fun σ H ⟨F, M, hR, w⟩ => fin σ H F M hR w
/-- while, by a measure of the slots -/
theorem n_while (w : Wf F H M) (R : L2.St → List (V × D) → List ME → Prop) (μ : L2.St → Nat) (h0 : R σ F M)
    (step : ∀ σ H F M, R σ F M → Wf F H M → c σ H fun b H1 => if b = true then ∃ N : L2.St → Hp → Prop, (∀ σ' H', N σ' H' → ∃ m', m' < μ σ ∧ m' = μ σ' ∧ LI R σ' H') ∧ tb { G with nx := N, ct := N, bk := G.nx } σ H1 else G.nx σ H1) : tWhile c tb G σ H :=
  s_while (LI R) μ ⟨F, M, h0, w⟩ fun σ H ⟨F, M, hR, w⟩ => step σ H F M hR w
theorem n_wN {R : L2.St → List (V × D) → List ME → Prop} {μ : L2.St → Nat} {m : Nat} {σ1 : L2.St} (h : tb { G with nx := fun σ' H' => LI R σ' H' ∧ μ σ' < m, ct := fun σ' H' => LI R σ' H' ∧ μ σ' < m, bk := G.nx } σ1 H) :
    ∃ N : L2.St → Hp → Prop, (∀ σ' H', N σ' H' → ∃ m', m' < m ∧ m' = μ σ' ∧ LI R σ' H') ∧ tb { G with nx := N, ct := N, bk := G.nx } σ1 H :=
  ⟨_, fun _ _ h => ⟨_, h.2, rfl, h.1⟩, h⟩
/-- comprehensions: what the i-th turn gives is told by P -/
theorem n_lc {J : It} {n : Nat} {Gd : Hp → Prop} {Y : Nat → Hp → V → Hp → Prop} {xs : List Nat} {k : Nat} (wk : Walk J n Gd Y) (w : Wf F H M) (hG : ∀ H' D acc, Wf F H' (.ml D acc :: M) → Gd H') (P : Nat → D → Prop) (hn : n ≤ 100000)
    (hw : ∀ v, wipe ((wipe σ xs).set k (some v)) xs = wipe σ xs)
    (step : ∀ i v D acc H0 H' C, i < n → Wf F H0 (.ml D acc :: M) → Y i H0 v H' → (∀ y d H4, Wf ((y, d) :: F) H4 (.ml D acc :: M) → P i d → C y H4) → te ((wipe σ xs).set k (some v)) H' C)
    (q : ∀ p ds H', ds.length = n → (∀ i d, ds[i]? = some d → P i d) → Wf F H' (.ml p ds :: M) → Q (.ref p) H') : LcGo J (gName k) tYes te xs σ Q H := by
  intro D nD
  have w0 : Wf F (upd H D (.lst [])) (.ml D [] :: M) := by
    obtain ⟨I, Mc, w, a, hF⟩ := w.ex
    exact ⟨I, _, w.newM nD, .cons (.ml .nil) a, hF⟩
  refine lc_it wk (fun i H' => ∃ acc, Wf F H' (.ml D acc :: M) ∧ acc.length = i ∧ ∀ j d, acc[j]? = some d → P j d) ⟨[], w0, rfl, fun j d h => by simp at h⟩ (fun i H' _ ⟨acc, w', _⟩ => hG H' D acc w') ?_ ?_
  · rintro i v H0 H' hi ⟨acc, w', hl, hp⟩ hy
    refine ⟨hw v, ?_⟩
    refine s_yes (iteT (step i v D acc H0 H' _ hi w' hy fun y d H4 w4 hd => ?_))
    obtain ⟨vs, h1, h2⟩ := w4.lstAt List.mem_cons_self
    have w5 : Wf F (upd H4 D (.lst (vs ++ [y]))) (.ml D (acc ++ [d]) :: M) := by
      obtain ⟨I, Mc, w, a, hF⟩ := w4.ex
      cases a with
      | cons h a =>
        cases h with
        | ml b =>
          have := w.at0
          rw [this] at h1
          cases h1
          exact ⟨I, _, w.put0, .cons (.ml (b.app (.one (hF _ List.mem_cons_self)))) a, fun f hf => hF f (List.mem_cons_of_mem _ hf)⟩
    refine ⟨vs, h1, by rw [h2, hl]; exact Nat.lt_of_lt_of_le hi (Nat.le_trans hn (by decide)), acc ++ [d], w5, by rw [List.length_append, hl]; rfl, fun j e h => ?_⟩
    by_cases hj : j < acc.length
    · rw [List.getElem?_append_left hj] at h
      exact hp j e h
    · rw [List.getElem?_append_right (by omega)] at h
      have h3 : j - acc.length = 0 := by
        cases hz : j - acc.length with
        | zero => rfl
        | succ m => rw [hz] at h; simp at h
      rw [h3] at h
      simp at h
      subst h
      have : j = i := by omega
      rw [this]
      exact hd
  · rintro H' ⟨acc, w', hl, hp⟩
    exact q D acc H' hl hp w'
/-- .. over a list -/
theorem n_lcL {xs : List Nat} {k : Nat} (w : Wf F H M) (h : Rk F M v (.lst ds)) (P : Nat → D → Prop) (hn : ds.length ≤ 100000)
    (hw : ∀ v, wipe ((wipe σ xs).set k (some v)) xs = wipe σ xs)
    (step : ∀ i x d D acc H0 C, ds[i]? = some d → Wf ((x, d) :: F) H0 (.ml D acc :: M) → (∀ y d H4, Wf ((y, d) :: F) H4 (.ml D acc :: M) → P i d → C y H4) → te ((wipe σ xs).set k (some x)) H0 C)
    (q : ∀ p es H', es.length = ds.length → (∀ i d, es[i]? = some d → P i d) → Wf F H' (.ml p es :: M) → Q (.ref p) H') :
    ∃ a, v = .ref a ∧ (∃ xs, SqL K H a xs) ∧ LcGo (Itl K a) (gName k) tYes te xs σ Q H := by
  have rk : ∀ D acc, Rk F (.ml D acc :: M) v (.lst ds) := fun D acc => by
    cases h with
    | mem h => exact .mem h
    | ml h => exact .ml (List.mem_cons_of_mem _ h)
  have e0 : ∃ a, v = .ref a ∧ ∃ xs, SqL K H a xs := by
    obtain ⟨I, Mc, w, a, hF⟩ := w.ex
    obtain ⟨p, vs, rfl, hp, b⟩ := h.lst w a hF
    exact ⟨p, rfl, vs, .inl (.inl hp)⟩
  obtain ⟨a, rfl, hx⟩ := e0
  refine ⟨a, rfl, hx, ?_⟩
  have wk : Walk (Itl K a) ds.length (fun H => ∃ D acc, Wf F H (.ml D acc :: M)) (fun i H x H' => H' = H ∧ ∀ xs, SqL K H a xs → xs[i]? = some x) := by
    refine ⟨fun i H hi ⟨D, acc, w⟩ => ?_, fun H ⟨D, acc, w⟩ => ?_, fun i H x H' hi _ y => y⟩
    · obtain ⟨I, Mc, w, ac, hF⟩ := w.ex
      obtain ⟨p, vs, e, hp, b⟩ := (rk D acc).lst w ac hF
      cases e
      have hl : i < vs.length := by rw [b.length]; exact hi
      exact ⟨vs, vs[i], .inl (.inl hp), List.getElem?_eq_getElem hl⟩
    · obtain ⟨I, Mc, w, ac, hF⟩ := w.ex
      obtain ⟨p, vs, e, hp, b⟩ := (rk D acc).lst w ac hF
      cases e
      exact ⟨vs, .inl (.inl hp), by rw [b.length]; exact Nat.le_refl _⟩
  refine n_lc wk w (fun H' D acc w' => ⟨D, acc, w'⟩) P hn hw (fun i x D acc H0 H' C hi w' y k => ?_) q
  obtain ⟨rfl, y⟩ := y
  obtain ⟨I, Mc, w1, ac, hF⟩ := w'.ex
  obtain ⟨p, vs, e, hp, b⟩ := (rk D acc).lst w1 ac hF
  cases e
  obtain ⟨d, e1, e2⟩ := b.of (y vs (.inl (.inl hp)))
  refine step i x d D acc _ C e1 ⟨I, Mc, w1, ac, fun f hf => ?_⟩ k
  rcases List.mem_cons.mp hf with rfl | hf
  · exact e2
  · exact hF f hf
theorem n_lcR {xs : List Nat} {k n : Nat} {lo : Int} (w : Wf F H M) (P : Nat → D → Prop) (hn : n ≤ 100000)
    (hw : ∀ v, wipe ((wipe σ xs).set k (some v)) xs = wipe σ xs)
    (step : ∀ i D acc H0 C, i < n → Wf F H0 (.ml D acc :: M) → (∀ y d H4, Wf ((y, d) :: F) H4 (.ml D acc :: M) → P i d → C y H4) → te ((wipe σ xs).set k (some (.int (lo + i)))) H0 C)
    (q : ∀ p es H', es.length = n → (∀ i d, es[i]? = some d → P i d) → Wf F H' (.ml p es :: M) → Q (.ref p) H') : LcGo (Itr lo n) (gName k) tYes te xs σ Q H :=
  n_lc walk_range w (fun _ _ _ _ => trivial) P hn hw (fun i x D acc H0 H' C hi w' y k => by
    obtain ⟨rfl, rfl⟩ := y
    exact step i D acc _ C hi w' k) q
end
end Fs

namespace Fs
open PySem PySem.Spec PyProof.Rows L2
section
variable {X : Cx} {pos : Pos}
theorem pe_globS {x : Str} {z : Str} (hg : Gl X x) (hm : ∃ t, X.mg x = some (.str z t)) (hd : (x == ("__debug__" : Str)) = false := by decide) : PE X (.Name x pos) (tC (.str z)) := by
  obtain ⟨t, e⟩ := hm
  exact pe_glob hg e ⟨t, rfl⟩ hd
end
section
variable {K : PySem.W.Frag} {σ : L2.St} {H : Hp} {F : List (V × D)} {M M' : List ME} {Q : VK} {G : Ends} {z : Str} {g : TG} {tb : TS} {tk tv : TE}
theorem n_forS (w : Wf F H M) (R : Nat → L2.St → List (V × D) → List ME → Prop) (h0 : R 0 σ F M)
    (step : ∀ i c σ H F M, z.cps.toList[i]? = some c → R i σ F M → Wf F H M → g (.str ⟨#[c]⟩) σ H fun σ2 H2 => tb { G with nx := LI (R (i + 1)), ct := LI (R (i + 1)), bk := G.nx } σ2 H2)
    (fin : ∀ σ H F M, R z.length σ F M → Wf F H M → G.nx σ H) :
    ∃ x, V.str z = .str x ∧ ∃ W : Nat → Nat → L2.St → Hp → Prop, (∃ m, W 0 m σ H) ∧ ∀ i m σ H, W i m σ H →
      ((Its x).stop i H ∧ G.nx σ H) ∨ ((Its x).go i H ∧ ∃ N : L2.St → Hp → Prop, (∀ σ' H', N σ' H' → ∃ m', m' < m ∧ W (i + 1) m' σ' H') ∧ ∀ v H', (Its x).yld i H v H' → g v σ H' fun σ2 H2 => tb { G with nx := N, ct := N, bk := G.nx } σ2 H2) :=
  s_forS (fun i => LI (R i)) ⟨F, M, h0, w⟩ (fun i c σ H hc ⟨F, M, hR, w⟩ => step i c σ H F M hc hR w) fun σ H ⟨F, M, hR, w⟩ => fin σ H F M hR w
/-- a comprehension over a text -/
theorem n_lcS {te : TE} {xs : List Nat} {k : Nat} (w : Wf F H M) (P : Nat → D → Prop) (hn : z.length ≤ 100000)
    (hw : ∀ v, wipe ((wipe σ xs).set k (some v)) xs = wipe σ xs)
    (step : ∀ i c D acc H0 C, z.cps.toList[i]? = some c → Wf F H0 (.ml D acc :: M) → (∀ y d H4, Wf ((y, d) :: F) H4 (.ml D acc :: M) → P i d → C y H4) → te ((wipe σ xs).set k (some (.str ⟨#[c]⟩))) H0 C)
    (q : ∀ p es H', es.length = z.length → (∀ i d, es[i]? = some d → P i d) → Wf F H' (.ml p es :: M) → Q (.ref p) H') :
    ∃ x, V.str z = .str x ∧ LcGo (Its x) (gName k) tYes te xs σ Q H := by
  refine ⟨z, rfl, n_lc walk_str w (fun _ _ _ _ => trivial) P hn hw (fun i x D acc H0 H' C hi w' y k => ?_) q⟩
  obtain ⟨rfl, c, e, rfl⟩ := y
  exact step i c D acc _ C (by rw [Array.getElem?_toList]; exact e) w' k
/-- a displayed dict of one pair -/
def DkQ (Q : VK) (p : Addr) (F : List (V × D)) (M : List ME) (x : V) (H : Hp) : Prop := ∀ H', Wf ((.ref p, .dict) :: F) H' M → Q (.ref p) H'
theorem n_disp1 (w : Wf F H M) (q : ∀ p H', Wf F H' (.raw p (.dK []) :: M) → tk σ H' fun x H1 => tv σ H1 fun y H2 => DispQ Q p x y H2) : tDisp [(tk, tv)] σ H Q := by
  obtain ⟨I, Mc, w, a, hF⟩ := w.ex
  exact s_disp1 w fun p H' _ w' => q p H' ⟨I, _, w', .cons (.raw fun _ e => nomatch e) a, hF⟩
theorem n_dispS {n : Str} {p : Addr} {y : V} (w : Wf F H (.raw p (.dK []) :: M)) (q : ∀ H', Wf ((.ref p, .dict) :: F) H' M → Q (.ref p) H') : DispQ Q p (.str n) y H := by
  obtain ⟨I, Mc, w, a, hF⟩ := w.ex
  cases a with
  | cons h a =>
    cases h
    exact s_dispS w fun J H' s w' h' => q H' ⟨J, _, w', a.mono s, fun f hf => by
      rcases List.mem_cons.mp hf with rfl | hf
      · exact h'
      · exact (hF f hf).mono s⟩
theorem n_dispI {n : Int} {p : Addr} {y : V} (w : Wf F H (.raw p (.dK []) :: M)) (q : ∀ H', Wf ((.ref p, .dict) :: F) H' M → Q (.ref p) H') : DispQ Q p (.int n) y H := by
  obtain ⟨I, Mc, w, a, hF⟩ := w.ex
  cases a with
  | cons h a =>
    cases h
    exact s_dispI w fun J H' s w' h' => q H' ⟨J, _, w', a.mono s, fun f hf => by
      rcases List.mem_cons.mp hf with rfl | hf
      · exact h'
      · exact (hF f hf).mono s⟩
/-- a joined list of signs -/
theorem n_join {p : Addr} {ds : List D} {a : Str} (w : Wf F H M) (h : Rk F M (.ref p) (.lst ds)) (hs : ∀ d ∈ ds, ∃ y : Str, d = .str y ∧ y.length ≤ 1) (hl : ds.length ≤ 1000) (ha : a.length ≤ 1) (q : ∀ z : Str, z.length ≤ 2 * ds.length → Q (.str z) H) : rJoin K (.str a) [.ref p] H Q := by
  obtain ⟨I, Mc, w, ac, hF⟩ := w.ex
  obtain ⟨p', vs, e, hp, b⟩ := h.lst w ac hF
  cases e
  have : ∃ ys : List Str, vs = ys.map V.str ∧ ys.length = ds.length ∧ (ys.map (·.length)).sum ≤ ds.length := by
    clear h hp w hl q
    revert vs
    induction ds with
    | nil => intro vs b; cases b; exact ⟨[], rfl, rfl, by simp⟩
    | cons d ds ih =>
      intro vs b
      cases b with
      | cons h1 b =>
        obtain ⟨y, rfl, hy⟩ := hs d List.mem_cons_self
        obtain ⟨ys, rfl, h3, h4⟩ := ih (fun d hd => hs d (List.mem_cons_of_mem _ hd)) _ b
        rw [h1.str_eq]
        exact ⟨y :: ys, rfl, by simp [h3], by simp only [List.map_cons, List.sum_cons, List.length_cons]; omega⟩
  obtain ⟨ys, rfl, h3, h4⟩ := this
  have h5 : ys.length * a.length ≤ ys.length * 1 := Nat.mul_le_mul_left _ ha
  have h6 := StrLaws.join_length_le a ys
  refine ⟨a, p, ys, rfl, rfl, .inl (.inl (.inl hp)), by omega, q _ ?_⟩
  unfold Txt.join
  rw [StrLaws.glued_eq_join]
  omega
end
end Fs

namespace Fs
open PySem PySem.Spec PyProof.Rows L2
/-! ### what is walked, in one form: the i-th item is known by f -/
structure Src (J : It) (n : Nat) (f : Nat → D) (OK : List (V × D) → List ME → Prop) : Prop where
  go : ∀ i H F M, i < n → OK F M → Wf F H M → J.go i H
  stop : ∀ H F M, OK F M → Wf F H M → J.stop n H
  yld : ∀ i H F M x H', i < n → OK F M → Wf F H M → J.yld i H x H' → Wf ((x, f i) :: F) H' M
section
variable {K : PySem.W.Frag} {σ : L2.St} {H : Hp} {F : List (V × D)} {M M' : List ME} {Q : VK} {G : Ends} {v u x y : V} {ds es : List D} {g : TG} {tb : TS} {te : TE} {tt : TT} {a b : Addr} {J : It} {n : Nat} {f : Nat → D} {OK : List (V × D) → List ME → Prop}
theorem Wf.lstE (w : Wf F H M) (h : Rk F M v (.lst ds)) : ∃ I Mc p vs, v = .ref p ∧ W I H Mc ∧ CnA I M Mc ∧ (∀ f ∈ F, Is I f.1 f.2) ∧ H p = some (.lst vs) ∧ IsA I vs ds := by
  obtain ⟨I, Mc, w, ac, hF⟩ := w.ex
  obtain ⟨p, vs, e, hp, b⟩ := h.lst w ac hF
  exact ⟨I, Mc, p, vs, e, w, ac, hF, hp, b⟩
theorem Wf.cons {I : Hp} {Mc : List (Addr × HO)} {v : V} {d : D} (w : W I H Mc) (ac : CnA I M Mc) (hF : ∀ f ∈ F, Is I f.1 f.2) (h : Is I v d) : Wf ((v, d) :: F) H M := ⟨I, Mc, w, ac, fun f hf => by
  rcases List.mem_cons.mp hf with rfl | hf
  · exact h
  · exact hF f hf⟩
theorem getD_of {i : Nat} {d : D} (h : ds[i]? = some d) : ds.getD i .non = d := by rw [List.getD_eq_getElem?_getD, h]; rfl
theorem src_list : Src (Itl K a) ds.length (fun i => ds.getD i .non) (fun F M => Rk F M (.ref a) (.lst ds)) where
  go := fun i H F M hi ok w => by
    obtain ⟨I, Mc, p, vs, e, w, ac, hF, hp, b⟩ := w.lstE ok
    cases e
    have hl : i < vs.length := by rw [b.length]; exact hi
    exact ⟨vs, vs[i], .inl (.inl hp), List.getElem?_eq_getElem hl⟩
  stop := fun H F M ok w => by
    obtain ⟨I, Mc, p, vs, e, w, ac, hF, hp, b⟩ := w.lstE ok
    cases e
    exact ⟨vs, .inl (.inl hp), by rw [b.length]; exact Nat.le_refl _⟩
  yld := fun i H F M x H' hi ok w y => by
    obtain ⟨I, Mc, p, vs, e, w, ac, hF, hp, b⟩ := w.lstE ok
    cases e
    obtain ⟨rfl, y⟩ := y
    obtain ⟨d, e1, e2⟩ := b.of (y vs (.inl (.inl hp)))
    rw [getD_of e1]
    exact .cons w ac hF e2
theorem src_range {lo : Int} : Src (Itr lo n) n (fun i => .int (lo + i)) (fun _ _ => True) where
  go := fun i H F M hi _ _ => hi
  stop := fun H F M _ _ => Nat.le_refl _
  yld := fun i H F M x H' hi _ w y => by
    obtain ⟨rfl, rfl⟩ := y
    exact w.add (.int _)
theorem Wf.newT {p : Addr} {xs : List V} (w : Wf F H M) (hp : H p = none) (h : ∀ I Mc, W I H Mc → CnA I M Mc → (∀ f ∈ F, Is I f.1 f.2) → IsA I xs ds) : Wf ((.ref p, .tup ds) :: F) (upd H p (.tup xs)) M := by
  obtain ⟨I, Mc, w, ac, hF⟩ := w.ex
  exact .cons (w.newI hp) (ac.mono (w.same hp)) (fun f hf => (hF f hf).mono (w.same hp)) (.tup upd_same ((h I Mc w ac hF).mono (w.same hp)))
theorem src_zip : Src (Itz K a b) (min ds.length es.length) (fun i => .tup [ds.getD i .non, es.getD i .non]) (fun F M => Rk F M (.ref a) (.lst ds) ∧ Rk F M (.ref b) (.lst es)) where
  go := fun i H F M hi ok w => by
    obtain ⟨I, Mc, w, ac, hF⟩ := w.ex
    obtain ⟨p, vs, e, hp, b1⟩ := ok.1.lst w ac hF
    cases e
    obtain ⟨p, us, e, hp2, b2⟩ := ok.2.lst w ac hF
    cases e
    have hl : i < vs.length := by rw [b1.length]; omega
    have hl2 : i < us.length := by rw [b2.length]; omega
    exact ⟨vs, us, vs[i], us[i], .inl (.inl hp), .inl (.inl hp2), List.getElem?_eq_getElem hl, List.getElem?_eq_getElem hl2⟩
  stop := fun H F M ok w => by
    obtain ⟨I, Mc, w, ac, hF⟩ := w.ex
    obtain ⟨p, vs, e, hp, b1⟩ := ok.1.lst w ac hF
    cases e
    obtain ⟨p, us, e, hp2, b2⟩ := ok.2.lst w ac hF
    cases e
    exact ⟨vs, us, .inl (.inl hp), .inl (.inl hp2), by rw [b1.length, b2.length]; omega⟩
  yld := fun i H F M x H' hi ok w y => by
    obtain ⟨T, x, y', rfl, hT, rfl, h1, h2⟩ := y
    refine w.newT hT fun I Mc w ac hF => ?_
    obtain ⟨p, vs, e, hp, b1⟩ := ok.1.lst w ac hF
    cases e
    obtain ⟨p, us, e, hp2, b2⟩ := ok.2.lst w ac hF
    cases e
    obtain ⟨d, e1, f1⟩ := b1.of (h1 vs (.inl (.inl hp)))
    obtain ⟨e', e2, f2⟩ := b2.of (h2 us (.inl (.inl hp2)))
    rw [getD_of e1, getD_of e2]
    exact .cons f1 (.cons f2 .nil)
theorem src_enum : Src (Ite K a) ds.length (fun i => .tup [.int (i : Nat), ds.getD i .non]) (fun F M => Rk F M (.ref a) (.lst ds)) where
  go := fun i H F M hi ok w => by
    obtain ⟨I, Mc, p, vs, e, w, ac, hF, hp, b⟩ := w.lstE ok
    cases e
    have hl : i < vs.length := by rw [b.length]; exact hi
    exact ⟨vs, vs[i], .inl (.inl hp), List.getElem?_eq_getElem hl⟩
  stop := fun H F M ok w => by
    obtain ⟨I, Mc, p, vs, e, w, ac, hF, hp, b⟩ := w.lstE ok
    cases e
    exact ⟨vs, .inl (.inl hp), by rw [b.length]; exact Nat.le_refl _⟩
  yld := fun i H F M x H' hi ok w y => by
    obtain ⟨T, x, rfl, hT, rfl, h1⟩ := y
    refine w.newT hT fun I Mc w ac hF => ?_
    obtain ⟨p, vs, e, hp, b1⟩ := ok.lst w ac hF
    cases e
    obtain ⟨d, e1, f1⟩ := b1.of (h1 vs (.inl (.inl hp)))
    rw [getD_of e1]
    exact .cons (.int _) (.cons f1 .nil)
/-- a for over such -/
theorem n_forJ (S : Src J n f OK) (w : Wf F H M) (R : Nat → L2.St → List (V × D) → List ME → Prop) (hv : ∀ i σ F M, R i σ F M → OK F M) (h0 : R 0 σ F M)
    (step : ∀ i x σ H F M, i < n → R i σ F M → Wf ((x, f i) :: F) H M → g x σ H fun σ2 H2 => tb { G with nx := LI (R (i + 1)), ct := LI (R (i + 1)), bk := G.nx } σ2 H2)
    (fin : ∀ σ H F M, R n σ F M → Wf F H M → G.nx σ H) :
    ∃ W : Nat → Nat → L2.St → Hp → Prop, (∃ m, W 0 m σ H) ∧ ∀ i m σ H, W i m σ H →
      (J.stop i H ∧ G.nx σ H) ∨ (J.go i H ∧ ∃ N : L2.St → Hp → Prop, (∀ σ' H', N σ' H' → ∃ m', m' < m ∧ W (i + 1) m' σ' H') ∧ ∀ x H', J.yld i H x H' → g x σ H' fun σ2 H2 => tb { G with nx := N, ct := N, bk := G.nx } σ2 H2) := by
  refine ⟨fun i m σ H => m = n - i ∧ i ≤ n ∧ LI (R i) σ H, ⟨n, rfl, Nat.zero_le _, F, M, h0, w⟩, ?_⟩
  rintro i m σ H ⟨rfl, hi, F, M, hR, w⟩
  by_cases hlt : i < n
  · exact .inr ⟨S.go i H F M hlt (hv _ _ _ _ hR) w, LI (R (i + 1)), fun σ' H' z => ⟨n - (i + 1), by omega, rfl, hlt, z⟩, fun x H' y => step i x σ H' F M hlt hR (S.yld i H F M x H' hlt (hv _ _ _ _ hR) w y)⟩
  · have e : i = n := by omega
    subst e
    exact .inl ⟨S.stop H F M (hv _ _ _ _ hR) w, fin σ H F M hR w⟩
theorem n_zip (w : Wf F H M) (R : Nat → L2.St → List (V × D) → List ME → Prop) (hv : ∀ i σ F M, R i σ F M → Rk F M v (.lst ds) ∧ Rk F M u (.lst es)) (h0 : R 0 σ F M)
    (step : ∀ i d e x σ H F M, ds[i]? = some d → es[i]? = some e → R i σ F M → Wf ((x, .tup [d, e]) :: F) H M → g x σ H fun σ2 H2 => tb { G with nx := LI (R (i + 1)), ct := LI (R (i + 1)), bk := G.nx } σ2 H2)
    (fin : ∀ σ H F M, R (min ds.length es.length) σ F M → Wf F H M → G.nx σ H) :
    ∃ a b xs ys, [v, u] = [V.ref a, .ref b] ∧ SqL K H a xs ∧ SqL K H b ys ∧ ∃ W : Nat → Nat → L2.St → Hp → Prop, (∃ m, W 0 m σ H) ∧ ∀ i m σ H, W i m σ H →
      ((Itz K a b).stop i H ∧ G.nx σ H) ∨ ((Itz K a b).go i H ∧ ∃ N : L2.St → Hp → Prop, (∀ σ' H', N σ' H' → ∃ m', m' < m ∧ W (i + 1) m' σ' H') ∧ ∀ x H', (Itz K a b).yld i H x H' → g x σ H' fun σ2 H2 => tb { G with nx := N, ct := N, bk := G.nx } σ2 H2) := by
  obtain ⟨I, Mc, w1, ac, hF⟩ := w.ex
  obtain ⟨p, vs, rfl, hp, b1⟩ := (hv _ _ _ _ h0).1.lst w1 ac hF
  obtain ⟨q, us, rfl, hq, b2⟩ := (hv _ _ _ _ h0).2.lst w1 ac hF
  refine ⟨p, q, vs, us, rfl, .inl (.inl hp), .inl (.inl hq), n_forJ src_zip w R hv h0 (fun i x σ H F M hi hR w => ?_) fin⟩
  have h1 : i < ds.length := by omega
  have h2 : i < es.length := by omega
  have e1 : ds[i]? = some ds[i] := List.getElem?_eq_getElem h1
  have e2 : es[i]? = some es[i] := List.getElem?_eq_getElem h2
  rw [getD_of e1, getD_of e2] at w
  exact step i _ _ x σ H F M e1 e2 hR w
theorem s_enum {σ : L2.St} {ta : TA} {R : It → Hp → Prop} (h : ta σ H fun vs H1 => ∃ a xs, vs = [.ref a] ∧ SqL K H1 a xs ∧ R (Ite K a) H1) : iEnum K ta σ H R := h
theorem n_enum (w : Wf F H M) (R : Nat → L2.St → List (V × D) → List ME → Prop) (hv : ∀ i σ F M, R i σ F M → Rk F M v (.lst ds)) (h0 : R 0 σ F M)
    (step : ∀ i d x σ H F M, ds[i]? = some d → R i σ F M → Wf ((x, .tup [.int (i : Nat), d]) :: F) H M → g x σ H fun σ2 H2 => tb { G with nx := LI (R (i + 1)), ct := LI (R (i + 1)), bk := G.nx } σ2 H2)
    (fin : ∀ σ H F M, R ds.length σ F M → Wf F H M → G.nx σ H) :
    ∃ a xs, [v] = [V.ref a] ∧ SqL K H a xs ∧ ∃ W : Nat → Nat → L2.St → Hp → Prop, (∃ m, W 0 m σ H) ∧ ∀ i m σ H, W i m σ H →
      ((Ite K a).stop i H ∧ G.nx σ H) ∨ ((Ite K a).go i H ∧ ∃ N : L2.St → Hp → Prop, (∀ σ' H', N σ' H' → ∃ m', m' < m ∧ W (i + 1) m' σ' H') ∧ ∀ x H', (Ite K a).yld i H x H' → g x σ H' fun σ2 H2 => tb { G with nx := N, ct := N, bk := G.nx } σ2 H2) := by
  obtain ⟨I, Mc, p, vs, rfl, w1, ac, hF, hp, b⟩ := w.lstE (hv _ _ _ _ h0)
  refine ⟨p, vs, rfl, .inl (.inl hp), n_forJ src_enum w R hv h0 (fun i x σ H F M hi hR w => ?_) fin⟩
  have e1 : ds[i]? = some ds[i] := List.getElem?_eq_getElem hi
  rw [getD_of e1] at w
  exact step i _ x σ H F M e1 hR w
/-- any comprehension: acc is what was kept so far -/
theorem n_lcJ {xs : List Nat} (S : Src J n f OK) (w : Wf F H M) (ok : OK F M) (okm : ∀ D acc, OK F M → OK F (.ml D acc :: M)) (R : Nat → List D → Prop) (h0 : R 0 []) (hn : n ≤ 100000)
    (step : ∀ i x D acc H0 (Ap : VK) (Sk : Hp → Prop), i < n → R i acc → Wf ((x, f i) :: F) H0 (.ml D acc :: M) → (∀ y d H4, Wf ((y, d) :: F) H4 (.ml D acc :: M) → R (i + 1) (acc ++ [d]) → Ap y H4) → (∀ H3, Wf F H3 (.ml D acc :: M) → R (i + 1) acc → Sk H3) →
      g x (wipe σ xs) H0 fun σ2 H2 => wipe σ2 xs = wipe σ xs ∧ tt σ2 H2 fun b H3 => if b = true then te σ2 H3 Ap else Sk H3)
    (q : ∀ p es H', R n es → Wf F H' (.ml p es :: M) → Q (.ref p) H') : LcGo J g tt te xs σ Q H := by
  intro D nD
  have w0 : Wf F (upd H D (.lst [])) (.ml D [] :: M) := by
    obtain ⟨I, Mc, w, a, hF⟩ := w.ex
    exact ⟨I, _, w.newM nD, .cons (.ml .nil) a, hF⟩
  refine ⟨fun i m H => m = n - i ∧ i ≤ n ∧ ∃ acc, R i acc ∧ acc.length ≤ i ∧ Wf F H (.ml D acc :: M), ⟨n, rfl, Nat.zero_le _, [], h0, Nat.le_refl _, w0⟩, ?_⟩
  rintro i m H ⟨rfl, hi, acc, hR, hl, w⟩
  by_cases hlt : i < n
  · refine .inr ⟨S.go i H _ _ hlt (okm _ _ ok) w, fun H' => ∃ acc, R (i + 1) acc ∧ acc.length ≤ i + 1 ∧ Wf F H' (.ml D acc :: M), fun H' ⟨acc', h1, h2, h3⟩ => ⟨n - (i + 1), by omega, rfl, hlt, acc', h1, h2, h3⟩, fun x H' y => ?_⟩
    refine step i x D acc H' _ _ hlt hR (S.yld i H _ _ x H' hlt (okm _ _ ok) w y) (fun y d H4 w4 r => ?_) fun H3 w3 r => ⟨acc, r, by omega, w3⟩
    obtain ⟨vs, h1, h2⟩ := w4.lstAt List.mem_cons_self
    have w5 : Wf F (upd H4 D (.lst (vs ++ [y]))) (.ml D (acc ++ [d]) :: M) := by
      obtain ⟨I, Mc, w, a, hF⟩ := w4.ex
      cases a with
      | cons h a =>
        cases h with
        | ml b =>
          have := w.at0
          rw [this] at h1
          cases h1
          exact ⟨I, _, w.put0, .cons (.ml (b.app (.one (hF _ List.mem_cons_self)))) a, fun f hf => hF f (List.mem_cons_of_mem _ hf)⟩
    exact ⟨vs, h1, by rw [h2]; exact Nat.lt_of_le_of_lt hl (Nat.lt_of_lt_of_le hlt (Nat.le_trans hn (by decide))), acc ++ [d], r, by rw [List.length_append]; exact Nat.add_le_add_right hl 1, w5⟩
  · have e : i = n := by omega
    subst e
    exact .inl ⟨S.stop H _ _ (okm _ _ ok) w, q D acc H hR w⟩
theorem Rk.more {e : ME} {d : D} (h : Rk F M v d) : Rk F (e :: M) v d := by
  cases h with
  | mem h => exact .mem h
  | int n => exact .int n
  | bl n => exact .bl n
  | str n => exact .str n
  | non => exact .non
  | ml h => exact .ml (List.mem_cons_of_mem _ h)
  | mi h => exact .mi (List.mem_cons_of_mem _ h)
theorem Rk.moreF {f : V × D} {d : D} (h : Rk F M v d) : Rk (f :: F) M v d := by
  cases h with
  | mem h => exact .mem (List.mem_cons_of_mem _ h)
  | int n => exact .int n
  | bl n => exact .bl n
  | str n => exact .str n
  | non => exact .non
  | ml h => exact .ml h
  | mi h => exact .mi h
/-- .. over a list -/
theorem n_lcG {xs : List Nat} (w : Wf F H M) (h : Rk F M v (.lst ds)) (R : Nat → List D → Prop) (h0 : R 0 []) (hn : ds.length ≤ 100000)
    (step : ∀ i d x D acc H0 (Ap : VK) (Sk : Hp → Prop), ds[i]? = some d → R i acc → Wf ((x, d) :: F) H0 (.ml D acc :: M) → (∀ y d H4, Wf ((y, d) :: F) H4 (.ml D acc :: M) → R (i + 1) (acc ++ [d]) → Ap y H4) → (∀ H3, Wf F H3 (.ml D acc :: M) → R (i + 1) acc → Sk H3) →
      g x (wipe σ xs) H0 fun σ2 H2 => wipe σ2 xs = wipe σ xs ∧ tt σ2 H2 fun b H3 => if b = true then te σ2 H3 Ap else Sk H3)
    (q : ∀ p es H', R ds.length es → Wf F H' (.ml p es :: M) → Q (.ref p) H') : ∃ a, v = .ref a ∧ (∃ xs, SqL K H a xs) ∧ LcGo (Itl K a) g tt te xs σ Q H := by
  obtain ⟨I, Mc, p, vs, rfl, w1, ac, hF, hp, b⟩ := w.lstE h
  refine ⟨p, rfl, ⟨vs, .inl (.inl hp)⟩, n_lcJ src_list w h (fun D acc h => h.more) R h0 hn (fun i x D acc H0 Ap Sk hi hR w k1 k2 => ?_) q⟩
  have e1 : ds[i]? = some ds[i] := List.getElem?_eq_getElem hi
  rw [getD_of e1] at w
  exact step i _ x D acc H0 Ap Sk e1 hR w k1 k2
theorem n_lcZ {xs : List Nat} (w : Wf F H M) (h : Rk F M v (.lst ds)) (h' : Rk F M u (.lst es)) (R : Nat → List D → Prop) (h0 : R 0 []) (hn : ds.length ≤ 100000)
    (step : ∀ i d e x D acc H0 (Ap : VK) (Sk : Hp → Prop), ds[i]? = some d → es[i]? = some e → R i acc → Wf ((x, .tup [d, e]) :: F) H0 (.ml D acc :: M) → (∀ y d H4, Wf ((y, d) :: F) H4 (.ml D acc :: M) → R (i + 1) (acc ++ [d]) → Ap y H4) → (∀ H3, Wf F H3 (.ml D acc :: M) → R (i + 1) acc → Sk H3) →
      g x (wipe σ xs) H0 fun σ2 H2 => wipe σ2 xs = wipe σ xs ∧ tt σ2 H2 fun b H3 => if b = true then te σ2 H3 Ap else Sk H3)
    (q : ∀ p es' H', R (min ds.length es.length) es' → Wf F H' (.ml p es' :: M) → Q (.ref p) H') : ∃ a b xs' ys, [v, u] = [V.ref a, .ref b] ∧ SqL K H a xs' ∧ SqL K H b ys ∧ LcGo (Itz K a b) g tt te xs σ Q H := by
  obtain ⟨I, Mc, w1, ac, hF⟩ := w.ex
  obtain ⟨p, vs, rfl, hp, b1⟩ := h.lst w1 ac hF
  obtain ⟨p', us, rfl, hq, b2⟩ := h'.lst w1 ac hF
  refine ⟨p, p', vs, us, rfl, .inl (.inl hp), .inl (.inl hq), n_lcJ src_zip w ⟨h, h'⟩ (fun D acc h => ⟨h.1.more, h.2.more⟩) R h0 (by omega) (fun i x D acc H0 Ap Sk hi hR w k1 k2 => ?_) q⟩
  have h1 : i < ds.length := by omega
  have h2 : i < es.length := by omega
  have e1 : ds[i]? = some ds[i] := List.getElem?_eq_getElem h1
  have e2 : es[i]? = some es[i] := List.getElem?_eq_getElem h2
  rw [getD_of e1, getD_of e2] at w
  exact step i _ _ x D acc H0 Ap Sk e1 e2 hR w k1 k2
theorem n_lcE {xs : List Nat} (w : Wf F H M) (h : Rk F M v (.lst ds)) (R : Nat → List D → Prop) (h0 : R 0 []) (hn : ds.length ≤ 100000)
    (step : ∀ i d x D acc H0 (Ap : VK) (Sk : Hp → Prop), ds[i]? = some d → R i acc → Wf ((x, .tup [.int (i : Nat), d]) :: F) H0 (.ml D acc :: M) → (∀ y d H4, Wf ((y, d) :: F) H4 (.ml D acc :: M) → R (i + 1) (acc ++ [d]) → Ap y H4) → (∀ H3, Wf F H3 (.ml D acc :: M) → R (i + 1) acc → Sk H3) →
      g x (wipe σ xs) H0 fun σ2 H2 => wipe σ2 xs = wipe σ xs ∧ tt σ2 H2 fun b H3 => if b = true then te σ2 H3 Ap else Sk H3)
    (q : ∀ p es H', R ds.length es → Wf F H' (.ml p es :: M) → Q (.ref p) H') : ∃ a xs', [v] = [V.ref a] ∧ SqL K H a xs' ∧ LcGo (Ite K a) g tt te xs σ Q H := by
  obtain ⟨I, Mc, p, vs, rfl, w1, ac, hF, hp, b⟩ := w.lstE h
  refine ⟨p, vs, rfl, .inl (.inl hp), n_lcJ src_enum w h (fun D acc h => h.more) R h0 hn (fun i x D acc H0 Ap Sk hi hR w k1 k2 => ?_) q⟩
  have e1 : ds[i]? = some ds[i] := List.getElem?_eq_getElem hi
  rw [getD_of e1] at w
  exact step i _ x D acc H0 Ap Sk e1 hR w k1 k2
theorem n_lcN {xs : List Nat} {lo : Int} (w : Wf F H M) (R : Nat → List D → Prop) (h0 : R 0 []) (hn : n ≤ 100000)
    (step : ∀ i D acc H0 (Ap : VK) (Sk : Hp → Prop), i < n → R i acc → Wf F H0 (.ml D acc :: M) → (∀ y d H4, Wf ((y, d) :: F) H4 (.ml D acc :: M) → R (i + 1) (acc ++ [d]) → Ap y H4) → (∀ H3, Wf F H3 (.ml D acc :: M) → R (i + 1) acc → Sk H3) →
      g (.int (lo + i)) (wipe σ xs) H0 fun σ2 H2 => wipe σ2 xs = wipe σ xs ∧ tt σ2 H2 fun b H3 => if b = true then te σ2 H3 Ap else Sk H3)
    (q : ∀ p es H', R n es → Wf F H' (.ml p es :: M) → Q (.ref p) H') : LcGo (Itr lo n) g tt te xs σ Q H :=
  n_lcJ src_range w trivial (fun _ _ _ => trivial) R h0 hn (fun i x D acc H0 Ap Sk hi hR w k1 k2 => by
    have w2 := w.eq0.2
    rw [w.eq0.1]
    exact step i D acc H0 Ap Sk hi hR w2 k1 k2) q
-- ints in lists
theorem Wf.ints {ns : List Int} (w : Wf F H M) (h : Rk F M v (.lst (ns.map D.int))) : ∃ p, v = .ref p ∧ H p = some (.lst (ns.map V.int)) := by
  obtain ⟨I, Mc, p, vs, rfl, w1, ac, hF, hp, b⟩ := w.lstE h
  exact ⟨p, rfl, by rw [hp, b.ints_eq]⟩
theorem n_min {ns : List Int} (w : Wf F H M) (h : Rk F M v (.lst (ns.map D.int))) (h0 : 0 < ns.length) (q : ∀ m, m ∈ ns → (∀ y ∈ ns, m ≤ y) → Q (.int m) H) : rMinU K [v] H Q := by
  obtain ⟨p, rfl, hp⟩ := w.ints h
  exact .inr ⟨p, ns, rfl, .inl (.inl hp), h0, q⟩
theorem n_max {ns : List Int} (w : Wf F H M) (h : Rk F M v (.lst (ns.map D.int))) (h0 : 0 < ns.length) (q : ∀ m, m ∈ ns → (∀ y ∈ ns, y ≤ m) → Q (.int m) H) : rMaxU K [v] H Q := by
  obtain ⟨p, rfl, hp⟩ := w.ints h
  exact .inr ⟨p, ns, rfl, .inl (.inl hp), h0, q⟩
theorem n_sum {ns : List Int} (w : Wf F H M) (h : Rk F M v (.lst (ns.map D.int))) (q : Q (.int ns.sum) H) : rSum K [v] H Q := by
  obtain ⟨p, rfl, hp⟩ := w.ints h
  exact ⟨p, ns, rfl, .inl (.inl hp), q⟩
theorem n_sorted {ns : List Int} (w : Wf F H M) (h : Rk F M v (.lst (ns.map D.int))) (q : ∀ (ms : List Int) p H', ms.Perm ns → ms.Pairwise (· ≤ ·) → Wf F H' (.ml p (ms.map D.int) :: M) → Q (.ref p) H') : rSortedI K [v] H Q := by
  obtain ⟨p, rfl, hp⟩ := w.ints h
  refine ⟨p, ns, rfl, .inl (.inl hp), fun ms p h1 h2 h3 => q ms p _ h1 h2 ?_⟩
  obtain ⟨I, Mc, w, a, hF⟩ := w.ex
  exact ⟨I, _, w.newM h3, .cons (.ml (IsA.ints ms)) a, hF⟩
theorem IsA.flat {I : Hp} {vs : List V} (a : IsA I vs ds) : ∀ n : Nat, IsA I (List.replicate n vs).flatten (List.replicate n ds).flatten
  | 0 => .nil
  | n + 1 => by
    rw [List.replicate_succ, List.replicate_succ, List.flatten_cons, List.flatten_cons]
    exact a.app (IsA.flat a n)
theorem flat_one {α : Type} (x : α) : ∀ n : Nat, (List.replicate n [x]).flatten = List.replicate n x
  | 0 => rfl
  | n + 1 => by rw [List.replicate_succ, List.flatten_cons, flat_one x n]; rfl
theorem n_rep {k : Int} (w : Wf F H M) (h : Rk F M v (.lst ds)) (h1 : -(2 ^ 63) ≤ k) (h2 : k < 2 ^ 63) (hz : ds.length * k.toNat ≤ 100000) (q : ∀ p H', Wf F H' (.ml p (List.replicate k.toNat ds).flatten :: M) → Q (.ref p) H') : rMulU v (.int k) H Q := by
  obtain ⟨I, Mc, p, vs, rfl, w1, ac, hF, hp, b⟩ := w.lstE h
  exact .inr ⟨p, k, vs, rfl, rfl, hp, h1, h2, by rw [b.length]; exact Nat.le_trans hz (by decide), fun l hl => q l _ ⟨I, _, w1.newM hl, .cons (.ml (b.flat _)) ac, hF⟩⟩
/-- [d] * k -/
theorem n_rep1 {k : Int} {d : D} (w : Wf F H M) (h : Rk F M v (.lst [d])) (h1 : 0 ≤ k) (h2 : k ≤ 100000) (q : ∀ p H', Wf F H' (.ml p (List.replicate k.toNat d) :: M) → Q (.ref p) H') : rMulU v (.int k) H Q :=
  n_rep w h (by omega) (by omega) (by rw [List.length_singleton]; omega) fun p H' w => q p H' (by rw [flat_one] at w; exact w)
def rTupOf (K : PySem.W.Frag) : List V → Hp → VK → Prop := fun xs H Q => ∃ p ys, xs = [.ref p] ∧ ((SqL K H p ys ∧ ∀ l, H l = none → Q (.ref l) (upd H l (.tup ys))) ∨ (SqT K H p ys ∧ Q (.ref p) H))
theorem k_tuple {X : Cx} (h : X.K = K) : CallR X (.type "tuple") (rTupOf K) := h ▸ call_tuple_of
theorem n_tupL (w : Wf F H M) (h : Rk F M v (.lst ds)) (q : ∀ p H', Wf ((.ref p, .tup ds) :: F) H' M → Q (.ref p) H') : rTupOf K [v] H Q := by
  obtain ⟨I, Mc, p, vs, rfl, w1, ac, hF, hp, b⟩ := w.lstE h
  exact ⟨p, vs, rfl, .inl ⟨.inl (.inl hp), fun l hl => q l _ (.cons (w1.newI hl) (ac.mono (w1.same hl)) (fun f hf => (hF f hf).mono (w1.same hl)) (.tup upd_same (b.mono (w1.same hl))))⟩⟩
-- dicts with tuples as keys
def keyD : Key → D
  | .inl i => .int i
  | .inr x => .str x
def getP {κ : Type} [DecidableEq κ] (kvs : List (κ × D)) (k : κ) : Option D := (kvs.find? fun kv => decide (kv.1 = k)).map (·.2)
def putP {κ : Type} [DecidableEq κ] (kvs : List (κ × D)) (k : κ) (d : D) : List (κ × D) :=
  if (kvs.any fun kv => decide (kv.1 = k)) = true then kvs.map (fun kv => if kv.1 = k then (kv.1, d) else kv) else kvs ++ [(k, d)]
theorem IsP.length {I : Hp} {κ : Type} : ∀ {vs : List (κ × V)} {ds : List (κ × D)}, IsP I vs ds → vs.length = ds.length
  | _, _, .nil => rfl
  | _, _, .cons _ a => by rw [List.length_cons, List.length_cons, a.length]
theorem IsP.app {I : Hp} {κ : Type} {us : List (κ × V)} {es : List (κ × D)} (b : IsP I us es) : ∀ {vs : List (κ × V)} {ds : List (κ × D)}, IsP I vs ds → IsP I (vs ++ us) (ds ++ es)
  | _, _, .nil => b
  | _, _, .cons h a => .cons h (IsP.app b a)
theorem IsP.get {I : Hp} {κ : Type} [DecidableEq κ] {k : κ} : ∀ {vs : List (κ × V)} {ds : List (κ × D)}, IsP I vs ds → (getP ds k = none ∧ valV vs k = none) ∨ ∃ v d, valV vs k = some v ∧ getP ds k = some d ∧ Is I v d
  | _, _, .nil => .inl ⟨rfl, rfl⟩
  | _, _, .cons (f := f) h a => by
    by_cases e : f = k
    · exact .inr ⟨_, _, by simp [valV, List.find?_cons, e], by simp [getP, List.find?_cons, e], h⟩
    · rcases IsP.get (k := k) a with ⟨h1, h2⟩ | ⟨v, d, h1, h2, h3⟩
      · exact .inl ⟨by simpa [getP, List.find?_cons, e] using h1, by simpa [valV, List.find?_cons, e] using h2⟩
      · exact .inr ⟨v, d, by simpa [valV, List.find?_cons, e] using h1, by simpa [getP, List.find?_cons, e] using h2, h3⟩
theorem IsP.any {I : Hp} {κ : Type} [DecidableEq κ] {k : κ} : ∀ {vs : List (κ × V)} {ds : List (κ × D)}, IsP I vs ds → (vs.any fun kv => decide (kv.1 = k)) = ds.any fun kv => decide (kv.1 = k)
  | _, _, .nil => rfl
  | _, _, .cons h a => by rw [List.any_cons, List.any_cons, IsP.any a]
theorem IsP.mapP {I : Hp} {κ : Type} [DecidableEq κ] {k : κ} {v : V} {d : D} (h : Is I v d) : ∀ {vs : List (κ × V)} {ds : List (κ × D)}, IsP I vs ds → IsP I (vs.map fun kv => if kv.1 = k then (kv.1, v) else kv) (ds.map fun kv => if kv.1 = k then (kv.1, d) else kv)
  | _, _, .nil => .nil
  | _, _, .cons (f := f) h' a => by
    rw [List.map_cons, List.map_cons]
    by_cases e : f = k
    · simp only [e, if_true]; exact .cons h (IsP.mapP h a)
    · simp only [e, if_false]; exact .cons h' (IsP.mapP h a)
theorem IsP.put {I : Hp} {κ : Type} [DecidableEq κ] {k : κ} {v : V} {d : D} (h : Is I v d) {vs : List (κ × V)} {ds : List (κ × D)} (a : IsP I vs ds) : IsP I (putK vs k v) (putP ds k d) := by
  unfold putK putP
  rw [a.any]
  split
  · exact a.mapP h
  · exact IsP.app (.cons h .nil) a
theorem isA_keys {I : Hp} : ∀ {k : List Key} {vs : List V}, IsA I vs (k.map keyD) → vs = k.map kV
  | [], _, h => by cases h; rfl
  | k :: r, _, h => by
    cases h with
    | cons h a =>
      rw [isA_keys a]
      cases k with
      | inl i => rw [h.int_eq]; rfl
      | inr i => rw [h.str_eq]; rfl
def DGetQ (Q : VK) (x y : V) (H : Hp) : Prop := ∃ a v, x = .ref a ∧ DGet H a y (some v) ∧ Q v H
def DInQ (P : Bool → Prop) (x y : V) (H : Hp) : Prop := ∃ a o, x = .ref a ∧ DGet H a y o ∧ P o.isSome
def DPutQ (P : Hp → Prop) (x y v : V) (H : Hp) : Prop := ∃ a H4, x = .ref a ∧ DPut H a y v H4 ∧ P H4
theorem s_dget {td ty : TE} (h : td σ H fun x H1 => ty σ H1 fun y H2 => DGetQ Q x y H2) : tDGet td ty σ H Q := h
theorem s_din {td ty : TE} (h : ty σ H fun y H1 => td σ H1 fun x H2 => DInQ (fun b => Q (.bl b) H2) x y H2) : tDIn ty td σ H Q := h
theorem s_dnotin {td ty : TE} (h : ty σ H fun y H1 => td σ H1 fun x H2 => DInQ (fun b => Q (.bl (!b)) H2) x y H2) : tDNotIn ty td σ H Q := h
theorem s_dput {td ty tv : TE} (h : tv σ H fun v H1 => td σ H1 fun x H2 => ty σ H2 fun y H3 => DPutQ (fun H4 => G.nx σ H4) x y v H3) : sDPut td ty tv G σ H := h
theorem s_dnewT (w : Wf F H M) (q : ∀ p H', Wf F H' (.dt p [] :: M) → Q (.ref p) H') : tDNewT σ H Q := fun p hp => by
  obtain ⟨I, Mc, w, a, hF⟩ := w.ex
  exact q p _ ⟨I, _, w.newM hp, .cons (.dt .nil) a, hF⟩
theorem s_dnewK (w : Wf F H M) (q : ∀ p H', Wf F H' (.dk p [] :: M) → Q (.ref p) H') : tDNewK σ H Q := fun p hp => by
  obtain ⟨I, Mc, w, a, hF⟩ := w.ex
  exact q p _ ⟨I, _, w.newM hp, .cons (.dk .nil) a, hF⟩
theorem Wf.keyT {k : List Key} (w : Wf F H M) (h : Rk F M y (.tup (k.map keyD))) : ∃ b, y = .ref b ∧ H b = some (.tup (k.map kV)) := by
  obtain ⟨I, Mc, w, a, hF⟩ := w.ex
  obtain ⟨p, vs, rfl, hp, b⟩ := h.tup w a hF
  exact ⟨p, rfl, by rw [hp, isA_keys b]⟩
theorem Wf.dtAt {p : Addr} {kvs : List (List Key × D)} (w : Wf F H M) (h : .dt p kvs ∈ M) : ∃ I Mc vs, W I H Mc ∧ CnA I M Mc ∧ (∀ f ∈ F, Is I f.1 f.2) ∧ H p = some (.dT vs) ∧ IsP I vs kvs := by
  obtain ⟨I, Mc, w, a, hF⟩ := w.ex
  obtain ⟨m, h1, h2⟩ := a.mem h
  cases h2 with
  | dt b => exact ⟨I, Mc, _, w, a, hF, (w.mu _ h1).1, b⟩
theorem n_dinT {P : Bool → Prop} {p : Addr} {kvs : List (List Key × D)} {k : List Key} (w : Wf F H M) (h : .dt p kvs ∈ M) (hy : Rk F M y (.tup (k.map keyD))) (q : P (getP kvs k).isSome) : DInQ P (.ref p) y H := by
  obtain ⟨b, rfl, hb⟩ := w.keyT hy
  obtain ⟨I, Mc, vs, w, a, hF, hp, ha⟩ := w.dtAt h
  refine ⟨p, _, rfl, DGet.t hp hb, ?_⟩
  rcases ha.get (k := k) with ⟨h1, h2⟩ | ⟨v, d, h1, h2, h3⟩
  · rw [h2]; rw [h1] at q; exact q
  · rw [h1]; rw [h2] at q; exact q
theorem n_dgetT {p : Addr} {kvs : List (List Key × D)} {k : List Key} {d : D} (w : Wf F H M) (h : .dt p kvs ∈ M) (hy : Rk F M y (.tup (k.map keyD))) (hd : getP kvs k = some d) (q : ∀ u, Wf ((u, d) :: F) H M → Q u H) : DGetQ Q (.ref p) y H := by
  obtain ⟨b, rfl, hb⟩ := w.keyT hy
  obtain ⟨I, Mc, vs, w, a, hF, hp, ha⟩ := w.dtAt h
  rcases ha.get (k := k) with ⟨h1, h2⟩ | ⟨v, d', h1, h2, h3⟩
  · rw [h1] at hd; cases hd
  · rw [h2] at hd; cases hd
    exact ⟨p, v, rfl, h1 ▸ DGet.t hp hb, q v (.cons w a hF h3)⟩
theorem n_dputT {P : Hp → Prop} {p : Addr} {kvs : List (List Key × D)} {k : List Key} {d : D} (w : Wf F H M) (f : Foc M (.dt p kvs) M' (.dt p (putP kvs k d))) (hy : Rk F M y (.tup (k.map keyD))) (hv : Kn F v d) (hl : kvs.length ≤ 100000) (q : ∀ H', Wf F H' M' → P H') : DPutQ P (.ref p) y v H := by
  obtain ⟨b, rfl, hb⟩ := w.keyT hy
  obtain ⟨I, Mc, w, a, hF⟩ := w.ex
  obtain ⟨M1, m, M2, rfl, h3, h4⟩ := a.foc f
  cases h3 with
  | dt ha => exact ⟨p, _, rfl, DPut.t w.at hb (by rw [ha.length]; exact Nat.lt_of_le_of_lt hl (by decide)), q _ ⟨I, _, w.put, h4 I _ (Same.refl _) (.dt (ha.put (hv.is hF))), hF⟩⟩
-- keys are ints and texts
theorem Wf.keyK {k : Key} (w : Wf F H M) (h : Rk F M y (keyD k)) : y = kV k := by
  have := w.rd h
  cases k with
  | inl i => exact this.int_eq
  | inr i => exact this.str_eq
theorem Wf.dkAt {p : Addr} {kvs : List (Key × D)} (w : Wf F H M) (h : .dk p kvs ∈ M) : ∃ I Mc vs, W I H Mc ∧ CnA I M Mc ∧ (∀ f ∈ F, Is I f.1 f.2) ∧ H p = some (.dK vs) ∧ IsP I vs kvs := by
  obtain ⟨I, Mc, w, a, hF⟩ := w.ex
  obtain ⟨m, h1, h2⟩ := a.mem h
  cases h2 with
  | dk b => exact ⟨I, Mc, _, w, a, hF, (w.mu _ h1).1, b⟩
theorem n_dinK {P : Bool → Prop} {p : Addr} {kvs : List (Key × D)} {k : Key} (w : Wf F H M) (h : .dk p kvs ∈ M) (hy : Rk F M y (keyD k)) (q : P (getP kvs k).isSome) : DInQ P (.ref p) y H := by
  cases w.keyK hy
  obtain ⟨I, Mc, vs, w, a, hF, hp, ha⟩ := w.dkAt h
  refine ⟨p, _, rfl, DGet.k hp, ?_⟩
  rcases ha.get (k := k) with ⟨h1, h2⟩ | ⟨v, d, h1, h2, h3⟩
  · rw [h2]; rw [h1] at q; exact q
  · rw [h1]; rw [h2] at q; exact q
theorem n_dgetK {p : Addr} {kvs : List (Key × D)} {k : Key} {d : D} (w : Wf F H M) (h : .dk p kvs ∈ M) (hy : Rk F M y (keyD k)) (hd : getP kvs k = some d) (q : ∀ u, Wf ((u, d) :: F) H M → Q u H) : DGetQ Q (.ref p) y H := by
  cases w.keyK hy
  obtain ⟨I, Mc, vs, w, a, hF, hp, ha⟩ := w.dkAt h
  rcases ha.get (k := k) with ⟨h1, h2⟩ | ⟨v, d', h1, h2, h3⟩
  · rw [h1] at hd; cases hd
  · rw [h2] at hd; cases hd
    exact ⟨p, v, rfl, h1 ▸ DGet.k hp, q v (.cons w a hF h3)⟩
theorem n_dputK {P : Hp → Prop} {p : Addr} {kvs : List (Key × D)} {k : Key} {d : D} (w : Wf F H M) (f : Foc M (.dk p kvs) M' (.dk p (putP kvs k d))) (hy : Rk F M y (keyD k)) (hv : Kn F v d) (hl : kvs.length ≤ 100000) (q : ∀ H', Wf F H' M' → P H') : DPutQ P (.ref p) y v H := by
  cases w.keyK hy
  obtain ⟨I, Mc, w, a, hF⟩ := w.ex
  obtain ⟨M1, m, M2, rfl, h3, h4⟩ := a.foc f
  cases h3 with
  | dk ha => exact ⟨p, _, rfl, DPut.k w.at (by rw [ha.length]; exact Nat.lt_of_le_of_lt hl (by decide)), q _ ⟨I, _, w.put, h4 I _ (Same.refl _) (.dk (ha.put (hv.is hF))), hF⟩⟩
end
theorem hu1 {n : Nat} (h : n + 64 < cLine) : n + 1 < cLine := by omega
theorem k_sorted {X : Cx} {K : PySem.W.Frag} (h : X.K = K) : CallR X (.builtin "sorted") (rSortedI K) := h ▸ cr_sortedI
theorem ps_augLS {X : Cx} {pos : Pos} {o i e : Expr} {to ti te : TE} {tpos : Pos} (ho : PE X o to) (hi : PE X i ti) (he : PE X e te)
    (ha : ∀ ov iv new, augStore i ov iv new = (do holding [new, ov, iv] (setItem ov iv new); release [new, ov, iv] []; pure .next) := by intros; rfl) : PS X (.AugAssign (.Subscript o i tpos) .Sub e pos) (tAugS to ti te (rIxL X.K) (ipI fun i j => i - j) rSetL) :=
  ps_augS ho hi get_list he ip_sub set_list ha
section
variable {K : PySem.W.Frag} {σ : L2.St} {H : Hp} {F : List (V × D)} {M M' : List ME} {Q : VK} {G : Ends} {v u x y : V} {ds es : List D} {tb : TS} {c : TT} {i : Int}
/-- while, by any measure -/
theorem n_whileG (w : Wf F H M) (R : Nat → L2.St → List (V × D) → List ME → Prop) (m : Nat) (h0 : R m σ F M)
    (step : ∀ m σ H F M, R m σ F M → Wf F H M → c σ H fun b H1 => if b = true then ∃ N : L2.St → Hp → Prop, (∀ σ' H', N σ' H' → ∃ m', m' < m ∧ LI (R m') σ' H') ∧ tb { G with nx := N, ct := N, bk := G.nx } σ H1 else G.nx σ H1) : tWhile c tb G σ H :=
  ⟨fun m σ H => LI (R m) σ H, ⟨m, F, M, h0, w⟩, fun m σ H ⟨F, M, hR, w⟩ => step m σ H F M hR w⟩
theorem n_wG {R : Nat → L2.St → List (V × D) → List ME → Prop} {m : Nat} {σ1 : L2.St} (h : tb { G with nx := fun σ' H' => ∃ m', m' < m ∧ LI (R m') σ' H', ct := fun σ' H' => ∃ m', m' < m ∧ LI (R m') σ' H', bk := G.nx } σ1 H) :
    ∃ N : L2.St → Hp → Prop, (∀ σ' H', N σ' H' → ∃ m', m' < m ∧ LI (R m') σ' H') ∧ tb { G with nx := N, ct := N, bk := G.nx } σ1 H := ⟨_, fun _ _ h => h, h⟩
theorem n_ixN {ns : List Int} {j : Nat} (w : Wf F H M) (h : Rk F M v (.lst (ns.map D.int))) (hi : i = (j : Int)) (hj : j < ns.length) (q : Q (.int (ns.getD j 0)) H) : rIx K v (.int i) H Q := by
  subst hi
  refine n_ixInts w h (by omega) (by omega) fun n hn => ?_
  rw [Int.toNat_natCast] at hn
  rw [List.getD_eq_getElem?_getD, hn] at q
  exact q
/-- an item of a list made from another one -/
theorem n_ixM {α : Type} {f : α → D} {l : List α} {z : α} {j : Nat} (w : Wf F H M) (h : Rk F M v (.lst (l.map f))) (hi : i = (j : Int)) (hj : j < l.length) (q : ∀ u, Wf ((u, f (l.getD j z)) :: F) H M → Q u H) : rIx K v (.int i) H Q := by
  subst hi
  refine n_ixAny w h (by omega) (by rw [List.length_map]; omega) fun d u hd w => ?_
  rw [Int.toNat_natCast, List.getElem?_map, List.getElem?_eq_getElem hj] at hd
  cases hd
  have e : l.getD j z = l[j] := by rw [List.getD_eq_getElem?_getD, List.getElem?_eq_getElem hj]; rfl
  rw [← e] at w
  exact q u w
theorem ixN_of {n j : Nat} (h : j < n) : ixN n (j : Int) = some j := by
  have := atI_nat (xs := List.range n) (List.getElem?_range h)
  unfold atI at this
  rw [List.length_range] at this
  cases e : ixN n (j : Int) with
  | none => rw [e] at this; cases this
  | some k =>
    rw [e] at this
    have h2 : (List.range n)[k]? = some j := this
    by_cases hk : k < n
    · rw [List.getElem?_range hk] at h2; exact h2
    · rw [List.getElem?_eq_none (by rw [List.length_range]; omega)] at h2; cases h2
theorem atI_head {α : Type} {x : α} {l : List α} : atI (x :: l) 0 = some x := atI_nat (j := 0) rfl
theorem map_get {α β : Type} {f : α → β} {l : List α} {i : Nat} {d : β} (h : (l.map f)[i]? = some d) : ∃ x, l[i]? = some x ∧ d = f x := by
  rw [List.getElem?_map] at h
  cases e : l[i]? with
  | none => rw [e] at h; cases h
  | some x => rw [e] at h; exact ⟨x, rfl, (Option.some.inj h).symm⟩
theorem Wf.non0 (w : Wf ((v, .non) :: F) H M) : v = .non ∧ Wf F H M := ⟨(w.rd (.mem List.mem_cons_self) : Is H v .non).non_eq, w.tail⟩
theorem Wf.bl0 {b : Bool} (w : Wf ((v, .bl b) :: F) H M) : v = .bl b ∧ Wf F H M := ⟨(w.rd (.mem List.mem_cons_self) : Is H v (.bl b)).bl_eq, w.tail⟩
theorem Wf.str0 {b : Str} (w : Wf ((v, .str b) :: F) H M) : v = .str b ∧ Wf F H M := ⟨(w.rd (.mem List.mem_cons_self) : Is H v (.str b)).str_eq, w.tail⟩
theorem Wf.ref0 {b : Addr} (w : Wf ((v, .ref b) :: F) H M) : v = .ref b ∧ Wf F H M := ⟨(w.rd (.mem List.mem_cons_self) : Is H v (.ref b)).ref_eq, w.tail⟩
theorem Wf.tup0 (w : Wf ((v, .tup ds) :: F) H M) : ∃ p, v = .ref p := by
  obtain ⟨p, _, e, _⟩ := (w.rd (.mem List.mem_cons_self) : Is H v (.tup ds)).tup_ex
  exact ⟨p, e⟩
theorem Wf.lst0 (w : Wf ((v, .lst ds) :: F) H M) : ∃ p, v = .ref p := by
  obtain ⟨p, _, e, _⟩ := (w.rd (.mem List.mem_cons_self) : Is H v (.lst ds)).lst_ex
  exact ⟨p, e⟩
theorem n_gtup4i {gs : TGs} {T : L2.St → Hp → Prop} {a b c : Int} {d3 : D} (w : Wf F H M) (h : Rk F M v (.tup [.int a, .int b, .int c, d3])) (q : ∀ u, Wf ((u, d3) :: F) H M → gs [.int a, .int b, .int c, u] σ H T) : gTup K 4 gs v σ H T :=
  n_gtup4 w h fun x y z u w => by
    rw [w.eq0.1, w.eq0.2.eq0.1, w.eq0.2.eq0.2.eq0.1]
    exact q u w.eq0.2.eq0.2.eq0.2
theorem take_flat {α β : Type} {f : α → List β} {l : List α} {i : Nat} {x : α} (h : l[i]? = some x) : (l.take (i + 1)).flatMap f = (l.take i).flatMap f ++ f x := by
  rw [List.take_add_one, h, List.flatMap_append]
  simp
theorem take_snoc {α : Type} {l : List α} {i : Nat} {x : α} (h : l[i]? = some x) : l.take (i + 1) = l.take i ++ [x] := by
  rw [List.take_add_one, h]
  rfl
end
def oD : Option Int → D
  | none => .non
  | some k => .int k
def oV : Option Int → V
  | none => .non
  | some k => .int k
theorem Kn.oV {F : List (V × D)} (m : Option Int) : Kn F (oV m) (oD m) := by
  cases m with
  | none => exact .non
  | some k => exact .int k
/-- [e for x in xs], e told by f -/
theorem n_lcMap {α : Type} {K : PySem.W.Frag} {σ : L2.St} {H : Hp} {F : List (V × D)} {M : List ME} {Q : VK} {v : V} {te : TE} {xs : List Nat} {k : Nat} {g f : α → D} {l : List α} (w : Wf F H M) (h : Rk F M v (.lst (l.map g))) (hn : l.length ≤ 100000)
    (hw : ∀ v, wipe ((wipe σ xs).set k (some v)) xs = wipe σ xs)
    (step : ∀ x y D acc H0 C, x ∈ l → Wf ((y, g x) :: F) H0 (.ml D acc :: M) → (∀ z H4, Wf ((z, f x) :: F) H4 (.ml D acc :: M) → C z H4) → te ((wipe σ xs).set k (some y)) H0 C)
    (q : ∀ p H', Wf F H' (.ml p (l.map f) :: M) → Q (.ref p) H') :
    ∃ a, v = .ref a ∧ (∃ xs, SqL K H a xs) ∧ LcGo (Itl K a) (gName k) tYes te xs σ Q H := by
  refine n_lcL w h (fun i d => ∃ x, l[i]? = some x ∧ d = f x) (by rw [List.length_map]; exact hn) hw (fun i y d D acc H0 C hd w kc => ?_) fun p es H' hl hP w => ?_
  · obtain ⟨x, hx, rfl⟩ := map_get hd
    exact step x y D acc H0 C (List.mem_of_getElem? hx) w fun z H4 w4 => kc z _ H4 w4 ⟨x, hx, rfl⟩
  · have e : es = l.map f := by
      rw [List.length_map] at hl
      apply List.ext_getElem (by rw [List.length_map]; exact hl)
      intro i h1 h2
      obtain ⟨x, hx, e⟩ := hP i _ (List.getElem?_eq_getElem h1)
      rw [List.getElem_map, e]
      have h3 : i < l.length := by omega
      rw [List.getElem?_eq_getElem h3] at hx
      cases hx
      rfl
    rw [e] at w
    exact q p H' w
theorem n_lcMapI {α : Type} {K : PySem.W.Frag} {σ : L2.St} {H : Hp} {F : List (V × D)} {M : List ME} {Q : VK} {v : V} {te : TE} {xs : List Nat} {k : Nat} {g : α → D} {f : α → Int} {l : List α} (w : Wf F H M) (h : Rk F M v (.lst (l.map g))) (hn : l.length ≤ 100000)
    (hw : ∀ v, wipe ((wipe σ xs).set k (some v)) xs = wipe σ xs)
    (step : ∀ x y D acc H0 C, x ∈ l → Wf ((y, g x) :: F) H0 (.ml D acc :: M) → (∀ H4, Wf F H4 (.ml D acc :: M) → C (.int (f x)) H4) → te ((wipe σ xs).set k (some y)) H0 C)
    (q : ∀ p H', Wf F H' (.ml p ((l.map f).map D.int) :: M) → Q (.ref p) H') :
    ∃ a, v = .ref a ∧ (∃ xs, SqL K H a xs) ∧ LcGo (Itl K a) (gName k) tYes te xs σ Q H :=
  n_lcMap (f := fun x => .int (f x)) w h hn hw (fun x y D acc H0 C hx w kc => step x y D acc H0 C hx w fun H4 w4 => kc _ H4 (w4.add (.int _))) fun p H' w => q p H' (by rw [List.map_map]; exact w)
theorem n_gtup5 {K : PySem.W.Frag} {σ : L2.St} {H : Hp} {F : List (V × D)} {M : List ME} {v : V} {gs : TGs} {T : L2.St → Hp → Prop} {d0 d1 d2 d3 d4 : D} (w : Wf F H M) (h : Rk F M v (.tup [d0, d1, d2, d3, d4])) (q : ∀ x y z u t, Wf ((x, d0) :: (y, d1) :: (z, d2) :: (u, d3) :: (t, d4) :: F) H M → gs [x, y, z, u, t] σ H T) : gTup K 5 gs v σ H T :=
  n_gtup w h rfl fun I Mc xs w a hF b => by
    cases b with | cons h0 b =>
    cases b with | cons h1 b =>
    cases b with | cons h2 b =>
    cases b with | cons h3 b =>
    cases b with | cons h4 b =>
    cases b
    refine q _ _ _ _ _ ⟨I, Mc, w, a, fun f hf => ?_⟩
    rcases List.mem_cons.mp hf with rfl | hf
    · exact h0
    rcases List.mem_cons.mp hf with rfl | hf
    · exact h1
    rcases List.mem_cons.mp hf with rfl | hf
    · exact h2
    rcases List.mem_cons.mp hf with rfl | hf
    · exact h3
    rcases List.mem_cons.mp hf with rfl | hf
    · exact h4
    · exact hF f hf
/-- a row of a part: four ints and a greatest -/
theorem n_gtupRow {K : PySem.W.Frag} {σ : L2.St} {H : Hp} {F : List (V × D)} {M : List ME} {v : V} {gs : TGs} {T : L2.St → Hp → Prop} {b l w s : Int} {g : D} (ww : Wf F H M) (h : Rk F M v (.tup [.int b, .int l, g, .int w, .int s])) (q : ∀ u, Wf ((u, g) :: F) H M → gs [.int b, .int l, u, .int w, .int s] σ H T) : gTup K 5 gs v σ H T :=
  n_gtup5 ww h fun x y z u t w2 => by
    rw [w2.int_eq (v := x) (n := b) (.mem (by simp)), w2.int_eq (v := y) (n := l) (.mem (by simp)), w2.int_eq (v := u) (n := w) (.mem (by simp)), w2.int_eq (v := t) (n := s) (.mem (by simp))]
    exact q z (w2.sub (KS.cons (.mem (by simp)) (KS.drop (KS.drop (KS.drop (KS.drop (KS.drop KS.refl)))))) (.refl _))
end Fs

namespace Fs
open PySem PySem.Spec PyProof.Rows L2
/-! ### defs that may raise -/
structure CalX (P : Program) (w : World) (K : PySem.W.Frag) (mg : Str → Option Value) (base : Heap) (x : Str) (k : Nat) (ps : List Str) (dvs : List V) (sp : Sp) : Prop where
  ex : ∃ (f : Addr) (fd : FuncData) (ds : List Value), FnOk P w K mg base (L2.CX P w) k f fd ps sp ∧ mg x = some (.ref f) ∧ PySem.W.keepIn K (.ref f) = true ∧ Binds K fd ps ds ∧ Vals dvs ds
section
variable {X : Cx} {x : Str} {p pos : Pos} {e : Expr} {es : List Expr} {t : TA} {k : Nat} {ps : List Str} {dvs : List V} {sp : Sp} {W : WX}
theorem pe_calX (c : CalX X.prog X.w X.K X.mg X.base x k ps [] sp) (hr : Room k X.A) (hg : Gl X x) (tk : Takes X W) (ha : PA X (e :: es) t) (hdb : (x == ("__debug__" : Str)) = false := by decide)
    (he : starEach (e :: es) X.env = (false, eval e X.env) :: starEach es X.env := by rfl) (hpl : (backTo pos (starEach es X.env)).any (·.1) = false := by rfl) : PE X (.Call (.Name x p) (e :: es) [] pos) (tCallS sp (WE W) t) := by
  obtain ⟨f, fd, ds, F, hm, hk, hb, hd⟩ := c.ex
  cases hd
  exact pe_callS F hr hg hm hk hb (fun σ => passAt tk σ) ha hdb he hpl
end
section
variable {P : Program} {w : World} {K : PySem.W.Frag} {mg : Str → Option Value} {base : Heap}
theorem _root_.L2.FunD.okX {x qual : Str} {st : Stmt} {dvs : List V} {f : Addr} {fd : FuncData} {N ps : List Str} {k : Nat} {sp : Sp} (F : FunD K x qual (defArgs st) (defBody st) (defScope st) dvs [] f fd) (S : FnScope N ps (defScope st)) (len : ∀ vs H Q E, sp vs H Q E → vs.length = ps.length)
    (hbody : ∀ (cdv : Value) (A : Around) (outer : List Env) (s : Shared) (H : Hp) (vs : List V) (Q : VK) (E : XK), Room k (A.deeper (envOfC qual (defScope st) s.heap.objs.size f cdv)) → sp vs H Q E →
      ∃ t, PSs (cxOf (L2.CX P w) P w K mg base N qual (defScope st) f cdv A outer s H E) (defBody st) t ∧ t { nx := fun _ H' => Q .non H', rt := Q } (start N vs) H) : FnOk P w K mg base (L2.CX P w) (k + 1) f fd ps sp :=
  F.ok S len fun cdv A outer s H vs Q E hr h => hbody cdv A outer s H vs Q E hr h
end
/-- a def that is called with keywords -/
structure CalK (P : Program) (w : World) (K : PySem.W.Frag) (mg : Str → Option Value) (base : Heap) (x : Str) (k : Nat) (ps : List Str) (n : Nat) (ks : List Str) (gV : List V → List V → List V) (sp : Sp) : Prop where
  ex : ∃ (f : Addr) (fd : FuncData) (g : List Value → List Value → List Value), FnOk P w K mg base CX0 k f fd ps sp ∧ mg x = some (.ref f) ∧ PySem.W.keepIn K (.ref f) = true ∧ KBn K fd ps n ks g gV
section
variable {X : Cx} {x : Str} {p pos : Pos} {e : Expr} {es : List Expr} {kws : List Keyword} {t tk : TA} {k n : Nat} {ps ks : List Str} {gV : List V → List V → List V} {sp : Sp}
theorem pe_calK (c : CalK X.prog X.w X.K X.mg X.base x k ps n ks gV sp) (hr : Room k X.A) (hg : Gl X x) (ha : PA X (e :: es) t) (hkw : PK X kws tk)
    (hall : (backToKw pos (keywordEach kws X.env)).all (·.1.isSome) = true := by rfl) (hks : (backToKw pos (keywordEach kws X.env)).filterMap (·.1) = ks := by rfl) (hdb : (x == ("__debug__" : Str)) = false := by decide)
    (he : starEach (e :: es) X.env = (false, eval e X.env) :: starEach es X.env := by rfl) (hpl : ((backTo pos (starEach (e :: es) X.env)).any (·.1) || (backToKw pos (keywordEach kws X.env)).any (·.1.isNone)) = false := by rfl) :
    PE X (.Call (.Name x p) (e :: es) kws pos) (tCallN n ks.length sp gV E0 t tk) := by
  obtain ⟨f, fd, g, F, hm, hk, hb⟩ := c.ex
  exact pe_callN F hr hg hm hk hb pass0 ha hkw hall hks hdb he hpl
end
theorem s_callN {sp : Sp} {n m : Nat} {gV : List V → List V → List V} {E : XK} {tA tK : TA} {σ : L2.St} {H : Hp} {Q : VK} (h : tA σ H fun vs H1 => tK σ H1 fun zs H2 => vs.length = n ∧ zs.length = m ∧ sp (gV vs zs) H2 Q E) : tCallN n m sp gV E tA tK σ H Q := h
theorem s_callS {sp : Sp} {E : L2.St → XK} {t : TA} {σ : L2.St} {H : Hp} {Q : VK} (h : t σ H fun vs H1 => sp vs H1 Q (E σ)) : tCallS sp E t σ H Q := h
/-- an exception of the class C comes to 'except x as n' -/
theorem s_caught {K : PySem.W.Frag} {cls c : Value} {i : Nat} {ts : Addr → Value → Option Addr → TS} {D : Ends} {d : Option Addr} {σ : L2.St} {H : Hp} (e : PySem.W.exmOne K cls c = some true)
    (h : ∀ a, H a = none → ts a cls d { nx := fun σ' H' => D.nx (σ'.set i none) H', rt := D.rt, bk := fun σ' H' => D.bk (σ'.set i none) H', ct := fun σ' H' => D.ct (σ'.set i none) H' } (σ.set i (some (.ref a))) H) :
    WE (wAs K c i ts (fun _ _ _ _ => False) D) σ cls d H := ⟨true, e, fun _ a ha => h a ha, fun q => nomatch q⟩
/-! ### own error classes -/
/-- an own error class that is raised with a text -/
structure ErrC (K : PySem.W.Frag) (mg : Str → Option Value) (x : Str) (C : Addr) : Prop where
  g : mg x = some (.ref C)
  q : PySem.W.excIn K C HandSPX.veTail "ValueError.__new__" = true
  kp : PySem.W.keepIn K (.ref C) = true
  ex : PySem.W.subIn K (.ref C) (.type "BaseException") = some true
  ty : PySem.W.typeIn K (.ref C) = some (.type "type")
theorem ps_raiseC {X : Cx} {W : WX} {x m : Str} {C : Addr} {j : Nat} {p p2 pos pos2 : Pos} (c : ErrC X.K X.mg x C) (hc : X.calm = true) (tk : Takes X W) (hg : Gl X x) (hdb : (x == ("__debug__" : Str)) = false := by decide) :
    PS X (.Raise (some (.Call (.Name x p) [.Constant (.str m) j p2] [] pos)) none pos2) (fun _ σ H => W (.ref C) none σ H) :=
  ps_raise hc tk (pmk_own PySem.F.excBase_ValueError c.q c.g c.kp (raises_own c.ex c.ty) hg hdb)
section
variable {X : Cx} {C : Addr} {bmB : List Value} {B newId initId : String}
theorem pmk_own0 {x : Str} {p pos : Pos} (F : ExcBaseFacts B newId initId bmB) (q : PySem.W.excIn X.K C bmB newId = true) (gC : X.mg x = some (.ref C)) (kC : PySem.W.keepIn X.K (.ref C) = true) (r : Raises X (.ref C)) (hg : Gl X x)
    (hdb : (x == ("__debug__" : Str)) = false := by decide) : PMk X (.Call (.Name x p) [] [] pos) (fun _ H Q => Q (.ref C) none H) := by
  intro pins s σ H Q I h
  refine wpAny_Call_Name_kw (ld_glob I hg gC ?_ hdb)
  refine PySem.W.callWith_K0 I.kIn kC ?_
  show wpAny _ _ (call (.ref C) []) _ _ _
  obtain ⟨bm, N, nm, qn, bs, hdct, sn, sub, ab, col, dd, k0, k1, k2, k3, k5, mN, hC, hN, hni, T⟩ := exc_obj I.kIn q
  refine wpAny_call_exc_subT F T hC hN hni (fun h' e hm => ?_) (by show 0 ≤ sizeLine; omega)
  exact mk_of I hm r h (I.hok.gone hm.new)
theorem ps_raiseC0 {W : WX} {x : Str} {p pos pos2 : Pos} (c : ErrC X.K X.mg x C) (hc : X.calm = true) (tk : Takes X W) (hg : Gl X x) (hdb : (x == ("__debug__" : Str)) = false := by decide) :
    PS X (.Raise (some (.Call (.Name x p) [] [] pos)) none pos2) (fun _ σ H => W (.ref C) none σ H) :=
  ps_raise hc tk (pmk_own0 PySem.F.excBase_ValueError c.q c.g c.kp (raises_own c.ex c.ty) hg hdb)
end
/-! ### own error classes with a field -/
/-- what an __init__ of such a class leaves -/
def sp_xinit (C : Addr) (f : Str) : Sp := fun vs H Q _ => ∃ a v, vs = [.ref a, v] ∧ H a = some (exo a C none) ∧ ∀ dx, H dx = none → dx ≠ a → Q .non (upd (upd H dx (exd dx [(f, v)])) a (exo a C (some dx)))
structure ErrB (K : PySem.W.Frag) (mg : Str → Option Value) (x : Str) (B : Addr) : Prop where
  g : mg x = some (.ref B)
  sp : PySem.W.specialIn K (.ref B) "__getattribute__" = some (some (.builtin "type.__getattribute__"))
  rd : PySem.W.readsIn K B (.type "type") = true
  at_ : PySem.W.findCls K (.ref B) (.type "type") "__init__" = some (.val (.builtin "ValueError.__init__"))
section
variable {X : Cx} {o e : Expr} {es : List Expr} {to te : TE} {ta : TA} {x f : Str} {p p' p1 p2 pos : Pos} {C B : Addr}
theorem pe_clinit {pl : Sem Bool} (b : ErrB X.K X.mg x B) (hg : Gl X x) (ha : PA X (e :: es) ta) (hdb : (x == ("__debug__" : Str)) = false := by decide)
    (hc : eval (.Call (.Attribute (.Name x p1) "__init__" p2) (e :: es) [] pos) X.env = (do
      let ov ← eval (.Name x p1) X.env
      standAt p2.atName
      let (f, first) ← holding [ov] (getMethod ov "__init__" pl)
      callWith pos f first (backTo pos (starEach (e :: es) X.env)) (backToKw pos (keywordEach [] X.env))) := by rfl)
    (he : starEach (e :: es) X.env = (false, eval e X.env) :: starEach es X.env := by rfl) (hpl : (backTo pos (starEach es X.env)).any (·.1) = false := by rfl) :
    PE X (.Call (.Attribute (.Name x p1) "__init__" p2) (e :: es) [] pos) (tVeI X.K ta) := by
  refine ⟨fun pins s σ H Q I h => ?_⟩
  refine PySem.W.methodCall_KW (ld_glob I hg b.g ?_ hdb) hc
  refine PySem.W.method_cls I.kIn b.sp (PySem.W.cls_value I.kIn b.rd b.at_ (by decide +kernel) ?_)
  show wpAny _ _ (callWith pos (Value.builtin "ValueError.__init__") [] (backTo pos (starEach (e :: es) X.env)) []) _ _ _
  refine PyProof.Rows.callWith_method1 (thn (ha.run pos pins _ σ H _ (I.tok _) h) fun us s1 ⟨vs, H1, I1, r1, a, C, ws, ev, hl, T, ea, q⟩ => ?_) he hpl
  subst ev
  cases r1 with
  | @cons _ u0 _ ur ra rw' =>
    obtain rfl : u0 = Value.ref a := ra
    have hlen : ur.length ≤ sizeLine := by
      rw [← Paired.length rw', sizeLine_eq]
      omega
    exact oinit_ok T I1 ea hlen fun s' J => ⟨.non, H1, J, rfl, q⟩
end
structure ErrI (P : Program) (w : World) (K : PySem.W.Frag) (mg : Str → Option Value) (base : Heap) (x : Str) (C : Addr) (k : Nat) (ps : List Str) (f : Str) : Prop where
  T : OexC K C
  g : mg x = some (.ref C)
  ex : ∃ (fI : Addr) (fd : FuncData), PySem.W.findIn K (.ref C) "__init__" = some (some (.ref fI)) ∧ PySem.W.typeIn K (.ref fI) = some (.type "function") ∧ FnOk P w K mg base CX0 k fI fd ps (sp_xinit C f) ∧ Binds K fd ps []
section
variable {X : Cx} {e : Expr} {ta : TA} {x f : Str} {p pos pos2 : Pos} {C : Addr} {k : Nat} {ps : List Str} {W : WX}
theorem ps_raiseI (c : ErrI X.prog X.w X.K X.mg X.base x C k ps f) (hr : Room (k + 1) X.A) (hc : X.calm = true) (tk : Takes X W) (hg : Gl X x) (ha : PA X [e] ta) (hdb : (x == ("__debug__" : Str)) = false := by decide)
    (he : starEach (e :: []) X.env = (false, eval e X.env) :: starEach [] X.env := by rfl) (hpl : (backTo pos (starEach [] X.env)).any (·.1) = false := by rfl) :
    PS X (.Raise (some (.Call (.Name x p) [e] [] pos)) none pos2) (fun _ σ H => tMkO C (sp_xinit C f) [] ta σ H fun cls d H' => W cls d σ H') := by
  obtain ⟨fI, fd, h1, h2, F, hb⟩ := c.ex
  exact ps_raise hc tk (pmk_oex c.T h1 h2 F hr hb .nil (fun _ _ _ _ _ _ _ z => False.elim z) hg c.g ha hdb he hpl)
end
section
variable {K : PySem.W.Frag} {σ : L2.St} {H : Hp} {C : Addr} {f : Str} {v : V} {Q : XK} {sp : Sp} {tA : TA}
theorem s_mkO0 {dvs : List V} (h : tA σ H fun vs H1 => vs.length ≤ 1000 ∧ ∀ a, H1 a = none → sp (.ref a :: (vs ++ dvs)) (upd H1 a (exo a C none))
  (fun v H2 => v = .non ∧ ∃ (d : Addr) (fs : List (Str × V)), H2 a = some (exo a C (some d)) ∧ H2 d = some (exd d fs) ∧ H1 d = none ∧ Q (.ref C) (some d) (upd (del H2 a) d (.xd fs))) (fun _ _ _ => False)) : tMkO C sp dvs tA σ H Q := h
theorem s_mkO (q : ∀ d, H d = none → Q (.ref C) (some d) (upd H d (.xd [(f, v)]))) : [v].length ≤ 1000 ∧ ∀ a, H a = none → sp_xinit C f (.ref a :: ([v] ++ [])) (upd H a (exo a C none))
  (fun v H2 => v = .non ∧ ∃ (d : Addr) (fs : List (Str × V)), H2 a = some (exo a C (some d)) ∧ H2 d = some (exd d fs) ∧ H d = none ∧ Q (.ref C) (some d) (upd (del H2 a) d (.xd fs))) (fun _ _ _ => False) := by
  refine ⟨by simp, fun a ha => ⟨a, v, rfl, upd_same, fun dx hd ne => ⟨rfl, dx, [(f, v)], upd_same, ?_, ?_, ?_⟩⟩⟩
  · rw [upd_ne ne, upd_same]
  · rw [upd_ne ne] at hd
    exact hd
  · rw [upd_ne ne] at hd
    have e : upd (del (upd (upd (upd H a (exo a C none)) dx (exd dx [(f, v)])) a (exo a C (some dx))) a) dx (.xd [(f, v)]) = upd H dx (.xd [(f, v)]) := by
      funext b
      by_cases hb : b = dx
      · subst hb
        rw [upd_same, upd_same]
      · rw [upd_ne hb, upd_ne hb]
        by_cases ha' : b = a
        · subst ha'
          rw [del_same, ha]
        · rw [del_ne ha', upd_ne ha', upd_ne hb, upd_ne ha']
    rw [e]
    exact q dx hd
end
section
variable {K : PySem.W.Frag} {σ : L2.St} {H : Hp} {Q : VK} {G : Ends} {ta : TA} {to te : TE} {f : Str}
theorem s_veI (h : ta σ H fun vs H1 => ∃ (a C : Addr) (ws : List V), vs = .ref a :: ws ∧ ws.length ≤ 1000 ∧ OexC K C ∧ H1 a = some (exo a C none) ∧ Q .non H1) : tVeI K ta σ H Q := h
theorem s_ost (h : te σ H fun y H1 => to σ H1 fun x H2 => ∃ a C : Addr, x = .ref a ∧ OexC K C ∧ PySem.W.findIn K (.ref C) f = some none ∧
  ((H2 a = some (exo a C none) ∧ ∀ dx, H2 dx = none → dx ≠ a → G.nx σ (upd (upd H2 dx (exd dx [(f, y)])) a (exo a C (some dx)))) ∨
    ∃ (dx : Addr) (fs : List (Str × V)), H2 a = some (exo a C (some dx)) ∧ H2 dx = some (exd dx fs) ∧ fs.length ≤ 900 ∧ G.nx σ (upd H2 dx (exd dx ((f, y) :: fs))))) : tOst K f to te G σ H := h
end
/-- e.f, e the error that the suite holds -/
def tXf (K : PySem.W.Frag) (a : Addr) (cls : Value) (d : Option Addr) (f : Str) (te : TE) : TE := fun σ H Q => te σ H fun x H1 => x = .ref a ∧ ∃ (C dd : Addr) (fs : List (Str × V)) (v : V), cls = .ref C ∧ d = some dd ∧ H1 dd = some (.xd fs) ∧ fs.lookup f = some v ∧
  ExcC K C ∧ PySem.W.findIn K (.ref C) f = some none ∧ Q v H1
theorem s_xf {K : PySem.W.Frag} {σ : L2.St} {H : Hp} {Q : VK} {a : Addr} {cls : Value} {d : Option Addr} {f : Str} {te : TE} (h : te σ H fun x H1 => x = .ref a ∧ ∃ (C dd : Addr) (fs : List (Str × V)) (v : V), cls = .ref C ∧ d = some dd ∧ H1 dd = some (.xd fs) ∧ fs.lookup f = some v ∧
  ExcC K C ∧ PySem.W.findIn K (.ref C) f = some none ∧ Q v H1) : tXf K a cls d f te σ H Q := h
theorem pe_xfld {X : Cx} {f : Str} {a : Addr} {oe : Obj} {cls : Value} {d : Option Addr} {pn : List (Addr × Obj)} {e : Expr} {te : TE} {pos : Pos} (hz : Zc cls d oe) (hf : ∃ vs, oe.data = .fields vs) (he : PE (X.suite a ((a, oe) :: pn)) e te)
    (hb : attributeBase e f X.env (eval e X.env) = eval e X.env := by rfl) :
    PE (X.suite a ((a, oe) :: pn)) (.Attribute e f pos) (tXf X.K a cls d f te) := by
  refine ⟨fun pins s σ H Q I h => ?_⟩
  refine attr_of hb (thn (he.run pins s σ H _ I h) fun u s1 hh => ?_)
  obtain ⟨x, H1, I1, rx, ex, C, dd, fs, v, ec, ed, ea, l, T, hno, q⟩ := hh
  subst ex
  obtain rfl : u = Value.ref a := rx
  subst ec
  subst ed
  obtain ⟨ha, _⟩ := I1.pin (a, oe) (List.mem_append_left _ List.mem_cons_self)
  obtain ⟨vs, hd⟩ := hf
  have hx : ObjOk X.prog X.w H1 s1.heap dd (.xd fs) := I1.hok dd _ ea
  obtain ⟨mA, hns, hr⟩ := hx
  obtain ⟨od, ho, hl⟩ := lookIn_ns hns
  obtain ⟨u, hu, ru⟩ := RelO.some_of (v := v) (o := mA f) (by rw [← l]; exact hr f)
  have J : PySem.W.InstAt s1.heap a oe C (some od) := ⟨ha, hz.1, by unfold PySem.W.notCls; rw [hd] <;> rfl, by rw [hz.2]; exact ho⟩
  exact HandSPX.exc_get I1.kIn J T.hg T.hk T.hs (PySem.W.findObj_own T.hd hno rfl (by rw [hl, hu])) (handed_of ru) ⟨v, H1, I1.tok _, ru, q⟩
/-! ### isinstance of the error that a suite holds -/
def isOne (K : PySem.W.Frag) (D : Addr) (c : V) (b : Bool) : Prop := ∃ cv, (∀ u, RelV c u → u = cv) ∧ PySem.W.kitOne K (.ref D) cv = some b
def rIsX (K : PySem.W.Frag) (a : Addr) (cls : Value) (d : Option Addr) : List V → Hp → VK → Prop := fun xs H Q => ∃ (D : Addr) (c : V) (b : Bool), xs = [.ref a, c] ∧ cls = .ref D ∧ ExcC K D ∧
  (d = none ∨ ∃ dd fs, d = some dd ∧ H dd = some (.xd fs)) ∧
  (isOne K D c b ∨ ∃ tp vs, ∃ cvs : List Value, c = .ref tp ∧ SqT K H tp vs ∧ (∀ us, Vals vs us → us = cvs) ∧ PySem.W.kitAny K (.ref D) cvs = some b) ∧ Q (.bl b) H
theorem call_isX {X : Cx} {a : Addr} {oe : Obj} {cls : Value} {d : Option Addr} {pn : List (Addr × Obj)} (hz : Zc cls d oe) (hf : ∃ vs, oe.data = .fields vs) : CallR (X.suite a ((a, oe) :: pn)) (.builtin "isinstance") (rIsX X.K a cls d) := by
  intro pins s σ H xs us Q I r h
  obtain ⟨D, c, b, rfl, rfl, C, hd, hc, q⟩ := h
  cases r with
  | cons rx rr =>
    cases rr with
    | cons rt rr =>
      cases rr
      cases rx
      obtain ⟨hget, _⟩ := I.pin (a, oe) (List.mem_append.mpr (.inl List.mem_cons_self))
      obtain ⟨vs, hv⟩ := hf
      have J : ∃ od, PySem.W.InstAt s.heap a oe D od := by
        rcases hd with rfl | ⟨dd, fs, rfl, hx⟩
        · obtain ⟨oc, od, oda, osl⟩ := oe
          obtain ⟨h1, h2⟩ := hz
          dsimp only at h1 h2 hv
          subst h1 h2 hv
          exact ⟨none, hget, rfl, rfl, trivial⟩
        · have hx' := I.hok dd _ hx
          obtain ⟨mA, hns, hr⟩ := hx'
          obtain ⟨od, ho, hl⟩ := lookIn_ns hns
          exact ⟨some od, hget, hz.1, by unfold PySem.W.notCls; rw [hv] <;> rfl, by rw [hz.2]; exact ho⟩
      obtain ⟨od, J⟩ := J
      have Z := PySem.W.kitx_exc (K := X.K) (x := a) (ox := oe) (od := od) (C := D) (by obtain ⟨cd, hc, _⟩ := PySem.W.any_some C.hd; rw [hc]; rfl) C.hg C.hk C.hs C.ha C.hn C.ht C.hm
      rcases hc with ⟨cv, hcv, e⟩ | ⟨tp, ts, cvs, rfl, hq, hcs, e⟩
      · have ec := hcv _ rt
        subst ec
        exact PySem.W.kia_one Z I.kIn J e (fun z => nomatch z) fun tk => ⟨.bl b, H, I.kept (t' := tk) fun _ _ z => z, rfl, q⟩
      · cases rt
        obtain ⟨its, rv, ⟨o, ho, hc, n, hd'⟩, _⟩ := I.tuple hq
        have ec := hcs _ rv
        subst ec
        obtain ⟨oc, od', oda, osl⟩ := o
        dsimp only at hc hd'
        subst hc hd'
        exact PySem.W.kia_tup Z I.kIn J ho e (fun z => nomatch z) fun tk => ⟨.bl b, H, I.kept (t' := tk) fun _ _ z => z, rfl, q⟩
section
variable {K : PySem.W.Frag} {H : Hp} {F : List (V × D)} {M : List ME} {Q : VK} {v : V} {a C D : Addr} {b : Bool}
theorem isOne_ref (h : PySem.W.kitOne K (.ref D) (.ref C) = some b) : isOne K D (.ref C) b := ⟨.ref C, fun u r => r, h⟩
theorem isOne_ty {n : String} (h : PySem.W.kitOne K (.ref D) (.type n) = some b) : isOne K D (.ty n) b := ⟨.type n, fun u r => r, h⟩
theorem n_isX {c : V} (C : ExcC K D) (h : isOne K D c b) (q : Q (.bl b) H) : rIsX K a (.ref D) none [.ref a, c] H Q := ⟨D, c, b, rfl, rfl, C, .inl rfl, .inl h, q⟩
theorem n_isXd {c : V} {dd : Addr} {fs : List (Str × V)} (C : ExcC K D) (hd : H dd = some (.xd fs)) (h : isOne K D c b) (q : Q (.bl b) H) : rIsX K a (.ref D) (some dd) [.ref a, c] H Q := ⟨D, c, b, rfl, rfl, C, .inr ⟨dd, fs, rfl, hd⟩, .inl h, q⟩
theorem isA_refs {I : Hp} : ∀ {cs : List Addr} {vs : List V}, IsA I vs (cs.map Fs.D.ref) → vs = cs.map V.ref
  | [], _, h => by cases h; rfl
  | c :: cs, _, h => by
    cases h with
    | cons h1 h2 =>
      cases h1
      rw [isA_refs h2]
      rfl
theorem vals_refs : ∀ {cs : List Addr} {us : List Value}, Vals (cs.map V.ref) us → us = cs.map Value.ref
  | [], _, h => by cases h; rfl
  | c :: cs, _, h => by
    cases h with
    | cons h1 h2 =>
      have e : _ = Value.ref c := h1
      rw [vals_refs h2, e]
      rfl
theorem n_isXT {cs : List Addr} (w : Wf F H M) (ht : Rk F M v (.tup (cs.map Fs.D.ref))) (C : ExcC K D) (h : PySem.W.kitAny K (.ref D) (cs.map Value.ref) = some b) (q : Q (.bl b) H) : rIsX K a (.ref D) none [.ref a, v] H Q := by
  obtain ⟨I, Mc, w, ac, hF⟩ := w.ex
  obtain ⟨p, vs, rfl, hp, ha⟩ := ht.tup w ac hF
  have e := isA_refs ha
  subst e
  exact ⟨D, .ref p, b, rfl, rfl, C, .inl rfl, .inr ⟨p, _, _, rfl, .inl (.inl hp), fun us h => vals_refs h, h⟩, q⟩
theorem s_isXT {I : Hp} {M : List (Addr × HO)} {cs : List Addr} (w : W I H M) (ht : Is I v (.tup (cs.map Fs.D.ref))) (C : ExcC K D) (h : PySem.W.kitAny K (.ref D) (cs.map Value.ref) = some b) (q : Q (.bl b) H) : rIsX K a (.ref D) none [.ref a, v] H Q := by
  obtain ⟨p, vs, rfl, hp, ha⟩ := ht.tup_ex
  have e := isA_refs ha
  subst e
  exact ⟨D, .ref p, b, rfl, rfl, C, .inl rfl, .inr ⟨p, _, _, rfl, .inl (.inl (w.imm _ _ hp)), fun us h => vals_refs h, h⟩, q⟩
theorem isA_ofRefs {I : Hp} : ∀ (cs : List Addr), IsA I (cs.map V.ref) (cs.map Fs.D.ref)
  | [] => .nil
  | c :: cs => .cons (.ref c) (isA_ofRefs cs)
theorem kitAny_no {t : Value} : ∀ {cs : List Value}, (∀ c ∈ cs, PySem.W.kitOne K t c = some false) → PySem.W.kitAny K t cs = some false
  | [], _ => rfl
  | c :: cs, h => by
    unfold PySem.W.kitAny
    rw [h c List.mem_cons_self]
    exact kitAny_no fun d hd => h d (List.mem_cons_of_mem _ hd)
end
/-! facts of the classes -/
theorem kit_sub {K : PySem.W.Frag} {C D : Addr} (ic : PySem.W.isClsIn K C = true) (et : PySem.W.typeIn K (.ref C) = some (.type "type")) (sD : PySem.W.subIn K (.ref D) (.ref D) = some true) {b : Bool} (h : PySem.W.subIn K (.ref D) (.ref C) = some b) : PySem.W.kitOne K (.ref D) (.ref C) = some b := by
  have e2 : ((PySem.W.clsIn K C).isSome && PySem.W.typeIn K (.ref C) == some (.type "type")) = true := by
    have h2' : (PySem.W.clsIn K C).isSome = true := ic
    rw [h2', et] <;> rfl
  show (if (Value.ref D == Value.ref C) = true then some true else PySem.W.kitCls K (.ref D) (.ref C)) = some b
  by_cases q : D = C
  · subst q
    rw [if_pos (beq_self_eq_true _), ← h, sD]
  · rw [if_neg (fun z => q (Value.ref.inj (beq_iff_eq.mp z)))]
    show (if ((PySem.W.clsIn K C).isSome && PySem.W.typeIn K (.ref C) == some (.type "type")) = true then PySem.W.subIn K (.ref D) (.ref C) else none) = some b
    rw [if_pos e2]
    exact h
theorem kit_subT {K : PySem.W.Frag} {D : Addr} {n : String} (hk : PySem.W.kitMeta n = true) {b : Bool} (h : PySem.W.subIn K (.ref D) (.type n) = some b) : PySem.W.kitOne K (.ref D) (.type n) = some b := by
  have e : ¬ (Value.ref D == Value.type n) = true := fun h => by cases (beq_iff_eq.mp h)
  show (if (Value.ref D == Value.type n) = true then some true else PySem.W.kitCls K (.ref D) (.type n)) = some b
  rw [if_neg e]
  show (if PySem.W.kitMeta n = true then PySem.W.subIn K (.ref D) (.type n) else none) = some b
  rw [if_pos hk]
  exact h
theorem exm_sub {K : PySem.W.Frag} {C D : Addr} (ic : PySem.W.isClsIn K C = true) (et : PySem.W.typeIn K (.ref C) = some (.type "type")) (eb : PySem.W.subIn K (.ref C) (.type "BaseException") = some true) {b : Bool} (h : PySem.W.subIn K (.ref D) (.ref C) = some b) : PySem.W.exmOne K (.ref D) (.ref C) = some b := by
  have e2 : ((PySem.W.clsIn K C).isSome && PySem.W.typeIn K (.ref C) == some (.type "type")) = true := by
    have h2' : (PySem.W.clsIn K C).isSome = true := ic
    rw [h2', et] <;> rfl
  have e1 : (PySem.W.subIn K (.ref C) (.type "BaseException") == some true) = true := by rw [eb] <;> rfl
  show (if (PySem.W.subIn K (.ref C) (.type "BaseException") == some true) = true then (if ((PySem.W.clsIn K C).isSome && PySem.W.typeIn K (.ref C) == some (.type "type")) = true then PySem.W.subIn K (.ref D) (.ref C) else none) else none) = some b
  rw [if_pos e1, if_pos e2]
  exact h
/-! ### what lies on the heap as it is; lists of truths -/
section
variable {K : PySem.W.Frag} {H : Hp} {F : List (V × D)} {M : List ME} {Q : VK} {x y : V} {p : Addr} {o : HO}
theorem Wf.newRaw (w : Wf F H M) (hd : H p = none) (hn : ∀ vs, o ≠ .tup vs := by intro _ e; cases e) : Wf F (upd H p o) (.raw p o :: M) := by
  obtain ⟨I, Mc, w, ac, hF⟩ := w.ex
  exact ⟨I, (p, o) :: Mc, w.newM hd, .cons (.raw hn) ac, hF⟩
theorem Wf.rawAt (w : Wf F H M) (h : .raw p o ∈ M) : H p = some o := by
  obtain ⟨I, Mc, w, ac, hF⟩ := w.ex
  obtain ⟨m, hm, c⟩ := ac.mem h
  cases c
  exact (w.mu _ hm).1
theorem isA_bools {I : Hp} : ∀ {bs : List Bool} {vs : List V}, IsA I vs (bs.map D.bl) → vs = bs.map V.bl
  | [], _, h => by cases h; rfl
  | c :: cs, _, h => by
    cases h with
    | cons h1 h2 =>
      cases h1
      rw [isA_bools h2]
      rfl
theorem dp_bools {K : PySem.W.Frag} : ∀ (bs : List Bool), DpAll K H (bs.map V.bl) (D.pds (bs.map D.bl))
  | [] => .nil
  | b :: bs => .cons (.bl b) (dp_bools bs)
theorem sh_bools (bs : List Bool) : SeqAt.shaped (D.pd (.lst (bs.map D.bl))) = true := by
  obtain ⟨h1, h2⟩ := pds_can (ds := bs.map D.bl) (k := 1) fun d hd => by
    obtain ⟨b, _, rfl⟩ := List.mem_map.mp hd
    exact ⟨by simp [D.pd, PyData.canLay0], by simp [D.pd, PyData.depth]⟩
  unfold SeqAt.shaped
  rw [show (D.pd (.lst (bs.map D.bl))).canLay0 = true by simp [D.pd, PyData.canLay0, h1], decide_eq_true (by simp only [D.pd, PyData.depth]; omega)]
  rfl
theorem eqv_bools (bs cs : List Bool) : PyData.eqv (D.pd (.lst (bs.map D.bl))) (D.pd (.lst (cs.map D.bl))) = true ↔ bs = cs := by
  simp only [D.pd, PyData.eqv]
  rw [pds_eqv (P := fun e => ∃ b, e = D.bl b)]
  · constructor
    · exact fun h => (List.map_inj_right (fun a b e => by injection e)).mp h
    · exact fun h => by rw [h]
  · intro d hd e he
    obtain ⟨b, _, rfl⟩ := List.mem_map.mp hd
    obtain ⟨c, rfl⟩ := he
    simp [D.pd, PyData.eqv]
  · intro e he
    obtain ⟨c, _, rfl⟩ := List.mem_map.mp he
    exact ⟨c, rfl⟩
theorem Wf.bools {bs : List Bool} (w : Wf F H M) (h : Rk F M x (.lst (bs.map D.bl))) : Dp K H x (D.pd (.lst (bs.map D.bl))) := by
  obtain ⟨I, Mc, w, ac, hF⟩ := w.ex
  obtain ⟨p, vs, rfl, hp, ha⟩ := h.lst w ac hF
  have e := isA_bools ha
  subst e
  exact .lst (.inl (.inl hp)) (dp_bools bs)
theorem n_neB {bs cs : List Bool} (w : Wf F H M) (hx : Rk F M x (.lst (bs.map D.bl))) (hy : Rk F M y (.lst (cs.map D.bl))) (q : Q (.bl (!decide (bs = cs))) H) : rNeU K x y H Q :=
  .inr ⟨_, _, w.bools hx, w.bools hy, sh_bools bs, sh_bools cs, by
    have h2 : PyData.eqv (D.pd (.lst (bs.map D.bl))) (D.pd (.lst (cs.map D.bl))) = decide (bs = cs) := by rw [Bool.eq_iff_iff, eqv_bools, decide_eq_true_iff]
    rw [h2]; exact q⟩
end
end Fs

namespace Fs
open PySem PySem.Spec PyProof.Rows L2
/-! ### a class whose __init__ may raise -/
structure MakX (P : Program) (w : World) (K : PySem.W.Frag) (mg : Str → Option Value) (base : Heap) (x : Str) (C : Addr) (k : Nat) (ps : List Str) (dvs : List V) (sp : Sp) : Prop where
  ex : ∃ (f : Addr) (fd : FuncData) (ds : List Value), Mk K C f ∧ FnOk P w K mg base (L2.CX P w) k f fd ps sp ∧ mg x = some (.ref C) ∧ Binds K fd ps ds ∧ Vals dvs ds
def MakeXQ (C : Addr) (sp : Sp) (E : XK) (Q : VK) (vs : List V) (H1 : Hp) : Prop := ∀ o d, H1 o = none → H1 d = none → d ≠ o → sp (.ref o :: vs) (upd (upd H1 d (.own o)) o (.ins C d [])) (fun v H2 => v = .non ∧ Q (.ref o) H2) E
def tMakeX (C : Addr) (sp : Sp) (dvs : List V) (W : WX) (t : TA) : TE := fun σ H Q => t σ H fun vs H1 => MakeXQ C sp (WE W σ) Q (vs ++ dvs) H1
theorem s_makeX {C : Addr} {sp : Sp} {dvs : List V} {W : WX} {t : TA} {σ : L2.St} {H : Hp} {Q : VK} (h : t σ H fun vs H1 => MakeXQ C sp (WE W σ) Q (vs ++ dvs) H1) : tMakeX C sp dvs W t σ H Q := h
section
variable {X : Cx} {x : Str} {C : Addr} {p pos : Pos} {e : Expr} {es : List Expr} {t : TA} {k : Nat} {ps : List Str} {dvs : List V} {sp : Sp} {W : WX}
theorem run_makeX {pins : List (Addr × Obj)} {σ : L2.St} {H : Hp} {s : Shared} {Q : VK} {us ds : List Value} {vs : List V} {f : Addr} {fd : FuncData} (m : Mk X.K C f) (ok : FnOk X.prog X.w X.K X.mg X.base (L2.CX X.prog X.w) k f fd ps sp) (room : Room (k + 1) X.A)
    (bd : Binds X.K fd ps ds) (dv : Vals dvs ds) (tk : Takes X W) (J : Inv X pins σ H s) (rv : Vals vs us) (q : MakeXQ C sp (WE W σ) Q (vs ++ dvs) H) : wpAny (model X.prog X.w) X.A (call (.ref C) us) (EP X pins σ Q) X.xe s := by
  have q0 := q (s.heap.objs.size + 1) s.heap.objs.size (J.hok.fresh (Nat.le_succ _)) (J.hok.fresh (Nat.le_refl _)) (Nat.ne_of_lt (Nat.lt_succ_self _))
  have J2 := Inv.made (C := C) J
  have rr : Vals (V.ref (s.heap.objs.size + 1) :: (vs ++ dvs)) (Value.ref (s.heap.objs.size + 1) :: (us ++ ds)) := .cons rfl (rv.append dv)
  have hlen : (Value.ref (s.heap.objs.size + 1) :: us ++ ds).length = ps.length := rr.length.symm.trans (ok.len _ _ _ _ q0)
  have run := ok.run (X.A.under (.builtin "type.__call__" ⟨.ref C :: us, []⟩)) X.stack _ _ ⟨Value.ref (s.heap.objs.size + 1) :: us, []⟩ _ _ _ _ (room.make C us []) (J2.env0.make C us []) (bd _ (Value.ref (s.heap.objs.size + 1) :: us) J2.kIn hlen) rr q0
  refine wpAny_call (make_map (f := f) J.kIn m.makes m.init (beq_iff_eq.mp m.fn) (codeAny_mono run fun r s' z => ?_))
  match r, z with
  | .error er, z => exact tk er s' (XE.of_call J2 (fun _ _ _ y => y) z)
  | .ok (.ret u), z =>
    obtain ⟨v, H', J3, r3, e3, q3⟩ := J2.after z
    subst e3
    exact ⟨r3, ⟨V.ref (s.heap.objs.size + 1), H', J3, rfl, q3⟩⟩
  | .ok .next, z => exact z.elim
  | .ok .brk, z => exact z.elim
  | .ok .cont, z => exact z.elim
theorem pe_mkX (c : MakX X.prog X.w X.K X.mg X.base x C k ps dvs sp) (hr : Room (k + 1) X.A) (hg : Gl X x) (tk : Takes X W) (ha : PA X (e :: es) t) (hdb : (x == ("__debug__" : Str)) = false := by decide)
    (he : starEach (e :: es) X.env = (false, eval e X.env) :: starEach es X.env := by rfl) (hpl : (backTo pos (starEach es X.env)).any (·.1) = false := by rfl) : PE X (.Call (.Name x p) (e :: es) [] pos) (tMakeX C sp dvs W t) := by
  obtain ⟨f, fd, ds, m, ok, g, bd, dv⟩ := c.ex
  exact ⟨fun pins s σ H Q J h => wpAny_Call_Name_kw (ld_glob J hg g (PySem.W.callWith_K (h₀ := X.base) J.ok.mod.kin m.kp (thn (ha.run pos pins s σ H _ J h) fun us s1 ⟨vs, H1, J1, rv, q⟩ => ⟨J1.kIn, run_makeX m ok hr bd dv tk J1 rv q⟩) he hpl) hdb)⟩
end
section
variable {K : PySem.W.Frag} {H : Hp} {F : List (V × D)} {M M' : List ME} {Q : VK} {v : V} {p C : Addr} {d : D} {vs : List V} {sp : Sp} {E : XK}
/-- the new instance, its dict aside -/
theorem n_makeX (w : Wf F H M) (q : ∀ o H', Wf F H' (.mi o C [] :: M) → sp (.ref o :: vs) H' (fun v H2 => v = .non ∧ Q (.ref o) H2) E) : MakeXQ C sp E Q vs H := fun o dx ho hd ne => by
  obtain ⟨I, Mc, w, ac, hF⟩ := w.ex
  have w1 : W I (upd H dx (.own o)) Mc := w.more (same_new hd)
  have h1 : upd H dx (.own o) o = none := by rw [upd_ne ne.symm]; exact ho
  exact q o _ ⟨I, (o, .ins C dx []) :: Mc, w1.newM h1, .cons (.mi .nil) ac, hF⟩
theorem n_isXTd {a D dd : Addr} {b : Bool} {fs : List (Str × V)} {cs : List Addr} (w : Wf F H M) (ht : Rk F M v (.tup (cs.map Fs.D.ref))) (C : ExcC K D) (hd : H dd = some (.xd fs)) (h : PySem.W.kitAny K (.ref D) (cs.map Value.ref) = some b) (q : Q (.bl b) H) : rIsX K a (.ref D) (some dd) [.ref a, v] H Q := by
  obtain ⟨I, Mc, w, ac, hF⟩ := w.ex
  obtain ⟨p, vs, rfl, hp, ha⟩ := ht.tup w ac hF
  have e := isA_refs ha
  subst e
  exact ⟨D, .ref p, b, rfl, rfl, C, .inr ⟨dd, fs, rfl, hd⟩, .inr ⟨p, _, _, rfl, .inl (.inl hp), fun us h => vals_refs h, h⟩, q⟩
theorem knA_refs {F : List (V × Fs.D)} : ∀ (cs : List Addr), KnA F (cs.map V.ref) (cs.map Fs.D.ref)
  | [] => .nil
  | c :: cs => .cons (.ref c) (knA_refs cs)
theorem Wf.frzK {kvs : List (Key × D)} (w : Wf F H M) (r : Rem M (.dk p kvs) M') : Wf ((.ref p, .dict) :: F) H M' := by
  obtain ⟨I, Mc, w, a, hF⟩ := w.ex
  obtain ⟨M1, m, M2, rfl, h1, h2⟩ := a.rem r
  cases h1 with
  | dk b =>
    refine ⟨_, _, w.frz, h2.mono w.frzS, fun f hf => ?_⟩
    rcases List.mem_cons.mp hf with rfl | hf
    · exact .dct upd_same
    · exact (hF f hf).mono w.frzS
end
theorem putD_new {f : Str} {d : D} : ∀ {fs : List (Str × D)}, f ∉ fs.map (·.1) → putD f d fs = fs ++ [(f, d)]
  | [], _ => rfl
  | (g, x) :: r, h => by
    have e1 : ¬ g = f := fun e => h (by rw [e]; exact List.mem_cons_self)
    have e2 : f ∉ r.map (·.1) := fun e => h (List.mem_cons_of_mem _ e)
    unfold putD
    rw [if_neg e1, putD_new e2]
    rfl
/-! ### == of two lists of the same values, of two empty dicts -/
def plainV : V → Bool
  | .non => true | .bl _ => true | .int _ => true | .str _ => true | .ref _ => true
  | _ => false
theorem eqAt_id {A : Around} {s : Shared} {v : V} {u u' : Value} (r : RelV v u) (r' : RelV v u') (f : plainV v = true) : SeqAt.EqAt A s u u' true := by
  cases v with
  | ref a =>
    cases (show u = Value.ref a from r)
    cases (show u' = Value.ref a from r')
    exact SeqAt.EqAt.same _
  | non => exact eqAt_same r r' rfl
  | bl b => exact eqAt_same r r' rfl
  | int i => exact eqAt_same r r' rfl
  | str x => exact eqAt_same r r' rfl
  | _ => cases f
def rEqId (K : PySem.W.Frag) : R2 := fun x y H Q => ∃ a b xs, x = .ref a ∧ y = .ref b ∧ SqL K H a xs ∧ SqL K H b xs ∧ (∀ v ∈ xs, plainV v = true) ∧ Q (.bl true) H
def rEqU2 (K : PySem.W.Frag) : R2 := fun x y H Q => rEqU K x y H Q ∨ (rEqId K x y H Q ∨ rEqDA x y H Q)
section
variable {X : Cx}
theorem op_eqId (hu : X.A.units + 64 < cLine) : OpR X (compareOp .Eq) (rEqId X.K) := by
  intro pins s σ H x y v u Q I rx ry h
  obtain ⟨a, b, xs, rfl, rfl, ha, hb, hf, q⟩ := h
  obtain rfl : v = Value.ref a := rx
  obtain rfl : u = Value.ref b := ry
  obtain ⟨it, ra, ⟨o, n, ho, hc, _, hd⟩, _⟩ := I.list ha
  obtain ⟨jt, rb, ⟨o2, n2, ho2, hc2, _, hd2⟩, _⟩ := I.list hb
  have l1 := ra.length
  have l2 := rb.length
  have hsz : it.toArray.size = jt.toArray.size := by simp; omega
  refine SeqAt.eq_listAt (e := fun _ => true) ⟨o, ho, hc, n, hd⟩ ⟨o2, ho2, hc2, n2, hd2⟩ hsz (by omega) (fun j h1 h2 => ?_) ?_
  · have hj : j < xs.length := by
      simp at h1
      omega
    have hx : xs[j]? = some xs[j] := List.getElem?_eq_getElem hj
    obtain ⟨u1, e1, r1⟩ := ra.get hx
    obtain ⟨u2, e2, r2⟩ := rb.get hx
    have q1 : it.toArray[j] = u1 := by
      have := List.getElem?_eq_some_iff.mp e1
      simpa using this.2
    have q2 : jt.toArray[j] = u2 := by
      have := List.getElem?_eq_some_iff.mp e2
      simpa using this.2
    rw [q1, q2]
    exact eqAt_id r1 r2 (hf _ (List.getElem_mem hj))
  · have e : (List.range it.toArray.size).all (fun _ => true) = true := by simp
    rw [e]
    exact ⟨.bl true, H, I, rfl, q⟩
theorem uo_eq2 (hu : X.A.units + 64 < cLine) : OpR X (compareOp .Eq) (rEqU2 X.K) := opOr (uo_eq hu) (opOr (op_eqId hu) (op_eq_dictA (by omega)))
end
theorem k_eq2 {X : Cx} {K : PySem.W.Frag} (h : X.K = K) (hu : X.A.units + 64 < cLine) : OpR X (compareOp .Eq) (rEqU2 K) := h ▸ uo_eq2 hu
/-- a thing of which there is but one value -/
def rigid : D → Option V
  | .non => some .non
  | .bl b => some (.bl b)
  | .int i => some (.int i)
  | .str x => some (.str x)
  | .ref a => some (.ref a)
  | _ => none
theorem Is.rigid {I : Hp} {v u : V} {d : D} (h : Is I v d) (e : rigid d = some u) : v = u := by
  cases h <;> first | (cases e; rfl) | cases e
theorem IsA.rigid {I : Hp} : ∀ {ds : List D} {vs us : List V}, IsA I vs ds → ds.map Fs.rigid = us.map some → vs = us
  | [], _, [], h, _ => by cases h; rfl
  | [], _, _ :: _, _, e => by cases e
  | d :: ds, _, [], _, e => by cases e
  | d :: ds, _, u :: us, h, e => by
    cases h with
    | cons h1 h2 =>
      injection e with e1 e2
      rw [h1.rigid e1, IsA.rigid h2 e2]
theorem rigid_plain {d : D} {v : V} (e : rigid d = some v) : plainV v = true := by
  cases d <;> first | (cases e; rfl) | cases e
section
variable {K : PySem.W.Frag} {H : Hp} {F : List (V × D)} {M : List ME} {Q : VK} {x y : V} {ds : List D}
theorem n_eqId (w : Wf F H M) (hx : Rk F M x (.lst ds)) (hy : Rk F M y (.lst ds)) (hr : ∀ d ∈ ds, ∃ v, rigid d = some v) (q : Q (.bl true) H) : rEqU2 K x y H Q := by
  obtain ⟨I, Mc, w, a, hF⟩ := w.ex
  obtain ⟨p, vs, rfl, hp, h1⟩ := hx.lst w a hF
  obtain ⟨p', vs', rfl, hp', h2⟩ := hy.lst w a hF
  have ex : ∃ us : List V, ds.map rigid = us.map some := by
    clear hx hy h1 h2
    induction ds with
    | nil => exact ⟨[], rfl⟩
    | cons d ds ih =>
      obtain ⟨us, e⟩ := ih fun d hd => hr d (List.mem_cons_of_mem _ hd)
      obtain ⟨v, ev⟩ := hr d List.mem_cons_self
      exact ⟨v :: us, by rw [List.map_cons, List.map_cons, e, ev]⟩
  obtain ⟨us, e⟩ := ex
  have e1 := h1.rigid e
  have e2 := h2.rigid e
  subst e1
  subst e2
  refine .inr (.inl ⟨p, p', _, rfl, rfl, .inl (.inl hp), .inl (.inl hp'), fun v hv => ?_, q⟩)
  have : some v ∈ ds.map rigid := by rw [e]; exact List.mem_map_of_mem hv
  obtain ⟨d, _, hd⟩ := List.mem_map.mp this
  exact rigid_plain hd
theorem n_eqDict {a : Addr} (w : Wf F H M) (h : .raw a (.dK []) ∈ M) (q : Q (.bl true) H) : rEqU2 K (.ref a) (.ref a) H Q :=
  .inr (.inr ⟨a, a, [], [], rfl, rfl, w.rawAt h, w.rawAt h, rfl, fun _ h => (nomatch h), q⟩)
theorem n_eqTD {d : D} (w : Wf F H M) (hx : Rk F M x d) (hy : Rk F M y d) (n : NB 60 d) (q : Q (.bl true) H) : rEqU2 K x y H Q := .inl (n_eqT w hx hy n q)
end
/-- a thing of a known kind: by itself, or by a fact of the dict that it is -/
def TyF (F : List (V × D)) (d : D) : Prop := Ty d ∨ ∃ a, d = .ref a ∧ (V.ref a, D.dict) ∈ F
theorem TyF.more {F : List (V × D)} {d : D} {f : V × D} (h : TyF F d) : TyF (f :: F) d := h.elim .inl fun ⟨a, e, m⟩ => .inr ⟨a, e, List.mem_cons_of_mem _ m⟩
theorem Ty.rk {F : List (V × D)} {M : List ME} {v : V} {d : D} (t : Ty d) (h : Kn F v d) : Rk F M v d := Rk.of h fun q => by
  obtain ⟨a, e⟩ := t
  rcases q with ⟨n, rfl⟩ | ⟨n, rfl⟩ <;> cases e
theorem TyF.go {F : List (V × D)} {H : Hp} {M : List ME} {v : V} {d : D} (w : Wf F H M) (h : Kn F v d) (t : TyF F d) : ∃ e, Ty e ∧ Rk F M v e ∧ e.whole = d.whole := by
  rcases t with t | ⟨a, rfl, m⟩
  · exact ⟨d, t, t.rk h, rfl⟩
  · obtain ⟨I, Mc, w, ac, hF⟩ := w.ex
    have e : v = .ref a := (h.is hF).ref_eq
    subst e
    exact ⟨.dict, ⟨_, rfl⟩, .mem m, rfl⟩
end Fs

namespace Fs
open PySem PySem.Spec PyProof.Rows L2
/-- a tuple that the written part holds -/
theorem sqT_of {K : PySem.W.Frag} {H : Hp} {a : Addr} {td : Option Addr} {its : List Value} {n : Nat} {sl : Array (Option Value)} {xs : List V} (l : K.lookup a = some ⟨.type "tuple", td, .seq its.toArray n, sl⟩) (r : Vals xs its) (hz : its.length ≤ 1000) : SqT K H a xs :=
  .inr ⟨_, _, _, l, rfl, rfl, by rw [List.size_toArray, sizeLine_eq]; omega, by simpa using r⟩
section
variable {K : PySem.W.Frag} {H : Hp} {Q : VK} {x : V} {a : Addr} {xs : List V} {b : Bool}
theorem s_inT (h : SqT K H a xs) (f : flatV x = true) (g : xs.all flatV = true) (e : inV x xs = b) (q : Q (.bl b) H) : rIn K false x (.ref a) H Q := ⟨a, xs, rfl, .inr h, f, g, by rw [e]; exact q⟩
end
section
variable {K : PySem.W.Frag} {H : Hp} {F : List (V × D)} {M : List ME} {Q : VK} {v : V} {C a : Addr} {f : Str} {fs : List (Str × D)} {L : List Str} {ds : List D} {i : Int}
theorem n_fldr (w : Wf F H M) (h : Rk F M v (.obj C fs)) (hc : Cls K C) (hn : ∀ f ∈ L, NoAttr K C f) (hf : f ∈ L) (hd : fs.lookup f = some (.ref a)) (q : Q (.ref a) H) : FldQ K f Q v H := n_fld w h hc hn hf hd fun u w => by rw [w.ref0.1]; exact q
theorem n_ixTr (w : Wf F H M) (h : Rk F M v (.tup ds)) (hd : atI ds i = some (.ref a)) (q : Q (.ref a) H) : rIx K v (.int i) H Q := n_ixT w h hd fun u w => by rw [w.ref0.1]; exact q
theorem n_ixLr (w : Wf F H M) (h : Rk F M v (.lst ds)) (hd : atI ds i = some (.ref a)) (q : Q (.ref a) H) : rIx K v (.int i) H Q := n_ixL w h hd fun u w => by rw [w.ref0.1]; exact q
end
theorem k_slT {X : Cx} {K : PySem.W.Frag} (h : X.K = K) : SlR X (rSlT K) := h ▸ sl_tup
theorem n_slT {K : PySem.W.Frag} {H : Hp} {F : List (V × D)} {M : List ME} {Q : VK} {x : V} {ds : List D} {lo hi : Option Int} (w : Wf F H M) (h : Rk F M x (.tup ds)) (hn : ¬ (HT.sIx ds.length 0 lo = 0 ∧ HT.sIx ds.length ds.length hi = ds.length)) (q : ∀ p H', Wf ((.ref p, .tup (cutD ds lo hi)) :: F) H' M → Q (.ref p) H') : rSlT K x lo hi H Q := by
  obtain ⟨I, Mc, w0, ac, hF⟩ := w.ex
  obtain ⟨p, vs, rfl, hp, ha⟩ := h.tup w0 ac hF
  refine ⟨p, vs, rfl, .inl (.inl hp), by rw [ha.length]; exact hn, fun p' hp' => q p' _ (w.newT hp' fun I1 Mc1 w1 a1 hF1 => ?_)⟩
  obtain ⟨p2, vs2, e, hp2, ha2⟩ := h.tup w1 a1 hF1
  cases e
  rw [hp] at hp2
  cases hp2
  exact ha2.cut lo hi
section
variable {K : PySem.W.Frag} {H : Hp} {F : List (V × D)} {M : List ME} {Q : VK} {r : V} {p : Addr} {l : Int} {ds : List D}
/-- a tuple of a number and a list that may be changed, as it is now -/
theorem Wf.deep2 (w : Wf F H M) (h : Rk F M r (.tup [.int l, .ref p])) (hm : ME.ml p ds ∈ M) : Is H r (.tup [.int l, .lst ds]) := by
  obtain ⟨I, Mc, w, ac, hF⟩ := w.ex
  obtain ⟨t, vs, rfl, ht, ha⟩ := h.tup w ac hF
  have hl : Is H (.ref p) (.lst ds) := (Rk.ml (F := F) hm).rd w ac hF
  cases ha with
  | cons h1 ha =>
    cases ha with
    | cons h2 ha =>
      cases ha
      cases h1
      cases h2
      exact .tup ht (.cons (.int l) (.cons hl .nil))
/-- .. and for good -/
theorem Wf.upT (w : Wf F H M) (h : Kn F r (.tup [.int l, .ref p])) (h2 : Kn F (.ref p) (.lst ds)) : Wf ((r, .tup [.int l, .lst ds]) :: F) H M := by
  obtain ⟨I, Mc, w, ac, hF⟩ := w.ex
  have e := h.is hF
  have e2 := h2.is hF
  refine ⟨I, Mc, w, ac, fun f hf => ?_⟩
  rcases List.mem_cons.mp hf with rfl | hf
  · cases e with
    | tup ht ha =>
      cases ha with
      | cons h1 ha =>
        cases ha with
        | cons h2 ha =>
          cases ha
          cases h1
          cases h2
          exact .tup ht (.cons (.int l) (.cons e2 .nil))
  · exact hF f hf
end
end Fs

namespace Fs
open PySem PySem.Spec PyProof.Rows L2
theorem k_all {X : Cx} {K : PySem.W.Frag} (h : X.K = K) (hc : X.calm = true) : CallR X (.builtin "all") (rAll K) := h ▸ cr_all hc
theorem k_any {X : Cx} {K : PySem.W.Frag} (h : X.K = K) (hc : X.calm = true) : CallR X (.builtin "any") (rAny K) := h ▸ cr_any hc
section
variable {K : PySem.W.Frag} {H : Hp} {F : List (V × D)} {M M' : List ME} {Q : VK} {v : V} {p : Addr} {ds : List D} {bs : List Bool} {b : Bool}
theorem IsA.bls {I : Hp} : ∀ {bs : List Bool} {vs : List V}, IsA I vs (bs.map D.bl) → vs = bs.map V.bl
  | [], _, .nil => rfl
  | _ :: _, _, .cons h a => by
    cases h
    rw [IsA.bls a]
    rfl
theorem n_all (w : Wf F H M) (h : Rk F M v (.lst (bs.map D.bl))) (hb : bs.all id = b) (q : Q (.bl b) H) : rAll K [v] H Q := by
  obtain ⟨I, Mc, w, a, hF⟩ := w.ex
  obtain ⟨p, vs, rfl, hp, c⟩ := h.lst w a hF
  have e := c.bls
  subst e
  exact ⟨p, bs, rfl, .inl (.inl hp), by rw [hb]; exact q⟩
theorem n_any (w : Wf F H M) (h : Rk F M v (.lst (bs.map D.bl))) (hb : bs.any id = b) (q : Q (.bl b) H) : rAny K [v] H Q := by
  obtain ⟨I, Mc, w, a, hF⟩ := w.ex
  obtain ⟨p, vs, rfl, hp, c⟩ := h.lst w a hF
  have e := c.bls
  subst e
  exact ⟨p, bs, rfl, .inl (.inl hp), by rw [hb]; exact q⟩
theorem IsA.dropLast {I : Hp} : ∀ {vs : List V} {ds : List D}, IsA I vs ds → IsA I vs.dropLast ds.dropLast
  | _, _, .nil => .nil
  | _, _, .cons _ .nil => .nil
  | _, _, .cons h (.cons h' a) => .cons h (IsA.dropLast (.cons h' a))
theorem n_pop (w : Wf F H M) (f : Foc M (.ml p ds) M' (.ml p ds.dropLast)) (hz : 0 < ds.length) (q : ∀ y H', Wf F H' M' → Q y H') : rPop (.ref p) [] H Q := by
  obtain ⟨I, Mc, w, a, hF⟩ := w.ex
  obtain ⟨M1, m, M2, rfl, h3, h4⟩ := a.foc f
  cases h3 with
  | @ml _ vs _ b =>
    have h2 : vs.length - 1 < vs.length := by have := b.length; omega
    exact ⟨p, vs, _, rfl, rfl, w.at, List.getElem?_eq_getElem h2, q _ _ ⟨I, _, w.put, h4 I _ (Same.refl _) (.ml b.dropLast), hF⟩⟩
end
end Fs

namespace Fs
open PySem PySem.Spec PyProof.Rows L2
/-! ### a method that may raise -/
structure MetX (P : Program) (w : World) (K : PySem.W.Frag) (mg : Str → Option Value) (base : Heap) (m : Str) (C : Addr) (k : Nat) (ps : List Str) (sp : Sp) : Prop where
  ex : ∃ (f : Addr) (fd : FuncData), Cls K C ∧ Meth K C m f ∧ FnOk P w K mg base (L2.CX P w) k f fd ps sp ∧ Binds K fd ps []
def tMethX (C : Addr) (m : Str) (sp : Sp) (W : WX) (ta : TE) (t : TA) : TE := fun σ H Q => ta σ H fun x H1 => MethQ C m x H1 (t σ H1 fun vs H2 => sp (x :: vs) H2 Q (WE W σ))
theorem s_methX {C : Addr} {m : Str} {sp : Sp} {W : WX} {ta : TE} {t : TA} {σ : L2.St} {H : Hp} {Q : VK} (h : ta σ H fun x H1 => MethQ C m x H1 (t σ H1 fun vs H2 => sp (x :: vs) H2 Q (WE W σ))) : tMethX C m sp W ta t σ H Q := h
section
variable {X : Cx} {m : Str} {C : Addr} {pos apos : Pos} {e o : Expr} {es : List Expr} {ta : TE} {t : TA} {k : Nat} {ps : List Str} {sp : Sp} {W : WX}
theorem pe_metX {pl : Sem Bool} (he : PE X o ta) (c : MetX X.prog X.w X.K X.mg X.base m C k ps sp) (hr : Room k X.A) (tk : Takes X W) (ha : PA X (e :: es) t)
    (hst : starEach (e :: es) X.env = (false, eval e X.env) :: starEach es X.env := by rfl) (hpl : (backTo pos (starEach es X.env)).any (·.1) = false := by rfl)
    (ht : eval (.Call (.Attribute o m apos) (e :: es) [] pos) X.env = (do
      let ov ← eval o X.env
      standAt apos.atName
      let (f, first) ← holding [ov] (getMethod ov m pl)
      callWith pos f first (backTo pos (starEach (e :: es) X.env)) (backToKw pos (keywordEach [] X.env))) := by rfl) :
    PE X (.Call (.Attribute o m apos) (e :: es) [] pos) (tMethX C m sp W ta t) := by
  obtain ⟨f, fd, cl, hm, F, hb⟩ := c.ex
  refine ⟨fun pins s σ H Q I h => ?_⟩
  refine PySem.W.methodCall_KW (pl := pl) (thn (he.run pins s σ H _ I h) fun u s1 ⟨x, H1, I1, rx, a, dx, fs, ex, ea, l, q⟩ => ?_) ht
  subst ex
  obtain rfl : u = Value.ref a := rx
  refine getmeth_ok I1 ea cl hm l ?_
  refine PySem.W.callWith_K (first := [.ref a]) (h₀ := X.base) I.ok.mod.kin hm.kp (thn (ha.run pos pins s1 σ H1 _ I1 q) fun us s2 ⟨vs, H2, I2, r, q2⟩ => ⟨I2.kIn, ?_⟩) hst hpl
  exact run_fnS (us := .ref a :: us) (vs := .ref a :: vs) F hr hb (passAt tk σ) I2 (.cons rfl r) q2
end
end Fs

namespace Fs
open PySem PySem.Spec PyProof.Rows L2
/-! ### a dict whose keys are tuples of ints, texts and None -/
def lfV : Leaf → V
  | .none => .non
  | .num i => .int i
  | .text x => .str x
def lfD : Leaf → D
  | .none => .non
  | .num i => .int i
  | .text x => .str x
theorem lfV_is {k : Leaf} {u : Value} (r : RelV (lfV k) u) : Leaf.isOf k u = true := by
  cases k with
  | none =>
    have e : u = Value.none := r
    subst e
    rfl
  | num i =>
    obtain ⟨t, e⟩ := (show ∃ t, u = Value.int i t from r)
    subst e
    exact decide_eq_true rfl
  | text x =>
    obtain ⟨t, e⟩ := (show ∃ t, u = Value.str x t from r)
    subst e
    simp [Leaf.isOf, Value.isStrOf]
theorem itemsL {P : Program} {w : World} : ∀ {ks : List Leaf} {us : List Value}, Vals (ks.map lfV) us → ItemsAre (leafKind P w) ks us
  | [], _, r => by rw [List.map_nil] at r; cases r; exact .nil
  | k :: ks, _, r => by
    rw [List.map_cons] at r
    cases r with
    | cons h t => exact .cons (lfV_is h) (itemsL t)
abbrev NE := List Leaf × Addr × V
abbrev NR (p : NE) (q : List Leaf × Addr × Value) : Prop := p.1 = q.1 ∧ p.2.1 = q.2.1 ∧ RelV p.2.2 q.2.2
def NDok (P : Program) (w : World) (a : Addr) (xs : List NE) (h : Heap) : Prop :=
  xs.length ≤ sizeLine ∧ (a == sysModules) = false ∧ ∃ ys : List (List Leaf × Addr × Value), Paired NR xs ys ∧
    ∃ o es ep, h.get? a = some o ∧ o.ExactDict ∧ o.data = .dict es ep ∧ es.toList = ys.map (entryOfKey (tupleKind (leafKind P w))) ∧ (ys.map (·.1)).Nodup
def ndO (P : Program) (w : World) (a : Addr) (xs : List NE) : HO := .ext (NDok P w a xs)
def KeysAt (H : Hp) (xs : List NE) : Prop := ∀ x ∈ xs, H x.2.1 = some (.tup (x.1.map lfV))
def getN (xs : List NE) (k : List Leaf) : Option V := (xs.find? fun x => decide (x.1 = k)).map (·.2.2)
def putN (xs : List NE) (k : List Leaf) (b : Addr) (v : V) : List NE := if (getN xs k).isSome then xs.map (fun x => if x.1 = k then (x.1, x.2.1, v) else x) else xs ++ [(k, b, v)]
theorem nr_get {xs : List NE} {ys : List (List Leaf × Addr × Value)} (r : Paired NR xs ys) (k : List Leaf) : RelO (getN xs k) ((atKey ys k).map (·.2)) := by
  induction r with
  | nil => exact True.intro
  | @cons p q ps qs h t ih =>
    obtain ⟨h1, _, h2⟩ := h
    by_cases e : p.1 = k
    · have e' : q.1 = k := h1.symm.trans e
      have b : atKey (q :: qs) k = some q.2 := by simp [atKey, List.find?_cons, e']
      have c : getN (p :: ps) k = some p.2.2 := by simp [getN, List.find?_cons, e]
      rw [c, b]; exact h2
    · have e' : ¬ q.1 = k := fun z => e (h1.trans z)
      have b : atKey (q :: qs) k = atKey qs k := by simp [atKey, List.find?_cons, e']
      have c : getN (p :: ps) k = getN ps k := by simp [getN, List.find?_cons, e]
      rw [c, b]; exact ih
theorem nr_repl {xs : List NE} {ys : List (List Leaf × Addr × Value)} (r : Paired NR xs ys) (k : List Leaf) {y : V} {u : Value} (ry : RelV y u) :
    Paired NR (xs.map fun x => if x.1 = k then (x.1, x.2.1, y) else x) (ys.map (putAt k u)) := by
  induction r with
  | nil => exact .nil
  | @cons p q ps qs h t ih =>
    rw [List.map_cons, List.map_cons]
    refine .cons ?_ ih
    obtain ⟨h1, h2, h3⟩ := h
    unfold putAt
    by_cases e : p.1 = k
    · rw [if_pos e, if_pos (h1.symm.trans e)]; exact ⟨h1, h2, ry⟩
    · rw [if_neg e, if_neg (fun z => e (h1.trans z))]; exact ⟨h1, h2, h3⟩
theorem nr_put {xs : List NE} {ys : List (List Leaf × Addr × Value)} (r : Paired NR xs ys) (k : List Leaf) (b : Addr) {y : V} {u : Value} (ry : RelV y u) : Paired NR (putN xs k b y) (storedH ys k b u) := by
  have e : (getN xs k).isSome = (atKey ys k).isSome := by rw [(nr_get r k).isSome_eq, Option.isSome_map]
  unfold putN storedH
  rw [e]
  by_cases q : (atKey ys k).isSome = true
  · rw [if_pos q, if_pos q]; exact nr_repl r k ry
  · rw [if_neg q, if_neg q]; exact Paired.snoc r ⟨rfl, rfl, ry⟩
theorem putN_len (xs : List NE) (k : List Leaf) (b : Addr) (v : V) : (putN xs k b v).length ≤ xs.length + 1 := by
  unfold putN
  split
  · rw [List.length_map]; omega
  · rw [List.length_append, List.length_singleton]; omega
section
variable {P : Program} {w : World} {H : Hp} {h : Heap} {a b : Addr} {xs : List NE}
theorem keyL_of {ks : List Leaf} (ok : HOk P w H h) (e : H a = some (.tup (ks.map lfV))) : (tupleKind (leafKind P w)).is h ks a := by
  obtain ⟨_, its, r, o, h1, h2, n, h3⟩ := (show ObjOk P w H h a (.tup (ks.map lfV)) from ok a _ e)
  exact ⟨o, its.toArray, n, h1, h2, h3, by simpa using itemsL r⟩
theorem nd_rd (ok : HOk P w H h) (e : H a = some (ndO P w a xs)) (hk : KeysAt H xs) : xs.length ≤ sizeLine ∧ (a == sysModules) = false ∧ ∃ ys, Paired NR xs ys ∧ h.DictOfH (tupleKind (leafKind P w)) a ys := by
  obtain ⟨⟨z, y, ys, r, o, es, ep, h1, h2, h3, h4, h5⟩, _⟩ := (show ObjOk P w H h a (.ext (NDok P w a xs)) from ok a _ e)
  refine ⟨z, y, ys, r, o, es, ep, h1, h2, h3, h4, fun x hx => ?_, h5⟩
  have all : ∀ {l : List NE} {m : List (List Leaf × Addr × Value)}, Paired NR l m → (∀ x ∈ l, H x.2.1 = some (.tup (x.1.map lfV))) → ∀ x ∈ m, (tupleKind (leafKind P w)).is h x.1 x.2.1 := by
    intro l m q
    induction q with
    | nil => intro _ x hx; exact nomatch hx
    | @cons p q ps qs hq t ih =>
      intro hh x hx
      rcases List.mem_cons.mp hx with e | hx
      · subst e
        have := hh p List.mem_cons_self
        rw [hq.1, hq.2.1] at this
        exact keyL_of ok this
      · exact ih (fun x hx => hh x (List.mem_cons_of_mem _ hx)) x hx
  exact all r hk x hx
theorem nd_new {H' : Hp} {h' : Heap} {ys : List (List Leaf × Addr × Value)} (z : xs.length ≤ sizeLine) (y : (a == sysModules) = false) (r : Paired NR xs ys) (dd : h'.DictOfH (tupleKind (leafKind P w)) a ys) : ObjOk P w H' h' a (ndO P w a xs) := by
  obtain ⟨o, es, ep, h1, h2, h3, h4, _, h5⟩ := dd
  refine ⟨⟨z, y, ys, r, o, es, ep, h1, h2, h3, h4, h5⟩, ⟨o, h1⟩, fun g1 g2 hg hs => ?_⟩
  obtain ⟨z, y, ys, r, o, es, ep, h1, h2⟩ := hg
  exact ⟨z, y, ys, r, o, es, ep, hs o h1, h2⟩
end
/-- what the dict at a holds at y -/
def NGet (P : Program) (w : World) (H : Hp) (a : Addr) (y : V) (r : Option V) : Prop := ∃ xs k b, H a = some (ndO P w a xs) ∧ KeysAt H xs ∧ y = .ref b ∧ H b = some (.tup (k.map lfV)) ∧ r = getN xs k
def NPut (P : Program) (w : World) (H : Hp) (a : Addr) (y v : V) (H' : Hp) : Prop := ∃ xs k b, H a = some (ndO P w a xs) ∧ KeysAt H xs ∧ y = .ref b ∧ H b = some (.tup (k.map lfV)) ∧ xs.length < sizeLine ∧ H' = upd H a (ndO P w a (putN xs k b v))
def NGetQ (P : Program) (w : World) (Q : VK) (x y : V) (H : Hp) : Prop := ∃ a v, x = .ref a ∧ NGet P w H a y (some v) ∧ Q v H
def NInQ (P : Program) (w : World) (R : Bool → Prop) (x y : V) (H : Hp) : Prop := ∃ a o, x = .ref a ∧ NGet P w H a y o ∧ R o.isSome
def NPutQ (P : Program) (w : World) (R : Hp → Prop) (x y v : V) (H : Hp) : Prop := ∃ a H4, x = .ref a ∧ NPut P w H a y v H4 ∧ R H4
def tNGet (P : Program) (w : World) (td ty : TE) : TE := fun σ H Q => td σ H fun x H1 => ty σ H1 fun y H2 => NGetQ P w Q x y H2
def tNNotIn (P : Program) (w : World) (ty td : TE) : TE := fun σ H Q => ty σ H fun y H1 => td σ H1 fun x H2 => NInQ P w (fun b => Q (.bl (!b)) H2) x y H2
def sNPut (P : Program) (w : World) (td ty tv : TE) : TS := fun D σ H => tv σ H fun v H1 => td σ H1 fun x H2 => ty σ H2 fun y H3 => NPutQ P w (fun H4 => D.nx σ H4) x y v H3
def tNNew (P : Program) (w : World) : TE := fun _ H Q => ∀ p, H p = none → Q (.ref p) (upd H p (ndO P w p []))
section
variable {X : Cx} {o i value : Expr} {pos pos' : Pos} {td ty tv : TE} {P : Program} {w : World}
theorem pe_nget (hP : X.prog = P) (hw : X.w = w) (hu : X.A.units + 1 < cLine) (ho : PE X o td) (hi : PE X i ty) (hs : NoSl i) : PE X (.Subscript o i pos) (tNGet P w td ty) := by
  subst hP hw
  refine ⟨fun pins s σ H Q I h => ?_⟩
  refine subD_of PySem.F.slot_dict_getitem.lookup hs (thn (ho.run pins s σ H _ I h) fun u s1 ⟨x, H1, I1, rx, q1⟩ => thn (hi.run pins s1 σ H1 _ I1 q1) fun iv s2 ⟨y, H2, I2, ry, a, v, ex, g, q2⟩ => ?_)
  subst ex
  obtain rfl : u = Value.ref a := rx
  obtain ⟨xs, k, b, e, hk, ey, eb, l⟩ := g
  subst ey
  obtain rfl : iv = Value.ref b := ry
  obtain ⟨z, hd, ys, rel, dd⟩ := nd_rd I2.hok e hk
  refine ⟨dd.typeIs, ?_⟩
  obtain ⟨w', hw, rw'⟩ := RelO.some_of (v := v) (o := (atKey ys k).map (·.2)) (by rw [l]; exact nr_get rel k)
  obtain ⟨p, hp, hp2⟩ := Option.map_eq_some_iff.mp hw
  refine wpAny_getItem_heap (tupleKind_room_in1 hu) (keyL_of I2.hok eb) dd hp ?_
  rw [hp2]
  exact ⟨v, H2, I2.tok _, rw', q2⟩
theorem pc_nnotin (hP : X.prog = P) (hw : X.w = w) (hu : X.A.units + 1 < cLine) (hi : PE X i ty) (ho : PE X o td) : PC X .NotIn i o (tNNotIn P w ty td) := by
  subst hP hw
  refine ⟨fun pins s σ H Q I h => ?_⟩
  refine thn (hi.run pins s σ H _ I h) fun iv s1 ⟨y, H1, I1, ry, q1⟩ => thn (ho.run pins s1 σ H1 _ I1 q1) fun u s2 ⟨x, H2, I2, rx, a, ov, ex, g, q2⟩ => ?_
  subst ex
  obtain rfl : u = Value.ref a := rx
  obtain ⟨xs, k, b, e, hk, ey, eb, l⟩ := g
  subst ey
  obtain rfl : iv = Value.ref b := ry
  obtain ⟨z, hd, ys, rel, dd⟩ := nd_rd I2.hok e hk
  refine wpAny_notIn_heap (tupleKind_room_in1 hu) (keyL_of I2.hok eb) hd dd ?_
  have q := (nr_get rel k).isSome_eq
  rw [Option.isSome_map] at q
  rw [← q, ← l]
  exact ⟨.bl (!ov.isSome), H2, I2.tok _, rfl, q2⟩
theorem ps_nput (hP : X.prog = P) (hw : X.w = w) (hu : X.A.units + 1 < cLine) (ho : PE X o td) (hi : PE X i ty) (hv : PE X value tv) (hs : swapsWith value (some (.Subscript o i pos')) pos.line X.env = pure false) :
    PS X (.Assign [.Subscript o i pos'] value pos) (sNPut P w td ty tv) := by
  subst hP hw
  refine ⟨fun pins s σ H D I h => ?_⟩
  refine wpAny_Assign_Subscript (thn (hv.run pins s σ H _ I h) fun r s1 ⟨v, H1, I1, rv, q1⟩ => thn (ho.run pins s1 σ H1 _ I1 q1) fun u s2 ⟨x, H2, I2, rx, q2⟩ => thn (hi.run pins s2 σ H2 _ I2 q2) fun iv s3 ⟨y, H3, I3, ry, a, H4, ex, g, q3⟩ => ?_) hs
  subst ex
  obtain rfl : u = Value.ref a := rx
  obtain ⟨xs, k, b, e, hk, ey, eb, hl, rfl⟩ := g
  subst ey
  obtain rfl : iv = Value.ref b := ry
  obtain ⟨z, hd, ys, rel, dd⟩ := nd_rd I3.hok e hk
  have hz : ys.length ≤ sizeLine := by rw [← Paired.length rel]; exact z
  have hl2 : (putN xs k b v).length ≤ sizeLine := by have := putN_len xs k b v; omega
  refine wpAny_setItem_heap (hsz := hz) (tupleKind_room_in1 hu) (keyL_of I3.hok eb) dd fun h' dd' hs => ⟨σ, _, ?_, q3⟩
  have he : ∃ q, h'.get? a = some q := let ⟨q, _, _, hq, _⟩ := dd'; ⟨q, hq⟩
  exact d_write I3 (by rw [e]; exact True.intro) hs he (nd_new hl2 hd (nr_put rel k b rv) dd')
theorem pe_nnew (hP : X.prog = P) (hw : X.w = w) : PE X (.Dict [] [] pos) (tNNew P w) := by
  subst hP hw
  exact ⟨fun pins s σ H Q I h =>
    wpAny_Dict_empty ⟨.ref s.heap.objs.size, _, I.laid (a := s.heap.objs.size) (o := ndO X.prog X.w s.heap.objs.size []) (t' := s.toks) (fun _ _ q => Heap.get?_push_of_some _ q) (Nat.le_refl _)
      (nd_new (Nat.zero_le _) (beq_eq_false_iff_ne.mpr (Ne.symm (Nat.ne_of_lt I.big))) .nil ⟨_, #[], 0, Heap.get?_push_size _ rfl, ⟨rfl, rfl, rfl⟩, rfl, rfl, fun _ h => (nomatch h), List.nodup_nil⟩), rfl, h _ (I.hok.fresh (Nat.le_refl _))⟩⟩
end
theorem kit_self {K : PySem.W.Frag} {C : Addr} : PySem.W.kitOne K (.ref C) (.ref C) = some true := if_pos (beq_self_eq_true _)
section
variable {P : Program} {w : World} {K : PySem.W.Frag} {σ : L2.St} {H : Hp} {F : List (V × D)} {M M' : List ME} {Q : VK} {G : Ends} {v y : V} {p : Addr} {xs : List NE} {k : List Leaf}
theorem s_nget {td ty : TE} (h : td σ H fun x H1 => ty σ H1 fun y H2 => NGetQ P w Q x y H2) : tNGet P w td ty σ H Q := h
theorem s_nnotin {td ty : TE} (h : ty σ H fun y H1 => td σ H1 fun x H2 => NInQ P w (fun b => Q (.bl (!b)) H2) x y H2) : tNNotIn P w ty td σ H Q := h
theorem s_nput {td ty tv : TE} (h : tv σ H fun v H1 => td σ H1 fun x H2 => ty σ H2 fun y H3 => NPutQ P w (fun H4 => G.nx σ H4) x y v H3) : sNPut P w td ty tv G σ H := h
theorem s_nnew (ww : Wf F H M) (q : ∀ p H', Wf F H' (.raw p (ndO P w p []) :: M) → Q (.ref p) H') : tNNew P w σ H Q := fun p hp => q p _ (ww.newRaw hp)
/-- all keys of the dict are known -/
def KnK (F : List (V × D)) (xs : List NE) : Prop := ∀ x ∈ xs, Kn F (.ref x.2.1) (.tup (x.1.map lfD))
theorem isA_leafs {I : Hp} : ∀ {k : List Leaf} {vs : List V}, IsA I vs (k.map lfD) → vs = k.map lfV
  | [], _, h => by cases h; rfl
  | c :: cs, _, h => by
    cases h with
    | cons h1 h2 =>
      rw [isA_leafs h2]
      cases c <;> cases h1 <;> rfl
theorem Wf.keyL (ww : Wf F H M) (h : Rk F M y (.tup (k.map lfD))) : ∃ b, y = .ref b ∧ H b = some (.tup (k.map lfV)) := by
  obtain ⟨I, Mc, ww, a, hF⟩ := ww.ex
  obtain ⟨p, vs, rfl, hp, b⟩ := h.tup ww a hF
  exact ⟨p, rfl, by rw [hp, isA_leafs b]⟩
theorem Kn.rkT {ds : List D} (h : Kn F v (.tup ds)) : Rk F M v (.tup ds) := Rk.of h fun q => by rcases q with ⟨n, e⟩ | ⟨n, e⟩ <;> cases e
theorem KnK.at (ww : Wf F H M) (h : KnK F xs) : KeysAt H xs := fun x hx => by
  obtain ⟨b, e, hb⟩ := ww.keyL (M := M) (h x hx).rkT
  cases e
  exact hb
theorem n_nget {v : V} (ww : Wf F H M) (h : .raw p (ndO P w p xs) ∈ M) (hk : KnK F xs) (hy : Rk F M y (.tup (k.map lfD))) (hg : getN xs k = some v) (q : Q v H) : NGetQ P w Q (.ref p) y H := by
  obtain ⟨b, rfl, hb⟩ := ww.keyL hy
  exact ⟨p, v, rfl, ⟨xs, k, b, ww.rawAt h, hk.at ww, rfl, hb, hg.symm⟩, q⟩
theorem n_nin {R : Bool → Prop} (ww : Wf F H M) (h : .raw p (ndO P w p xs) ∈ M) (hk : KnK F xs) (hy : Rk F M y (.tup (k.map lfD))) (q : R (getN xs k).isSome) : NInQ P w R (.ref p) y H := by
  obtain ⟨b, rfl, hb⟩ := ww.keyL hy
  exact ⟨p, _, rfl, ⟨xs, k, b, ww.rawAt h, hk.at ww, rfl, hb, rfl⟩, q⟩
theorem n_nput {R : Hp → Prop} {M2 : HO → List ME} (ww : Wf F H M) (f : ∀ o', Foc M (.raw p (ndO P w p xs)) (M2 o') (.raw p o')) (hk : KnK F xs) (hy : Rk F M y (.tup (k.map lfD))) (hl : xs.length ≤ 100000) (q : ∀ b H', y = .ref b → Wf F H' (M2 (ndO P w p (putN xs k b v))) → R H') : NPutQ P w R (.ref p) y v H := by
  obtain ⟨b, rfl, hb⟩ := ww.keyL hy
  have h : .raw p (ndO P w p xs) ∈ M := (f (.lst [])).mem
  refine ⟨p, _, rfl, ⟨xs, k, b, ww.rawAt h, hk.at ww, rfl, hb, Nat.lt_of_le_of_lt hl (by decide), rfl⟩, q b _ rfl ?_⟩
  exact ww.put (f _) fun I m hF c => by cases c; exact ⟨rfl, .raw fun _ e => nomatch e⟩
end
/-! ### a list that may be changed, handed to a def of the elder form -/
theorem Rem.of {M : List ME} {e : ME} (h : e ∈ M) : ∃ M', Rem M e M' := by
  induction M with
  | nil => cases h
  | cons x M ih =>
    rcases List.mem_cons.mp h with rfl | h
    · exact ⟨M, .here⟩
    · obtain ⟨M', r⟩ := ih h
      exact ⟨x :: M', .there r⟩
theorem Wf.oldL {F : List (V × D)} {H : Hp} {M M' : List ME} {p : Addr} {ds : List D} (w : Wf F H M) (r : Rem M (.ml p ds) M') : ∃ I Mc, W I H Mc ∧ Is I (.ref p) (.lst ds) ∧ (∀ v d, Kn F v d → Is I v d) ∧ (∀ J H', Same I J → W J H' Mc → Wf F H' M) ∧ ∀ J H' u a b, Same I J → W J H' Mc → Is J u (.tup [.int a, .int b]) → Wf ((u, .tup [.int a, .int b]) :: F) H' M := by
  obtain ⟨I, Mc, w, ac, hF⟩ := w.ex
  obtain ⟨M1, m, M2, rfl, h1, h2⟩ := ac.rem r
  cases h1 with
  | @ml _ vs _ b =>
    have hI : I p = none := (w.mu _ (List.mem_append_right _ List.mem_cons_self)).2
    have go : ∀ J H', Same (upd I p (.lst vs)) J → W J H' (M1 ++ M2) → Same I (fun x => if x = p then none else J x) ∧ W (fun x => if x = p then none else J x) H' (M1 ++ (p, .lst vs) :: M2) := fun J H' s w' => by
      have hJ : J p = some (.lst vs) := s _ _ upd_same
      refine ⟨fun c x e => ?_, fun c x e => ?_, fun x hx => ?_, w.nd⟩
      · have ne : c ≠ p := fun q => by rw [q, hI] at e; cases e
        show (if c = p then none else J c) = some x
        rw [if_neg ne]
        exact s _ _ (by rw [upd_ne ne]; exact e)
      · have e' : (if c = p then none else J c) = some x := e
        by_cases ne : c = p
        · rw [if_pos ne] at e'; cases e'
        · rw [if_neg ne] at e'
          exact w'.imm _ _ e'
      · rcases List.mem_append.mp hx with hx | hx
        · obtain ⟨q1, q2⟩ := w'.mu x (List.mem_append_left _ hx)
          exact ⟨q1, by show (if x.1 = p then none else J x.1) = none; rw [q2]; split <;> rfl⟩
        · rcases List.mem_cons.mp hx with rfl | hx
          · exact ⟨w'.imm _ _ hJ, if_pos rfl⟩
          · obtain ⟨q1, q2⟩ := w'.mu x (List.mem_append_right _ hx)
            exact ⟨q1, by show (if x.1 = p then none else J x.1) = none; rw [q2]; split <;> rfl⟩
    refine ⟨upd I p (.lst vs), M1 ++ M2, w.frz, .lst upd_same (b.mono w.frzS), fun v d h => (h.is hF).mono w.frzS, fun J H' s w' => ?_, fun J H' u x y s w' hu => ?_⟩
    · obtain ⟨g1, g2⟩ := go J H' s w'
      exact ⟨_, _, g2, ac.mono g1, fun f hf => (hF f hf).mono g1⟩
    · obtain ⟨g1, g2⟩ := go J H' s w'
      refine ⟨_, _, g2, ac.mono g1, fun f hf => ?_⟩
      rcases List.mem_cons.mp hf with rfl | hf
      · have hJ : J p = some (.lst vs) := s _ _ upd_same
        obtain ⟨q, us, e, hq, hh⟩ := hu.tup_ex
        subst e
        have ne : q ≠ p := fun z => by rw [z, hJ] at hq; cases hq
        refine .tup (show (if q = p then none else J q) = some (.tup us) by rw [if_neg ne]; exact hq) ?_
        cases hh with
        | cons k1 hh =>
          cases hh with
          | cons k2 hh =>
            cases hh
            cases k1
            cases k2
            exact .cons (.int _) (.cons (.int _) .nil)
      · exact (hF f hf).mono g1
/-- .. or for good -/
theorem Wf.oldR {F : List (V × D)} {H : Hp} {M : List ME} {v : V} {ds : List D} (w : Wf F H M) (h : Rk F M v (.lst ds)) : ∃ I Mc, W I H Mc ∧ Is I v (.lst ds) ∧ (∀ v d, Kn F v d → Is I v d) ∧ (∀ J H', Same I J → W J H' Mc → Wf F H' M) ∧ ∀ J H' u a b, Same I J → W J H' Mc → Is J u (.tup [.int a, .int b]) → Wf ((u, .tup [.int a, .int b]) :: F) H' M := by
  cases h with
  | mem h =>
    obtain ⟨I, Mc, w, is, k1, k2⟩ := w.old
    exact ⟨I, Mc, w, is _ _ (.mem h), is, k1, fun J H' u a b s w' hu => k2 J H' u _ s w' hu⟩
  | ml h =>
    obtain ⟨M', r⟩ := Rem.of h
    exact w.oldL r
end Fs

namespace Fs
open PySem PySem.Spec PyProof.Rows L2
theorem s_rng2 {σ : L2.St} {H : Hp} {ta : TA} {R : It → Hp → Prop} (h : ta σ H fun vs H1 => ∃ i j : Int, vs = [.int i, .int j] ∧ (-(2 ^ 62) ≤ i ∧ i < 2 ^ 62 ∧ -(2 ^ 62) ≤ j ∧ j < 2 ^ 62) ∧ R (Itr i (j - i).toNat) H1) : iRng2 ta σ H R := h
theorem s_rng2' {P : Int → Int → Prop} {i j : Int} (h1 : -(2 ^ 62) ≤ i) (h2 : i < 2 ^ 62) (h3 : -(2 ^ 62) ≤ j) (h4 : j < 2 ^ 62) (h : P i j) : ∃ i' j' : Int, [V.int i, V.int j] = [.int i', .int j'] ∧ (-(2 ^ 62) ≤ i' ∧ i' < 2 ^ 62 ∧ -(2 ^ 62) ≤ j' ∧ j' < 2 ^ 62) ∧ P i' j' := ⟨i, j, rfl, ⟨h1, h2, h3, h4⟩, h⟩
section
variable {K : PySem.W.Frag} {σ : L2.St} {H : Hp} {F : List (V × D)} {M M' : List ME} {Q : VK} {G : Ends} {v u x y : V} {ds es : List D} {g : TG} {tb : TS} {te : TE} {tt : TT} {a b : Addr} {J : It} {n : Nat} {f : Nat → D} {OK : List (V × D) → List ME → Prop}
/-- any comprehension, what is known and what may be changed goes along -/
theorem n_lcK {xs : List Nat} (S : Src J n f OK) (w : Wf F H M) (R : Nat → List D → List (V × D) → List ME → Prop) (okm : ∀ i D acc F M, R i acc F M → OK F (.ml D acc :: M)) (h0 : R 0 [] F M) (hn : n ≤ 100000)
    (step : ∀ i x D acc H0 F M (Ap : VK) (Sk : Hp → Prop), i < n → R i acc F M → Wf ((x, f i) :: F) H0 (.ml D acc :: M) → (∀ y d H4 F' M', Wf ((y, d) :: F') H4 (.ml D acc :: M') → R (i + 1) (acc ++ [d]) F' M' → Ap y H4) → (∀ H3 F' M', Wf F' H3 (.ml D acc :: M') → R (i + 1) acc F' M' → Sk H3) →
      g x (wipe σ xs) H0 fun σ2 H2 => wipe σ2 xs = wipe σ xs ∧ tt σ2 H2 fun b H3 => if b = true then te σ2 H3 Ap else Sk H3)
    (q : ∀ p es H' F' M', R n es F' M' → Wf F' H' (.ml p es :: M') → Q (.ref p) H') : LcGo J g tt te xs σ Q H := by
  intro D nD
  have w0 : Wf F (upd H D (.lst [])) (.ml D [] :: M) := by
    obtain ⟨I, Mc, w, a, hF⟩ := w.ex
    exact ⟨I, _, w.newM nD, .cons (.ml .nil) a, hF⟩
  refine ⟨fun i m H => m = n - i ∧ i ≤ n ∧ ∃ acc F M, R i acc F M ∧ acc.length ≤ i ∧ Wf F H (.ml D acc :: M), ⟨n, rfl, Nat.zero_le _, [], F, M, h0, Nat.le_refl _, w0⟩, ?_⟩
  rintro i m H ⟨rfl, hi, acc, F, M, hR, hl, w⟩
  by_cases hlt : i < n
  · refine .inr ⟨S.go i H _ _ hlt (okm _ _ _ _ _ hR) w, fun H' => ∃ acc F M, R (i + 1) acc F M ∧ acc.length ≤ i + 1 ∧ Wf F H' (.ml D acc :: M), fun H' ⟨acc', F', M', h1, h2, h3⟩ => ⟨n - (i + 1), by omega, rfl, hlt, acc', F', M', h1, h2, h3⟩, fun x H' y => ?_⟩
    refine step i x D acc H' F M _ _ hlt hR (S.yld i H _ _ x H' hlt (okm _ _ _ _ _ hR) w y) (fun y d H4 F' M' w4 r => ?_) fun H3 F' M' w3 r => ⟨acc, F', M', r, by omega, w3⟩
    obtain ⟨vs, h1, h2⟩ := w4.lstAt List.mem_cons_self
    have w5 : Wf F' (upd H4 D (.lst (vs ++ [y]))) (.ml D (acc ++ [d]) :: M') := by
      obtain ⟨I, Mc, w, a, hF⟩ := w4.ex
      cases a with
      | cons h a =>
        cases h with
        | ml b =>
          have := w.at0
          rw [this] at h1
          cases h1
          exact ⟨I, _, w.put0, .cons (.ml (b.app (.one (hF _ List.mem_cons_self)))) a, fun f hf => hF f (List.mem_cons_of_mem _ hf)⟩
    exact ⟨vs, h1, by rw [h2]; exact Nat.lt_of_le_of_lt hl (Nat.lt_of_lt_of_le hlt (Nat.le_trans hn (by decide))), acc ++ [d], F', M', r, by rw [List.length_append]; exact Nat.add_le_add_right hl 1, w5⟩
  · have e : i = n := by omega
    subst e
    exact .inl ⟨S.stop H _ _ (okm _ _ _ _ _ hR) w, q D acc H F M hR w⟩
theorem n_lcKL {xs : List Nat} (w : Wf F H M) (R : Nat → List D → List (V × D) → List ME → Prop) (hv : ∀ i acc F M, R i acc F M → Rk F M v (.lst ds)) (h0 : R 0 [] F M) (hn : ds.length ≤ 100000)
    (step : ∀ i d x D acc H0 F M (Ap : VK) (Sk : Hp → Prop), ds[i]? = some d → R i acc F M → Wf ((x, d) :: F) H0 (.ml D acc :: M) → (∀ y d H4 F' M', Wf ((y, d) :: F') H4 (.ml D acc :: M') → R (i + 1) (acc ++ [d]) F' M' → Ap y H4) → (∀ H3 F' M', Wf F' H3 (.ml D acc :: M') → R (i + 1) acc F' M' → Sk H3) →
      g x (wipe σ xs) H0 fun σ2 H2 => wipe σ2 xs = wipe σ xs ∧ tt σ2 H2 fun b H3 => if b = true then te σ2 H3 Ap else Sk H3)
    (q : ∀ p es H' F' M', R ds.length es F' M' → Wf F' H' (.ml p es :: M') → Q (.ref p) H') : ∃ a, v = .ref a ∧ (∃ xs, SqL K H a xs) ∧ LcGo (Itl K a) g tt te xs σ Q H := by
  obtain ⟨I, Mc, p, vs, rfl, w1, ac, hF, hp, b⟩ := w.lstE (hv _ _ _ _ h0)
  refine ⟨p, rfl, ⟨vs, .inl (.inl hp)⟩, n_lcK src_list w R (fun i D acc F M h => (hv _ _ _ _ h).more) h0 hn (fun i x D acc H0 F M Ap Sk hi hR w k1 k2 => ?_) q⟩
  have e1 : ds[i]? = some ds[i] := List.getElem?_eq_getElem hi
  rw [getD_of e1] at w
  exact step i _ x D acc H0 F M Ap Sk e1 hR w k1 k2
end
/-! ### whether a number is among some -/
theorem k_in {X : Cx} {K : PySem.W.Frag} (h : X.K = K) : OpR X (compareOp .In) (rIn K false) := h ▸ op_in_seq
theorem k_notin {X : Cx} {K : PySem.W.Frag} (h : X.K = K) : OpR X (compareOp .NotIn) (rIn K true) := h ▸ op_notIn_seq
theorem inV_ints (n : Int) : ∀ ns : List Int, inV (.int n) (ns.map V.int) = decide (n ∈ ns)
  | [] => rfl
  | m :: ns => by
    have := inV_ints n ns
    unfold inV at this ⊢
    rw [List.map_cons, List.any_cons, this]
    have e : eqV (.int m) (.int n) = decide (n = m) := by
      show (m == n) = _
      by_cases h : n = m
      · subst h; simp
      · have h2 : m ≠ n := fun z => h z.symm
        simp [h, h2]
    rw [e]
    simp only [List.mem_cons, Bool.decide_or]
theorem flat_ints : ∀ ns : List Int, (ns.map V.int).all flatV = true
  | [] => rfl
  | _ :: ns => by rw [List.map_cons, List.all_cons, flat_ints ns]; rfl
section
variable {K : PySem.W.Frag} {H : Hp} {F : List (V × D)} {M : List ME} {Q : VK} {v : V}
theorem n_in {ns : List Int} {n : Int} (w : Wf F H M) (h : Rk F M v (.lst (ns.map D.int))) (q : Q (.bl (decide (n ∈ ns))) H) : rIn K false (.int n) v H Q := by
  obtain ⟨p, rfl, hp⟩ := w.ints h
  exact ⟨p, _, rfl, .inl (.inl (.inl hp)), rfl, flat_ints ns, by rw [inV_ints]; exact q⟩
theorem n_notin {ns : List Int} {n : Int} (w : Wf F H M) (h : Rk F M v (.lst (ns.map D.int))) (q : Q (.bl (!decide (n ∈ ns))) H) : rIn K true (.int n) v H Q := by
  obtain ⟨p, rfl, hp⟩ := w.ints h
  exact ⟨p, _, rfl, .inl (.inl (.inl hp)), rfl, flat_ints ns, by rw [inV_ints]; exact q⟩
end
def natD (n : Nat) : D := .int n
def nz (l : List Nat) : List Int := l.map fun e : Nat => (e : Int)
theorem natD_map (l : List Nat) : l.map natD = (nz l).map D.int := by unfold nz; rw [List.map_map]; rfl
theorem mem_nz {l : List Nat} {e : Nat} : (e : Int) ∈ nz l ↔ e ∈ l := by
  unfold nz
  rw [List.mem_map]
  constructor
  · rintro ⟨a, h, e⟩
    have : a = _ := Int.ofNat.inj e
    exact this ▸ h
  · exact fun h => ⟨e, h, rfl⟩
/-! ### list(d): the keys of a dict -/
def LdQ (Q : VK) (xs : List V) (H : Hp) : Prop := ∃ (a : Addr) (kvs : List (Key × V)), xs = [.ref a] ∧ Rd H a (.dK kvs) ∧ ∀ p, H p = none → Q (.ref p) (upd H p (.lst (kvs.map fun kv => kV kv.1)))
theorem k_listD {X : Cx} (hc : X.calm = true) : CallR X (.type "list") (fun xs H Q => LdQ Q xs H) := call_listD hc
theorem IsP.keys {I : Hp} : ∀ {vs : List (Key × V)} {ds : List (Key × D)}, IsP I vs ds → IsA I (vs.map fun kv => kV kv.1) (ds.map fun kv => keyD kv.1)
  | _, _, .nil => .nil
  | _, _, .cons (f := k) h a => .cons (by cases k with | inl i => exact .int i | inr i => exact .str i) (IsP.keys a)
theorem n_listD {H : Hp} {F : List (V × D)} {M : List ME} {Q : VK} {p : Addr} {kvs : List (Key × D)} (w : Wf F H M) (h : .dk p kvs ∈ M) (q : ∀ l H', Wf F H' (.ml l (kvs.map fun kv => keyD kv.1) :: M) → Q (.ref l) H') : LdQ Q [.ref p] H := by
  obtain ⟨I, Mc, vs, w, a, hF, hp, ha⟩ := w.dkAt h
  exact ⟨p, vs, rfl, .inl hp, fun l hl => q l _ ⟨I, _, w.newM hl, .cons (.ml ha.keys) a, hF⟩⟩
end Fs

namespace Fs
open PySem PySem.Spec PyProof.Rows L2
local macro_rules | `(tactic| wtm_at "is") => `(tactic| first | assumption | exact Is.int _ | exact Is.bl _ | exact Is.non | exact Is.str _ | ((refine' Is.mono ?s ?h); (case s => assumption); (case h => wtm_at "is")))
local macro_rules | `(tactic| wtm_at "isa") => `(tactic| first | exact IsA.nil | ((refine' IsA.cons ?x ?y); (case x => wtm_at "is"); (case y => wtm_at "isa")) | assumption)
local macro_rules | `(tactic| wtm_at "lst") => `(tactic| first | assumption | exact W.at0 (by assumption) | exact W.at1 (by assumption) | exact W.at2 (by assumption) | ((refine' W.imm ?w _ _ ?h); (case w => assumption); (case h => assumption)))
local macro_rules | `(tactic| wtm_at "inv") => `(tactic| (intro u hu; first | (have e := Is.int_eq hu; subst e) | (have e := Is.bl_eq hu; subst e) | (have e := Is.non_eq hu; subst e) | (have e := Is.str_eq hu; subst e) | (have e := Is.ref_eq hu; subst e) | skip))
local macro_rules | `(tactic| wtm_at "e1") => `(tactic| first
  | (with_reducible refine' s_var ?h ?_); (case h => exact rfl)
  | with_reducible refine s_c ?_
  | with_reducible refine s_op ?_
  | with_reducible refine s_cons ?_
  | with_reducible refine s_nil ?_
  | with_reducible refine s_I0 ?_
  | with_reducible refine s_add ?_
  | with_reducible refine s_U ?_
  | with_reducible refine s_un ?_
  | with_reducible refine s_test ?_
  | with_reducible refine s_B ?_
  | with_reducible refine s_k ?_
  | with_reducible refine s_call ?_
  | with_reducible refine s_callS ?_
  | with_reducible refine s_callN ?_
  | with_reducible refine s_makeX ?_
  | with_reducible refine s_cb ?_
  | with_reducible refine s_not ?_
  | with_reducible refine s_and ?_
  | with_reducible refine s_or ?_
  | with_reducible refine s_andV ?_
  | with_reducible refine s_orV ?_
  | with_reducible refine s_notV ?_
  | with_reducible refine s_if ?_
  | with_reducible refine s_chain ?_
  | with_reducible refine s_isN ?_
  | with_reducible refine s_notN ?_
  | with_reducible refine s_tup ?_
  | with_reducible refine s_lst ?_
  | with_reducible refine s_fldQ ?_
  | with_reducible refine s_make ?_
  | with_reducible refine s_makeK ?_
  | with_reducible refine s_meth ?_
  | with_reducible refine s_rev ?_
  | with_reducible refine s_sl ?_
  | with_reducible refine s_noP ?_
  | with_reducible refine s_part ?_
  | with_reducible refine s_part' ?_
  | with_reducible refine s_lcc ?_
  | with_reducible refine s_yes ?_
  | with_reducible refine s_abs ?_
  | with_reducible refine s_intB ?_
  | with_reducible refine s_intI ?_
  | with_reducible refine s_min2 ?_
  | with_reducible refine s_max2 ?_
  | with_reducible refine s_ipI ?_
  | ((with_reducible refine' s_ixT (by assumption) ?h ?d ?_); (case h => wtm_at "is"); (case d => exact rfl); wtm_at "inv")
  | ((with_reducible refine' s_ixL (by assumption) ?h ?d ?_); (case h => wtm_at "is"); (case d => exact rfl); wtm_at "inv")
  | ((with_reducible refine' s_ixM ?h ?d ?_); (case h => wtm_at "lst"); (case d => exact rfl))
  | ((with_reducible refine' s_ixLM ?h ?d ?_); (case h => wtm_at "lst"); (case d => exact rfl))
  | ((with_reducible refine' s_fldI (by assumption) ?h ?c ?n ?f ?d ?_); (case h => wtm_at "is"); (case c => exact OwnC.cl (by assumption)); (case n => assumption); (case f => decide); (case d => exact rfl); wtm_at "inv")
  | ((with_reducible refine' s_lenT (by assumption) ?h ?_); (case h => wtm_at "is"))
  | ((with_reducible refine' s_lenL (by assumption) ?h ?_); (case h => wtm_at "is"))
  | ((with_reducible refine' s_lenM ?h ?_); (case h => wtm_at "lst"))
  | ((with_reducible refine' s_I ?c ?_); (case c => exact ⟨⟨by decide, by decide, by decide⟩, by decide⟩))
  | ((with_reducible refine' s_eq ?h ?_); (case h => exact rfl))
  | ((with_reducible refine' s_ne ?h ?_); (case h => exact rfl))
  | ((with_reducible refine' s_isi (by assumption) ?h ?e ?k ?_); (case h => wtm_at "is"); (case e => exact rfl); (case k => first | exact kit_ii | exact kit_ib | exact kit_bi | exact kit_bb | exact kit_tt | exact kit_ll | decide +kernel)))
local macro_rules | `(tactic| wtm_at "s1") => `(tactic| first
  | with_reducible refine s_seq ?_
  | with_reducible refine s_asg ?_
  | with_reducible refine s_gname ?_
  | with_reducible refine s_ret ?_
  | with_reducible refine s_ifS ?_
  | with_reducible refine s_drop ?_
  | with_reducible refine s_next ?_
  | with_reducible refine s_par ?_
  | with_reducible refine s_par2 ?_
  | with_reducible refine s_for ?_
  | with_reducible refine s_bm ?_
  | with_reducible refine s_bm0 ?_
  | with_reducible refine s_gsub ?_
  | with_reducible refine s_sfld ?_
  | with_reducible refine s_augS ?_
  | ((with_reducible refine' s_setW0 (by assumption) ?j ?_); (case j => exact rfl); (intro H' w'))
  | ((with_reducible refine' s_setW1 (by assumption) ?j ?_); (case j => exact rfl); (intro H' w'))
  | ((with_reducible refine' s_tyL ?h ?_); (case h => wtm_at "lst"))
  | with_reducible refine s_gnil ?_
  | with_reducible refine s_gcons ?_
  | with_reducible refine s_retN ?_
  | with_reducible refine s_rng1 ?_
  | with_reducible refine s_rng2 ?_
  | with_reducible refine s_zip ?_
  | ((with_reducible refine' s_aug ?h ?_); (case h => exact rfl))
  | with_reducible refine s_iL ?_
  | with_reducible refine s_iT ?_
  | with_reducible refine s_cnt ?_
  | with_reducible refine s_brk ?_)
local macro_rules | `(tactic| wtm_at "b1") => `(tactic| first
  | with_reducible refine iteT ?_
  | with_reducible refine iteF ?_
  | with_reducible refine s_iteN ?_
  | with_reducible refine s_intN ?_
  | with_reducible refine s_refN ?_
  | with_reducible refine s_nonN ?_
  | ((with_reducible refine s_iteIp ?h ?_); (case h => exact rfl)))
local macro_rules | `(tactic| wtm_at "o1") => `(tactic| first
  | ((with_reducible refine' s_mul ?c ?_); (case c => exact cm64 (by omega) (by omega) (by omega) (by omega)))
  | ((with_reducible refine' s_I ?c ?_); (case c => first | exact cd64 (by omega) (by omega) | (show (0 : Int) < _; omega) | exact ⟨⟨by decide, by decide, by decide⟩, by decide⟩))
  | with_reducible refine s_iteIp (by omega) ?_
  | with_reducible refine s_iteIn (by omega) ?_
  | with_reducible refine s_iteDp (by omega) ?_
  | with_reducible refine s_iteDn (by omega) ?_)
local macro_rules | `(tactic| wtm_at "go") => `(tactic| repeat (first | wtm_at "e1" | wtm_at "s1" | wtm_at "b1"))
local macro_rules | `(tactic| wtm_at "goo") => `(tactic| repeat (first | wtm_at "e1" | wtm_at "s1" | wtm_at "b1" | wtm_at "o1"))
local macro_rules | `(tactic| wtm_at "st") => `(tactic| (wtm_at "s1"; wtm_at "s1"))
local macro_rules | `(tactic| wtm_at "fork") => `(tactic| first
  | with_reducible refine s_iteI (fun _ => ?_) (fun _ => ?_)
  | with_reducible refine s_iteD (fun _ => ?_) (fun _ => ?_)
  | with_reducible refine s_ite (fun _ => ?_) (fun _ => ?_))
local macro_rules | `(tactic| wtm_at "mem") => `(tactic| first | with_reducible exact List.mem_cons_self | assumption | ((with_reducible refine' List.mem_cons_of_mem _ ?h); (case h => wtm_at "mem")))
local macro_rules | `(tactic| wtm_at "kn") => `(tactic| first | with_reducible exact Kn.int _ | with_reducible exact Kn.bl _ | with_reducible exact Kn.str _ | with_reducible exact Kn.non | ((refine' Kn.mem ?h); (case h => wtm_at "mem")) | assumption | exact Kn.ty _ | exact Kn.ref _)
local macro_rules | `(tactic| wtm_at "kn0") => `(tactic| first | with_reducible exact Kn.int _ | with_reducible exact Kn.bl _ | with_reducible exact Kn.str _ | with_reducible exact Kn.non | ((refine' Kn.mem ?h); (case h => wtm_at "mem")) | assumption | with_reducible exact Kn.ty _)
local macro_rules | `(tactic| wtm_at "kna0") => `(tactic| first | exact KnA.nil | ((refine' KnA.cons ?x ?y); (case x => wtm_at "kn0"); (case y => wtm_at "kna0")))
local macro_rules | `(tactic| wtm_at "kna") => `(tactic| first | exact KnA.nil | ((refine' KnA.cons ?x ?y); (case x => wtm_at "kn"); (case y => wtm_at "kna")))
local macro_rules | `(tactic| wtm_at "rk") => `(tactic| first | with_reducible exact Rk.int _ | with_reducible exact Rk.bl _ | with_reducible exact Rk.str _ | with_reducible exact Rk.non | ((refine' Rk.mem ?h); (case h => wtm_at "mem")) | ((with_reducible refine' Rk.ml ?h); (case h => wtm_at "mem")) | ((with_reducible refine' Rk.mi ?h); (case h => wtm_at "mem")) | wtm_at "rkM")
local macro_rules | `(tactic| wtm_at "rkF") => `(tactic| first | assumption | ((with_reducible refine' Rk.moreF ?h); (case h => wtm_at "rkF")))
local macro_rules | `(tactic| wtm_at "rkM") => `(tactic| first | wtm_at "rkF" | ((with_reducible refine' Rk.more ?h); (case h => wtm_at "rkM")))
local macro_rules | `(tactic| wtm_at "foc") => `(tactic| first | with_reducible exact Foc.here | ((with_reducible refine' Foc.there ?h); (case h => wtm_at "foc")))
local macro_rules | `(tactic| wtm_at "rem") => `(tactic| first | with_reducible exact Rem.here | ((with_reducible refine' Rem.there ?h); (case h => wtm_at "rem")))
local macro_rules | `(tactic| wtm_at "ks") => `(tactic| first | with_reducible exact KS.refl | with_reducible exact KS.nil | ((with_reducible refine' KS.cons ?x ?y); (case x => wtm_at "kn"); (case y => wtm_at "ks")) | ((with_reducible refine' KS.drop ?h); (case h => wtm_at "ks")))
local macro_rules | `(tactic| wtm_at "sl") => `(tactic| first | with_reducible exact List.Sublist.refl _ | with_reducible exact List.nil_sublist _ | ((with_reducible refine' List.Sublist.cons_cons _ ?h); (case h => wtm_at "sl")) | ((with_reducible refine' List.Sublist.cons _ ?h); (case h => wtm_at "sl")))
local macro_rules | `(tactic| wtm_at "wf") => `(tactic| first | assumption | ((refine' Wf.sub ?w ?k ?s); (case w => assumption); (case k => wtm_at "ks"); (case s => wtm_at "sl")))
local macro_rules | `(tactic| wtm_at "wf1") => `(tactic| ((refine' Wf.sub ?w ?k ?s); (case w => assumption); (case k => refine' KS.cons (Kn.mem List.mem_cons_self) ?y; (case y => wtm_at "ks")); (case s => first | wtm_at "sl" | exact List.Sublist.refl _)))
local macro_rules | `(tactic| wtm_at "wfd") => `(tactic| ((refine' Wf.sub ?w ?k ?s); (case w => assumption); (case k => wtm_at "ks"); (case s => exact List.Sublist.refl _)))
local macro_rules | `(tactic| wtm_at "lc") => `(tactic| (simp only [List.length_cons, List.length_nil, List.length_map, List.length_append, List.length_singleton, List.length_reverse, List.length_set, List.length_replicate, List.length_range] at *; omega))
local macro_rules | `(tactic| wtm_at "c1") => `(tactic| fail)
local macro_rules | `(tactic| wtm_at "c0") => `(tactic| fail)
local macro_rules | `(tactic| wtm_at "n2") => `(tactic| first
  | with_reducible refine s_dget ?_
  | with_reducible refine s_din ?_
  | with_reducible refine s_dnotin ?_
  | with_reducible refine s_dput ?_
  | with_reducible refine s_nget ?_
  | with_reducible refine s_nnotin ?_
  | with_reducible refine s_nput ?_
  | with_reducible refine s_enum ?_
  | ((with_reducible refine' s_iteDp ?h ?_); (case h => with_reducible exact rfl))
  | with_reducible refine s_iS ?_)
local macro_rules | `(tactic| wtm_at "n1") => `(tactic| first
  | ((with_reducible refine' n_ixTi (by assumption) ?h ?d ?_); (case h => wtm_at "rk"); (case d => exact rfl))
  | ((with_reducible refine' n_ixTr (by assumption) ?h ?d ?_); (case h => wtm_at "rk"); (case d => exact rfl))
  | ((with_reducible refine' n_ixLi (by assumption) ?h ?d ?_); (case h => wtm_at "rk"); (case d => exact rfl))
  | ((with_reducible refine' n_ixLr (by assumption) ?h ?d ?_); (case h => wtm_at "rk"); (case d => exact rfl))
  | ((with_reducible refine' n_ixTn (by assumption) ?h ?d ?_); (case h => wtm_at "rk"); (case d => exact rfl))
  | ((with_reducible refine' n_ixT (by assumption) ?h ?d ?_); (case h => wtm_at "rk"); (case d => exact rfl); (intro u w'))
  | ((with_reducible refine' n_ixL (by assumption) ?h ?d ?_); (case h => wtm_at "rk"); (case d => first | exact rfl | with_reducible exact atI_head | with_reducible exact atI_last _ _); (intro u w'))
  | ((with_reducible refine' n_lenL (by assumption) ?h ?_); (case h => wtm_at "rk"))
  | ((with_reducible refine' n_lenT (by assumption) ?h ?_); (case h => wtm_at "rk"))
  | ((with_reducible refine' n_newT (by assumption) ?a ?z ?_); (case a => wtm_at "kna0"); (case z => exact Nat.le_of_ble_eq_true rfl); (intro p H' w'))
  | ((with_reducible refine' n_newL (by assumption) ?a ?z ?_); (case a => wtm_at "kna0"); (case z => exact Nat.le_of_ble_eq_true rfl); (intro p H' w'))
  | ((with_reducible refine' n_gtupII (by assumption) ?h ?_); (case h => wtm_at "rk"))
  | ((with_reducible refine' n_gtupIII (by assumption) ?h ?_); (case h => wtm_at "rk"))
  | ((with_reducible refine' n_gtup2 (by assumption) ?h ?_); (case h => wtm_at "rk"); (intro x y w'))
  | ((with_reducible refine' n_gtup3 (by assumption) ?h ?_); (case h => wtm_at "rk"); (intro x y z w'))
  | ((with_reducible refine' n_gtup4 (by assumption) ?h ?_); (case h => wtm_at "rk"); (intro x y z u w'))
  | ((with_reducible refine' n_tyL (by assumption) ?h ?_); (case h => wtm_at "mem"))
  | ((with_reducible refine' n_app (by assumption) ?f ?h ?z ?_); (case f => wtm_at "foc"); (case h => wtm_at "kn0"); (case z => first | omega | (simp; done) | (simp; omega)); (intro H' w'))
  | ((with_reducible refine' n_clear (by assumption) ?f ?_); (case f => wtm_at "foc"); (intro H' w'))
  | ((with_reducible refine' n_set (by assumption) ?f ?h ?z ?_); (case f => wtm_at "foc"); (case h => wtm_at "kn"); (case z => exact rfl); (intro H' w'))
  | ((with_reducible refine' n_sl (by assumption) ?h ?_); (case h => wtm_at "rk"); (intro p H' w'))
  | ((with_reducible refine' n_list (by assumption) ?h ?_); (case h => wtm_at "rk"); (intro p H' w'))
  | ((with_reducible refine' n_listT (by assumption) ?h ?_); (case h => wtm_at "rk"); (intro p H' w'))
  | ((with_reducible refine' n_rev (by assumption) ?h ?_); (case h => wtm_at "rk"); (intro p H' w'))
  | ((with_reducible refine' n_isi (by assumption) ?h ?e ?k ?_); (case h => wtm_at "rk"); (case e => exact rfl); (case k => first | exact kit_ii | exact kit_ib | exact kit_bi | exact kit_bb | exact kit_tt | exact kit_ll | decide +kernel))
  | ((with_reducible refine' n_fldi (by assumption) ?h ?c ?n ?f ?d ?_); (case h => wtm_at "rk"); (case c => exact OwnC.cl (by assumption)); (case n => assumption); (case f => decide); (case d => exact rfl))
  | ((with_reducible refine' n_fldr (by assumption) ?h ?c ?n ?f ?d ?_); (case h => wtm_at "rk"); (case c => exact OwnC.cl (by assumption)); (case n => assumption); (case f => decide); (case d => exact rfl))
  | ((with_reducible refine' n_fldn (by assumption) ?h ?c ?n ?f ?d ?_); (case h => wtm_at "rk"); (case c => exact OwnC.cl (by assumption)); (case n => assumption); (case f => decide); (case d => exact rfl))
  | ((with_reducible refine' n_fld (by assumption) ?h ?c ?n ?f ?d ?_); (case h => wtm_at "rk"); (case c => exact OwnC.cl (by assumption)); (case n => assumption); (case f => decide); (case d => exact rfl); (intro u w'))
  | ((with_reducible refine' n_meth (by assumption) ?h ?m ?_); (case h => wtm_at "rk"); (case m => first | decide | (simp only [List.map_cons, List.map_nil]; decide)))
  | ((with_reducible refine' n_sf (by assumption) ?f ?h ?c ?n ?z ?g ?_); (case f => wtm_at "foc"); (case h => wtm_at "kn"); (case c => exact OwnC.cl (by assumption)); (case n => assumption); (case z => decide); (case g => first | decide | (simp; done)); (intro H' w')))
local macro_rules | `(tactic| wtm_at "f1") => `(tactic| first
  | (with_reducible refine' s_var ?h ?_); (case h => exact rfl)
  | with_reducible refine s_c ?_
  | with_reducible refine s_op ?_
  | with_reducible refine s_cons ?_
  | with_reducible refine s_nil ?_
  | with_reducible refine s_seq ?_
  | with_reducible refine s_asg ?_
  | with_reducible refine s_gname ?_
  | with_reducible refine s_ifS ?_
  | with_reducible refine s_test ?_
  | with_reducible refine s_k ?_
  | with_reducible refine s_call ?_
  | with_reducible refine s_callS ?_
  | with_reducible refine s_callN ?_
  | with_reducible refine s_makeX ?_
  | with_reducible refine s_cb ?_
  | with_reducible refine s_I0 ?_
  | with_reducible refine iteT ?_
  | with_reducible refine iteF ?_
  | with_reducible refine s_next ?_
  | with_reducible refine s_iteN ?_
  | with_reducible refine s_add ?_
  | with_reducible refine s_ret ?_)
local macro_rules | `(tactic| wtm_at "n") => `(tactic| repeat (first | wtm_at "f1" | wtm_at "n1" | wtm_at "n2" | wtm_at "e1" | wtm_at "s1" | wtm_at "b1" | wtm_at "c0"))
local macro_rules | `(tactic| wtm_at "no") => `(tactic| repeat (first | wtm_at "f1" | wtm_at "n1" | wtm_at "n2" | wtm_at "e1" | wtm_at "s1" | wtm_at "b1" | wtm_at "c0" | wtm_at "o1"))
local macro_rules | `(tactic| wtm_at "na") => `(tactic| repeat (first | wtm_at "f1" | wtm_at "n1" | wtm_at "n2" | wtm_at "e1" | wtm_at "s1" | wtm_at "b1" | wtm_at "c0" | wtm_at "o1" | wtm_at "c1"))
local macro_rules | `(tactic| wtm_at "x1") => `(tactic| first
  | (with_reducible refine' s_var ?h ?_); (case h => exact rfl)
  | with_reducible refine s_c ?_
  | with_reducible refine s_op ?_
  | with_reducible refine s_cons ?_
  | with_reducible refine s_nil ?_
  | with_reducible refine s_asg ?_
  | with_reducible refine s_gname ?_
  | with_reducible refine s_drop ?_
  | with_reducible refine s_par ?_
  | with_reducible refine s_par2 ?_
  | with_reducible refine s_bm ?_
  | with_reducible refine s_bm0 ?_
  | with_reducible refine s_gsub ?_
  | with_reducible refine s_sfld ?_
  | with_reducible refine s_augS ?_
  | with_reducible refine s_gnil ?_
  | with_reducible refine s_gcons ?_
  | ((with_reducible refine' s_aug ?h ?_); (case h => exact rfl)))
local macro_rules | `(tactic| wtm_at "st2") => `(tactic| repeat (first | wtm_at "x1" | wtm_at "n1" | wtm_at "e1" | wtm_at "b1"))
local macro_rules | `(tactic| wtm_at "kk") => `(tactic| repeat (first | with_reducible refine s_k ?_ | with_reducible refine iteT ?_ | with_reducible refine iteF ?_ | with_reducible refine s_iteN ?_))
section
variable {P : Program} {w : World} {K : PySem.W.Frag} {mg : Str → Option Value} {base : Heap}
variable {C_Part C_Wrong C_FairError : Addr}
def top (i : Nat) : Stmt := PySem.Challenge.pw_fairsheet_k85_reach_and_evens.main.body.getD i (.Pass ⟨0, 0, 0, 0⟩)
abbrev s_Wrong___init__ : Stmt := inClass (top 3) 0
theorem sc_Wrong___init__ : FnScope ["self", "at"] ["self", "at"] (defScope s_Wrong___init__) := ⟨rfl, rfl, rfl, by decide +kernel, rfl, by decide +kernel, by decide +kernel⟩
theorem okI_Wrong {f : Addr} {fd : FuncData} (F : Fun K "__init__" "Wrong.__init__" s_Wrong___init__ f fd) (B : ErrB K mg "FairError" C_FairError) (T : OexC K C_Wrong) (hn : PySem.W.findIn K (.ref C_Wrong) "at" = some none) : FnOk P w K mg base CX0 1 f fd ["self", "at"] (sp_xinit C_Wrong "at") := by
  refine F.ok sc_Wrong___init__ (fun vs H Q E h => ?_) (fun cdv A outer s H vs Q E hr h => ?_)
  · obtain ⟨a, v, rfl, _⟩ := h
    rfl
  · obtain ⟨a, v, rfl, ha, k⟩ := h
    refine ⟨_, pss_cons (ps_expr (pe_clinit B (by rfl) (pa_cons (pv 0) (pa_cons pe_str pa_nil)))) (pss_one (ps_ost (pv 0) (pv 1))), ?_⟩
    try dsimp only [cxOf, Cx.nox, Cx.wish, Cx.blk]
    wtm_at "go"
    refine s_veI ?_
    wtm_at "go"
    refine ⟨a, C_Wrong, _, rfl, by simp, T, ha, ?_⟩
    wtm_at "go"
    dsimp only
    refine s_ost ?_
    wtm_at "go"
    exact ⟨a, C_Wrong, rfl, T, hn, .inl ⟨ha, fun dx h1 h2 => k dx h1 h2⟩⟩

abbrev s_is_whole : Stmt := top 10
theorem sc_is_whole : FnScope ["thing"] ["thing"] (defScope s_is_whole) := ⟨rfl, rfl, rfl, by decide +kernel, rfl, by decide +kernel, by decide +kernel⟩
def sp_is_whole (K : PySem.W.Frag) : Sp := fun vs H Q _ => ∃ I M v d, vs = [v] ∧ W I H M ∧ Is I v d ∧ TyK K d ∧ Q (.bl d.whole) H
theorem use_isI {K : PySem.W.Frag} {I H : Hp} {M : List (Addr × HO)} {n : Int} {Q : VK} {E : XK} (w : W I H M) (q : Q (.bl true) H) : sp_is_whole K ([.int n] ++ []) H Q E := ⟨I, M, _, _, rfl, w, .int n, .inl ⟨_, rfl⟩, q⟩
theorem use_isN {K : PySem.W.Frag} {I H : Hp} {M : List (Addr × HO)} {v : V} {d : D} {a : String} {Q : VK} {E : XK} (w : W I H M) (h : Is I v d) (ha : d.tn = some a) (hd : d.whole = false) (q : Q (.bl false) H) : sp_is_whole K ([v] ++ []) H Q E := ⟨I, M, _, _, rfl, w, h, .inl ⟨_, ha⟩, by rw [hd]; exact q⟩
theorem n_isw {K : PySem.W.Frag} {F : List (V × D)} {H : Hp} {M : List ME} {v : V} {d : D} {Q : VK} {E : XK} (w : Wf F H M) (hv : Rk F M v d) (ht : TyK K d) (q : Q (.bl d.whole) H) : sp_is_whole K ([v] ++ []) H Q E := ⟨H, [], v, d, rfl, W.self, w.rd hv, ht, q⟩
theorem n_isI {K : PySem.W.Frag} {n : Int} {H : Hp} {Q : VK} {E : XK} (q : Q (.bl true) H) : sp_is_whole K ([.int n] ++ []) H Q E := ⟨H, [], .int n, .int n, rfl, W.self, .int n, .inl ⟨_, rfl⟩, q⟩
local macro_rules | `(tactic| wtm_at "c0") => `(tactic| with_reducible refine n_isI ?_)

theorem ok_is_whole {f : Addr} {fd : FuncData} (F : Fun K "is_whole" "is_whole" s_is_whole f fd) (B : Bn mg)  : FnOk P w K mg base CX0 1 f fd ["thing"] (sp_is_whole K) := by
  refine F.ok sc_is_whole (fun vs H Q E h => ?_) (fun cdv A outer s H vs Q E hr h => ?_)
  · obtain ⟨I, M, v, d, rfl, w, hv, ha, k⟩ := h
    all_goals rfl
  · obtain ⟨I, M, v, d, rfl, w, hv, ha, k⟩ := h
    refine ⟨_, (pss_one (ps_ret (pe_and (pe_callB (k_isi (K := K) rfl) (by rfl) B.isinstance_ (by decide +kernel) (pa_cons (pv 0) (pa_cons (pe_bltn (v := .ty "int") (by rfl) B.int_ (by decide +kernel) rfl) pa_nil))) (pe_one (pe_not (pe_callB (k_isi (K := K) rfl) (by rfl) B.isinstance_ (by decide +kernel) (pa_cons (pv 0) (pa_cons (pe_bltn (v := .ty "bool") (by rfl) B.bool_ (by decide +kernel) rfl) pa_nil)))))))), ?_⟩
    try dsimp only [cxOf, Cx.nox, Cx.wish, Cx.blk]
    rcases ha with ⟨a, ha⟩ | ⟨C, fs, rfl, oc, ki⟩
    · cases d with
      | int n => wtm_at "go"; exact k
      | bl n => wtm_at "go"; exact k
      | non => wtm_at "go"; exact k
      | str n => wtm_at "go"; exact k
      | tup n => wtm_at "go"; exact k
      | lst n => wtm_at "go"; exact k
      | ref n => cases ha
      | ty n => cases ha
      | obj n m => cases ha
      | dict => wtm_at "go"; exact k
    · wtm_at "go"
      refine s_isiO oc w hv ki ?_
      wtm_at "go"
      exact k
def D.upto (m : Int) : D → Bool
  | .int n => decide (0 ≤ n) && decide (n ≤ m)
  | _ => false
theorem upto_ok {n m : Int} (h0 : 0 ≤ n) (h1 : n ≤ m) : (D.int n).upto m = true := by simp [D.upto, h0, h1]

abbrev s_is_length : Stmt := top 11
theorem sc_is_length : FnScope ["thing"] ["thing"] (defScope s_is_length) := ⟨rfl, rfl, rfl, by decide +kernel, rfl, by decide +kernel, by decide +kernel⟩
def sp_is_length (K : PySem.W.Frag) : Sp := fun vs H Q _ => ∃ I M v d, vs = [v] ∧ W I H M ∧ Is I v d ∧ TyK K d ∧ Q (.bl (d.upto 1000000000000)) H
theorem use_is_length {K : PySem.W.Frag} {I H : Hp} {M : List (Addr × HO)} {n : Int} {Q : VK} {E : XK} (w : W I H M) (h0 : 0 ≤ n) (h1 : n ≤ 1000000000000) (q : Q (.bl true) H) : sp_is_length K ([.int n] ++ []) H Q E := ⟨I, M, _, _, rfl, w, .int n, .inl ⟨_, rfl⟩, by rw [upto_ok h0 h1]; exact q⟩

theorem ok_is_length {f : Addr} {fd : FuncData} (F : Fun K "is_length" "is_length" s_is_length f fd) (B : Bn mg) (c_is_whole : Cal P w K mg base "is_whole" 1 ["thing"] [] (sp_is_whole K)) (g_LENGTH : ∃ t, mg "LENGTH" = some (.int 1000000000000 t))  : FnOk P w K mg base CX0 2 f fd ["thing"] (sp_is_length K) := by
  refine F.ok sc_is_length (fun vs H Q E h => ?_) (fun cdv A outer s H vs Q E hr h => ?_)
  · obtain ⟨I, M, v, d, rfl, w, hv, ha, k⟩ := h
    all_goals rfl
  · obtain ⟨I, M, v, d, rfl, w, hv, ha, k⟩ := h
    refine ⟨_, (pss_one (ps_ret (pe_and (pe_cal c_is_whole (hr.mono (by decide)) (by rfl) (pa_cons (pv 0) pa_nil)) (pe_one (pe_chain op_le op_le pe_int (pv 0) (pe_globI (by rfl) g_LENGTH)))))), ?_⟩
    try dsimp only [cxOf, Cx.nox, Cx.wish, Cx.blk]
    wtm_at "go"
    refine ⟨I, M, _, _, rfl, w, hv, ha, ?_⟩
    cases d with
    | int n =>
      cases hv.int_eq
      dsimp only [D.whole]
      wtm_at "go"
      wtm_at "fork"
      · rename_i h1
        wtm_at "go"
        have e : (D.int n).upto 1000000000000 = decide (n ≤ 1000000000000) := by simp [D.upto, h1]
        rw [← e]; exact k
      · rename_i h1
        wtm_at "go"
        have e : (D.int n).upto 1000000000000 = false := by simp [D.upto, h1]
        rw [← e]; exact k
    | bl n => wtm_at "go"; exact k
    | non => wtm_at "go"; exact k
    | str n => wtm_at "go"; exact k
    | tup n => wtm_at "go"; exact k
    | lst n => wtm_at "go"; exact k
    | ref n => wtm_at "go"; exact k
    | ty n => wtm_at "go"; exact k
    | obj n m => wtm_at "go"; exact k
    | dict => wtm_at "go"; exact k
abbrev s_is_small : Stmt := top 12
theorem sc_is_small : FnScope ["thing"] ["thing"] (defScope s_is_small) := ⟨rfl, rfl, rfl, by decide +kernel, rfl, by decide +kernel, by decide +kernel⟩
def sp_is_small (K : PySem.W.Frag) : Sp := fun vs H Q _ => ∃ I M v d, vs = [v] ∧ W I H M ∧ Is I v d ∧ TyK K d ∧ Q (.bl (d.upto 1000000)) H
theorem use_is_small {K : PySem.W.Frag} {I H : Hp} {M : List (Addr × HO)} {n : Int} {Q : VK} {E : XK} (w : W I H M) (h0 : 0 ≤ n) (h1 : n ≤ 1000000) (q : Q (.bl true) H) : sp_is_small K ([.int n] ++ []) H Q E := ⟨I, M, _, _, rfl, w, .int n, .inl ⟨_, rfl⟩, by rw [upto_ok h0 h1]; exact q⟩

theorem ok_is_small {f : Addr} {fd : FuncData} (F : Fun K "is_small" "is_small" s_is_small f fd) (B : Bn mg) (c_is_whole : Cal P w K mg base "is_whole" 1 ["thing"] [] (sp_is_whole K)) (g_SMALL : ∃ t, mg "SMALL" = some (.int 1000000 t))  : FnOk P w K mg base CX0 2 f fd ["thing"] (sp_is_small K) := by
  refine F.ok sc_is_small (fun vs H Q E h => ?_) (fun cdv A outer s H vs Q E hr h => ?_)
  · obtain ⟨I, M, v, d, rfl, w, hv, ha, k⟩ := h
    all_goals rfl
  · obtain ⟨I, M, v, d, rfl, w, hv, ha, k⟩ := h
    refine ⟨_, (pss_one (ps_ret (pe_and (pe_cal c_is_whole (hr.mono (by decide)) (by rfl) (pa_cons (pv 0) pa_nil)) (pe_one (pe_chain op_le op_le pe_int (pv 0) (pe_globI (by rfl) g_SMALL)))))), ?_⟩
    try dsimp only [cxOf, Cx.nox, Cx.wish, Cx.blk]
    wtm_at "go"
    refine ⟨I, M, _, _, rfl, w, hv, ha, ?_⟩
    cases d with
    | int n =>
      cases hv.int_eq
      dsimp only [D.whole]
      wtm_at "go"
      wtm_at "fork"
      · rename_i h1
        wtm_at "go"
        have e : (D.int n).upto 1000000 = decide (n ≤ 1000000) := by simp [D.upto, h1]
        rw [← e]; exact k
      · rename_i h1
        wtm_at "go"
        have e : (D.int n).upto 1000000 = false := by simp [D.upto, h1]
        rw [← e]; exact k
    | bl n => wtm_at "go"; exact k
    | non => wtm_at "go"; exact k
    | str n => wtm_at "go"; exact k
    | tup n => wtm_at "go"; exact k
    | lst n => wtm_at "go"; exact k
    | ref n => wtm_at "go"; exact k
    | ty n => wtm_at "go"; exact k
    | obj n m => wtm_at "go"; exact k
    | dict => wtm_at "go"; exact k
abbrev s_is_weight : Stmt := top 13
theorem sc_is_weight : FnScope ["thing"] ["thing"] (defScope s_is_weight) := ⟨rfl, rfl, rfl, by decide +kernel, rfl, by decide +kernel, by decide +kernel⟩
def sp_is_weight (K : PySem.W.Frag) : Sp := fun vs H Q _ => ∃ I M v d, vs = [v] ∧ W I H M ∧ Is I v d ∧ TyK K d ∧ Q (.bl (d.upto 1000)) H
theorem use_is_weight {K : PySem.W.Frag} {I H : Hp} {M : List (Addr × HO)} {n : Int} {Q : VK} {E : XK} (w : W I H M) (h0 : 0 ≤ n) (h1 : n ≤ 1000) (q : Q (.bl true) H) : sp_is_weight K ([.int n] ++ []) H Q E := ⟨I, M, _, _, rfl, w, .int n, .inl ⟨_, rfl⟩, by rw [upto_ok h0 h1]; exact q⟩

theorem ok_is_weight {f : Addr} {fd : FuncData} (F : Fun K "is_weight" "is_weight" s_is_weight f fd) (B : Bn mg) (c_is_whole : Cal P w K mg base "is_whole" 1 ["thing"] [] (sp_is_whole K)) (g_WEIGHT : ∃ t, mg "WEIGHT" = some (.int 1000 t))  : FnOk P w K mg base CX0 2 f fd ["thing"] (sp_is_weight K) := by
  refine F.ok sc_is_weight (fun vs H Q E h => ?_) (fun cdv A outer s H vs Q E hr h => ?_)
  · obtain ⟨I, M, v, d, rfl, w, hv, ha, k⟩ := h
    all_goals rfl
  · obtain ⟨I, M, v, d, rfl, w, hv, ha, k⟩ := h
    refine ⟨_, (pss_one (ps_ret (pe_and (pe_cal c_is_whole (hr.mono (by decide)) (by rfl) (pa_cons (pv 0) pa_nil)) (pe_one (pe_chain op_le op_le pe_int (pv 0) (pe_globI (by rfl) g_WEIGHT)))))), ?_⟩
    try dsimp only [cxOf, Cx.nox, Cx.wish, Cx.blk]
    wtm_at "go"
    refine ⟨I, M, _, _, rfl, w, hv, ha, ?_⟩
    cases d with
    | int n =>
      cases hv.int_eq
      dsimp only [D.whole]
      wtm_at "go"
      wtm_at "fork"
      · rename_i h1
        wtm_at "go"
        have e : (D.int n).upto 1000 = decide (n ≤ 1000) := by simp [D.upto, h1]
        rw [← e]; exact k
      · rename_i h1
        wtm_at "go"
        have e : (D.int n).upto 1000 = false := by simp [D.upto, h1]
        rw [← e]; exact k
    | bl n => wtm_at "go"; exact k
    | non => wtm_at "go"; exact k
    | str n => wtm_at "go"; exact k
    | tup n => wtm_at "go"; exact k
    | lst n => wtm_at "go"; exact k
    | ref n => wtm_at "go"; exact k
    | ty n => wtm_at "go"; exact k
    | obj n m => wtm_at "go"; exact k
    | dict => wtm_at "go"; exact k
/-- a greatest: none, or from the base on -/
def Gr (b : Int) (g : D) : Prop := g = .non ∨ ∃ n : Int, g = .int n ∧ b ≤ n ∧ n ≤ 1000000000000
structure PartOk (b l : Int) (g : D) (w s : Int) : Prop where
  l0 : 0 ≤ l
  lb : l ≤ b
  bm : b ≤ 1000000000000
  gr : Gr b g
  w0 : 0 ≤ w
  w1 : w ≤ 1000
  s0 : 0 ≤ s
  s1 : s ≤ 1000
def gOver (g : D) (q : Rat) : Bool := match g with | .int n => decide ((n : Rat) < q) | _ => false
theorem W.doneO {I H : Hp} {M : List (Addr × HO)} {p C dx : Addr} {fs : List (Str × V)} {ds : List (Str × D)} (w : W I H ((p, .ins C dx fs) :: M)) (a : IsF I fs ds) : ∃ J, Same I J ∧ W J H M ∧ Is J (.ref p) (.obj C ds) := ⟨_, w.frzS0, w.frz0, .obj upd_same (a.mono w.frzS0)⟩
abbrev rowD (b l : Int) (g : D) (w s : Int) : D := .tup [.int b, .int l, g, .int w, .int s]
theorem lt_int {n : Int} {q : Rat} : ((n : Rat) < q) ↔ n * q.den < q.num := by
  have := @Rat.lt_iff (n : Rat) q
  simpa using this
theorem int_lt {n : Int} {q : Rat} : (q < (n : Rat)) ↔ q.num < n * q.den := by
  have := @Rat.lt_iff q (n : Rat)
  simpa using this
theorem eq_int {n : Int} {q : Rat} : (q = (n : Rat)) ↔ q.num = n * q.den := by
  constructor
  · intro h
    subst h
    simp
  · intro h
    have h1 : ¬ q < n := fun z => by have := int_lt.mp z; omega
    have h2 : ¬ (n : Rat) < q := fun z => by have := lt_int.mp z; omega
    grind
theorem sub_int (q : Rat) (n : Int) : q - n = Rat.divInt (q.num - n * q.den) q.den := by
  have := sub_dv q (n : Rat)
  simp at this
  exact this.symm
theorem sq_dv {t d w : Int} : Rat.divInt (t * t) (d * d * w) = Rat.divInt t d * Rat.divInt t d / (w : Rat) := by
  simp only [Rat.divInt_eq_div, Rat.intCast_mul, Rat.div_def, Rat.inv_mul_rev]
  grind
theorem sq_q {x : Rat} {w : Int} : Rat.divInt (x.num * x.num) (x.den * x.den * w) = x * x / (w : Rat) := by
  rw [sq_dv, Rat.num_divInt_den]
theorem sq_gap {q : Rat} {b w : Int} : Rat.divInt ((q.num - b * q.den) * (q.num - b * q.den)) (q.den * q.den * w) = (q - b) * (q - b) / (w : Rat) := by
  rw [sq_dv, ← sub_int]
/-- the strain at a size -/
def strD (b l : Int) (g : D) (w s : Int) (q : Rat) : D :=
  if q = (b : Rat) then fr 0 1
  else if (b : Rat) < q then (if w = 0 ∨ gOver g q = true then .non else frq ((q - b) * (q - b) / (w : Rat)))
  else if s = 0 ∨ q < (l : Rat) then .non else frq ((q - b) * (q - b) / (s : Rat))
theorem bd12 {n : Int} (h0 : 0 ≤ n) (h1 : n ≤ 1000000000000) : Bd 40 n := Bd.of 1000000000000 (by omega)
theorem bd3 {n : Int} (h0 : 0 ≤ n) (h1 : n ≤ 1000) : Bd 10 n := Bd.of 1000 (by omega)
theorem bd1 {k : Nat} (h : 0 < k := by decide) : Bd k 1 := Bd.of 1 (by decide) (by
  have : 2 ^ 1 ≤ 2 ^ k := Nat.pow_le_pow_right (by decide) h
  omega)
theorem gt_num {q : Rat} {b : Int} (hqb : ¬ q = (b : Rat)) : ((b : Rat) < q) ↔ ¬ (q - b).num < 0 := by
  have h := @int_lt 0 (q - b)
  rw [Int.zero_mul] at h
  rw [← h, show ((0 : Int) : Rat) = 0 from rfl]
  grind
theorem lt_dv {n x d : Int} (hd : 0 < d) : ((n : Rat) < Rat.divInt x d) ↔ n * d < x := by
  have h : (0 : Rat) < (d : Rat) := by exact Rat.intCast_lt_intCast.mpr hd
  rw [Rat.divInt_eq_div, Rat.lt_div_iff h, ← Rat.intCast_mul, Rat.intCast_lt_intCast]
theorem dv_lt {n x d : Int} (hd : 0 < d) : (Rat.divInt x d < (n : Rat)) ↔ x < n * d := by
  have h : (0 : Rat) < (d : Rat) := by exact Rat.intCast_lt_intCast.mpr hd
  rw [Rat.divInt_eq_div, Rat.div_lt_iff h, ← Rat.intCast_mul, Rat.intCast_lt_intCast]
theorem lin_dv (b s : Int) (p : Rat) : Rat.divInt (b * p.den + s * p.num) p.den = (b : Rat) + s * p := by
  have h : ((p.den : Int) : Rat) ≠ 0 := fun z => den_ne p (Rat.intCast_inj.mp z)
  have e : (p.num : Rat) = p * ((p.den : Int) : Rat) := by
    have q := Rat.num_divInt_den p
    rw [Rat.divInt_eq_div] at q
    have q2 := congrArg (· * ((p.den : Int) : Rat)) q
    simp only [Rat.div_mul_cancel h] at q2
    exact q2
  rw [Rat.divInt_eq_div, Rat.intCast_add, Rat.intCast_mul, Rat.intCast_mul, e]
  grind
def capG (g : D) (x : Rat) : Rat := match g with | .int n => if (n : Rat) < x then n else x | _ => x
/-- the size at a price -/
def sizQ (b l : Int) (g : D) (w s : Int) (p : Rat) : Rat :=
  if p < 0 then (if (b : Rat) + s * p < l then (l : Rat) else (b : Rat) + s * p) else capG g ((b : Rat) + w * p)
theorem lt_zero {p : Rat} : p < 0 ↔ p.num < 0 := by
  have h := @int_lt 0 p
  rw [Int.zero_mul] at h
  exact h
theorem Sz.lin {k : Nat} {b s : Int} {p : Rat} (hb : Bd 40 b) (hs : Bd 40 s) (hp : Sz k p) : Sz (k + 41) ((b : Rat) + s * p) := by
  rw [← lin_dv]
  exact Sz.divInt (den_ne p) (Bd.add (k := k + 40) ((hb.mul hp.d).mono (by omega)) ((hs.mul hp.n).mono (by omega))) hp.d (k + 41)

/-! ### the first of five arguments that is not what a Part wants -/
def D.toI : D → Int | .int n => n | _ => 0
def D.isNon : D → Bool | .non => true | _ => false
def badI (d0 d1 d2 d3 d4 : D) : Option Int :=
  if d0.upto 1000000000000 = false then some 0
  else if d1.upto 1000000000000 = false ∨ d1.toI > d0.toI then some 1
  else if d2.isNon = false ∧ (d2.upto 1000000000000 = false ∨ d2.toI < d0.toI) then some 2
  else if d3.upto 1000 = false then some 3
  else if d4.upto 1000 = false then some 4
  else none
theorem upto_int {d : D} {m : Int} (h : d.upto m = true) : ∃ n, d = .int n ∧ 0 ≤ n ∧ n ≤ m := by
  cases d with
  | int n =>
    simp [D.upto] at h
    exact ⟨n, rfl, h.1, h.2⟩
  | _ => cases h
/-- what is wrong at the place j, the base being b -/
def BadP (b : Int) (j : Int) (d : D) : Prop :=
  (j = 0 → d.upto 1000000000000 = false) ∧ (j = 1 → d.upto 1000000000000 = false ∨ d.toI > b) ∧ (j = 2 → d.isNon = false ∧ (d.upto 1000000000000 = false ∨ d.toI < b)) ∧ (3 ≤ j → d.upto 1000 = false)
theorem BadP.all {b j : Int} {d : D} (h : ∀ m, d.upto m = false) (hn : d.isNon = false) : BadP b j d := ⟨fun _ => h _, fun _ => .inl (h _), fun _ => ⟨hn, .inl (h _)⟩, fun _ => h _⟩
theorem upto_neg {n m : Int} (h : n < 0) : (D.int n).upto m = false := by simp [D.upto]; omega
theorem upto_big {n m : Int} (h : m < n) : (D.int n).upto m = false := by simp [D.upto]; omega

abbrev s_Part___init__ : Stmt := inClass (top 15) 0
theorem sc_Part___init__ : FnScope ["self", "base", "least", "greatest", "grow", "shrink"] ["self", "base", "least", "greatest", "grow", "shrink"] (defScope s_Part___init__) := ⟨rfl, rfl, rfl, by decide +kernel, rfl, by decide +kernel, by decide +kernel⟩
def sp_Part___init__ (C : Addr) : Sp := fun vs H Q _ => ∃ I M x dx b l g u w s, vs = [.ref x, .int b, .int l, u, .int w, .int s] ∧ W I H ((x, .ins C dx []) :: M) ∧ Is I u g ∧ PartOk b l g w s ∧ ∀ H', W I H' ((x, .ins C dx [("base", .int b), ("least", .int l), ("greatest", u), ("grow", .int w), ("shrink", .int s)]) :: M) → Q .non H'
theorem use_Part {C : Addr} {I H : Hp} {M : List (Addr × HO)} {b l w s : Int} {u : V} {g : D} {Q : VK} {E : XK} (ww : W I H M) (hu : Is I u g) (ok : PartOk b l g w s) (q : ∀ r J H', Same I J → W J H' M → Is J r (prt C b l g w s) → Q r H') : MakeQ C (sp_Part___init__ C) E Q [.int b, .int l, u, .int w, .int s] H :=
  s_makeW ww fun x dx H1 nx w1 => ⟨I, M, x, dx, b, l, g, u, w, s, rfl, w1, hu, ok, fun H2 w2 => ⟨rfl, by
    obtain ⟨J, s1, w3, h3⟩ := w2.doneO (.cons (.int b) (.cons (.int l) (.cons hu (.cons (.int w) (.cons (.int s) .nil)))))
    exact q _ J _ s1 w3 h3⟩⟩
theorem n_mkPart {C : Addr} {F : List (V × D)} {H : Hp} {M : List ME} {b l w s : Int} {u : V} {g : D} {Q : VK} {E : XK} (ww : Wf F H M) (hu : Kn F u g) (ok : PartOk b l g w s) (q : ∀ r H', Wf ((r, prt C b l g w s) :: F) H' M → Q r H') : MakeQ C (sp_Part___init__ C) E Q [.int b, .int l, u, .int w, .int s] H := by
  obtain ⟨I, Mc, ww, is, _, up⟩ := ww.old
  exact use_Part ww (is _ _ hu) ok fun r J H' s w' h => q r H' (up J H' r _ s w' h)

theorem ok_Part___init__ {f : Addr} {fd : FuncData} (F : FunD K "__init__" "Part.__init__" (defArgs s_Part___init__) (defBody s_Part___init__) (defScope s_Part___init__) [.int 0, .non, .int 1, .int 1] [] f fd) (B : Bn mg) (c_is_length : Cal P w K mg base "is_length" 2 ["thing"] [] (sp_is_length K)) (c_is_weight : Cal P w K mg base "is_weight" 2 ["thing"] [] (sp_is_weight K)) (o_Part : OwnC K C_Part) (n_Part : ∀ f ∈ (["base", "least", "greatest", "grow", "shrink"] : List Str), NoAttr K C_Part f)  : FnOk P w K mg base CX0 3 f fd ["self", "base", "least", "greatest", "grow", "shrink"] (sp_Part___init__ C_Part) := by
  refine F.ok0 sc_Part___init__ (fun vs H Q E h => ?_) (fun cdv A outer s H vs Q E hr h => ?_)
  · obtain ⟨I, M, x, dx, b, l, g, u, w, s, rfl, ww, hu, ok, k⟩ := h
    all_goals rfl
  · obtain ⟨I, M, x, dx, b, l, g, u, w, s, rfl, ww, hu, ok, k⟩ := h
    refine ⟨_, (pss_cons (ps_if (pt_not (pt_val (pe_cal c_is_length (hr.mono (by decide)) (by rfl) (pa_cons (pv 1) pa_nil)))) pss_never pss_nil)
      (pss_cons (ps_if (pw_or (pt_not (pt_val (pe_cal c_is_length (hr.mono (by decide)) (by rfl) (pa_cons (pv 2) pa_nil)))) (pw_or1 (pt_cmpR op_gt (pv 2) (pv 1) (nomark _)))).pt pss_never pss_nil)
      (pss_cons (ps_if (pw_and (pt_cmp (pc_notN (pv 3))) (pw_and1 (pw_or (pt_not (pt_val (pe_cal c_is_length (hr.mono (by decide)) (by rfl) (pa_cons (pv 3) pa_nil)))) (pw_or1 (pt_cmpR op_lt (pv 3) (pv 1) (nomark _)))).pt)).pt pss_never pss_nil)
      (pss_cons (ps_if (pt_not (pt_val (pe_cal c_is_weight (hr.mono (by decide)) (by rfl) (pa_cons (pv 4) pa_nil)))) pss_never pss_nil)
      (pss_cons (ps_if (pt_not (pt_val (pe_cal c_is_weight (hr.mono (by decide)) (by rfl) (pa_cons (pv 5) pa_nil)))) pss_never pss_nil)
      (pss_cons (kps_fld (K := K) rfl (pv 0) (pv 1) rfl)
      (pss_cons (kps_fld (K := K) rfl (pv 0) (pv 2) rfl)
      (pss_cons (kps_fld (K := K) rfl (pv 0) (pv 3) rfl)
      (pss_cons (kps_fld (K := K) rfl (pv 0) (pv 4) rfl)
      (pss_one (kps_fld (K := K) rfl (pv 0) (pv 5) rfl))))))))))), ?_⟩
    try dsimp only [cxOf, Cx.nox, Cx.wish, Cx.blk]
    have l0 := ok.l0; have lb := ok.lb; have bm := ok.bm; have w0 := ok.w0; have w1 := ok.w1; have s0 := ok.s0; have s1 := ok.s1
    wtm_at "go"
    refine use_is_length ww (by omega) (by omega) ?_
    wtm_at "go"
    refine use_is_length ww (by omega) (by omega) ?_
    wtm_at "go"
    wtm_at "o1"
    with_reducible refine s_next ?_
    with_reducible refine s_mid (fun σ' H' => H' = H ∧ σ' = [some (.ref x), some (.int b), some (.int l), some u, some (.int w), some (.int s)]) ?_ (fun N fin => ?_)
    · rintro σ' H' ⟨rfl, rfl⟩
      wtm_at "go"
      refine use_is_weight ww (by omega) (by omega) ?_
      wtm_at "go"
      refine use_is_weight ww (by omega) (by omega) ?_
      wtm_at "go"
      refine s_sfW ww o_Part.cl n_Part (by decide) (by simp) fun H1 w1 => ?_
      rw [putF_new (by (try simp only [List.nil_append, List.cons_append, List.map_cons, List.map_nil]); decide)] at w1
      wtm_at "go"
      refine s_sfW w1 o_Part.cl n_Part (by decide) (by simp) fun H2 w2 => ?_
      rw [putF_new (by (try simp only [List.nil_append, List.cons_append, List.map_cons, List.map_nil]); decide)] at w2
      wtm_at "go"
      refine s_sfW w2 o_Part.cl n_Part (by decide) (by simp) fun H3 w3 => ?_
      rw [putF_new (by (try simp only [List.nil_append, List.cons_append, List.map_cons, List.map_nil]); decide)] at w3
      wtm_at "go"
      refine s_sfW w3 o_Part.cl n_Part (by decide) (by simp) fun H4 w4 => ?_
      rw [putF_new (by (try simp only [List.nil_append, List.cons_append, List.map_cons, List.map_nil]); decide)] at w4
      wtm_at "go"
      refine s_sfW w4 o_Part.cl n_Part (by decide) (by simp) fun H5 w5 => ?_
      rw [putF_new (by (try simp only [List.nil_append, List.cons_append, List.map_cons, List.map_nil]); decide)] at w5
      wtm_at "go"
      exact k _ w5
    · rcases ok.gr with rfl | ⟨n, rfl, g1, g2⟩
      · cases hu.non_eq
        wtm_at "go"
        exact fin _ _ ⟨rfl, rfl⟩
      · cases hu.int_eq
        wtm_at "go"
        refine use_is_length ww (by omega) (by omega) ?_
        wtm_at "goo"
        exact fin _ _ ⟨rfl, rfl⟩
def spx_Part___init__ (K : PySem.W.Frag) (C CW : Addr) : Sp := fun vs H Q E => ∃ F M x v0 v1 v2 v3 v4 d0 d1 d2 d3 d4, vs = [.ref x, v0, v1, v2, v3, v4] ∧ Wf F H (.mi x C [] :: M) ∧ (Kn F v0 d0 ∧ TyK K d0) ∧ (Kn F v1 d1 ∧ TyK K d1) ∧ (Kn F v2 d2 ∧ TyK K d2) ∧ (Kn F v3 d3 ∧ TyK K d3) ∧ (Kn F v4 d4 ∧ TyK K d4) ∧
  (∀ j, badI d0 d1 d2 d3 d4 = some j → ∀ d, H d = none → E (.ref CW) (some d) (upd H d (.xd [("at", .int j)]))) ∧ (badI d0 d1 d2 d3 d4 = none → ∀ H', Wf F H' M → Q .non H')
theorem n_islen {K : PySem.W.Frag} {F : List (V × D)} {H : Hp} {M : List ME} {v : V} {d : D} {Q : VK} {E : XK} (w : Wf F H M) (hv : Rk F M v d) (ht : TyK K d) (q : Q (.bl (d.upto 1000000000000)) H) : sp_is_length K ([v] ++ []) H Q E := ⟨H, [], v, d, rfl, W.self, w.rd hv, ht, q⟩
theorem n_iswt {K : PySem.W.Frag} {F : List (V × D)} {H : Hp} {M : List ME} {v : V} {d : D} {Q : VK} {E : XK} (w : Wf F H M) (hv : Rk F M v d) (ht : TyK K d) (q : Q (.bl (d.upto 1000)) H) : sp_is_weight K ([v] ++ []) H Q E := ⟨H, [], v, d, rfl, W.self, w.rd hv, ht, q⟩
theorem TyK.rk {K : PySem.W.Frag} {F : List (V × D)} {M : List ME} {v : V} {d : D} (t : TyK K d) (h : Kn F v d) : Rk F M v d := Rk.of h fun q => by
  rcases q with ⟨n, rfl⟩ | ⟨n, rfl⟩
  · rcases t with ⟨a, e⟩ | ⟨C, fs, e, _⟩
    · cases e
    · cases e
  · rcases t with ⟨a, e⟩ | ⟨C, fs, e, _⟩
    · cases e
    · cases e
theorem Is.notNon {H : Hp} {v : V} {d : D} (h : Is H v d) (hd : d.isNon = false) : v ≠ .non := fun e => by
  subst e
  cases h
  cases hd
theorem Is.isNon {H : Hp} {v : V} {d : D} (h : Is H v d) (hd : d.isNon = true) : v = .non ∧ d = .non := by
  cases d with
  | non => cases h; exact ⟨rfl, rfl⟩
  | _ => cases hd

theorem okx_Part___init__ {f : Addr} {fd : FuncData} (F : FunD K "__init__" "Part.__init__" (defArgs s_Part___init__) (defBody s_Part___init__) (defScope s_Part___init__) [.int 0, .non, .int 1, .int 1] [] f fd) (B : Bn mg) (c_is_length : Cal P w K mg base "is_length" 2 ["thing"] [] (sp_is_length K)) (c_is_weight : Cal P w K mg base "is_weight" 2 ["thing"] [] (sp_is_weight K)) (o_Part : OwnC K C_Part) (n_Part : ∀ f ∈ (["base", "least", "greatest", "grow", "shrink"] : List Str), NoAttr K C_Part f) (e_Wrong : ErrI P w K mg base "Wrong" C_Wrong 1 ["self", "at"] "at") : FnOk P w K mg base (L2.CX P w) 3 f fd ["self", "base", "least", "greatest", "grow", "shrink"] (spx_Part___init__ K C_Part C_Wrong) := by
  refine F.okX sc_Part___init__ (fun vs H Q E h => ?_) (fun cdv A outer s H vs Q E hr h => ?_)
  · obtain ⟨F, M, x, v0, v1, v2, v3, v4, d0, d1, d2, d3, d4, rfl, w, ⟨h0, t0⟩, ⟨h1, t1⟩, ⟨h2, t2⟩, ⟨h3, t3⟩, ⟨h4, t4⟩, kb, kg⟩ := h
    all_goals rfl
  · obtain ⟨F, M, x, v0, v1, v2, v3, v4, d0, d1, d2, d3, d4, rfl, w, ⟨h0, t0⟩, ⟨h1, t1⟩, ⟨h2, t2⟩, ⟨h3, t3⟩, ⟨h4, t4⟩, kb, kg⟩ := h
    refine ⟨_, (pss_cons (ps_if (pt_not (pt_val (pe_cal c_is_length (hr.mono (by decide)) (by rfl) (pa_cons (pv 1) pa_nil)))) (pss_one (ps_raiseI e_Wrong (hr.mono (by decide)) rfl (takes_of rfl rfl rfl rfl) (by rfl) (pa_cons pe_int pa_nil))) pss_nil)
      (pss_cons (ps_if (pw_or (pt_not (pt_val (pe_cal c_is_length (hr.mono (by decide)) (by rfl) (pa_cons (pv 2) pa_nil)))) (pw_or1 (pt_cmpR op_gt (pv 2) (pv 1) (nomark _)))).pt (pss_one (ps_raiseI e_Wrong (hr.mono (by decide)) rfl (takes_of rfl rfl rfl rfl) (by rfl) (pa_cons pe_int pa_nil))) pss_nil)
      (pss_cons (ps_if (pw_and (pt_cmp (pc_notN (pv 3))) (pw_and1 (pw_or (pt_not (pt_val (pe_cal c_is_length (hr.mono (by decide)) (by rfl) (pa_cons (pv 3) pa_nil)))) (pw_or1 (pt_cmpR op_lt (pv 3) (pv 1) (nomark _)))).pt)).pt (pss_one (ps_raiseI e_Wrong (hr.mono (by decide)) rfl (takes_of rfl rfl rfl rfl) (by rfl) (pa_cons pe_int pa_nil))) pss_nil)
      (pss_cons (ps_if (pt_not (pt_val (pe_cal c_is_weight (hr.mono (by decide)) (by rfl) (pa_cons (pv 4) pa_nil)))) (pss_one (ps_raiseI e_Wrong (hr.mono (by decide)) rfl (takes_of rfl rfl rfl rfl) (by rfl) (pa_cons pe_int pa_nil))) pss_nil)
      (pss_cons (ps_if (pt_not (pt_val (pe_cal c_is_weight (hr.mono (by decide)) (by rfl) (pa_cons (pv 5) pa_nil)))) (pss_one (ps_raiseI e_Wrong (hr.mono (by decide)) rfl (takes_of rfl rfl rfl rfl) (by rfl) (pa_cons pe_int pa_nil))) pss_nil)
      (pss_cons (kps_fld (K := K) rfl (pv 0) (pv 1) rfl)
      (pss_cons (kps_fld (K := K) rfl (pv 0) (pv 2) rfl)
      (pss_cons (kps_fld (K := K) rfl (pv 0) (pv 3) rfl)
      (pss_cons (kps_fld (K := K) rfl (pv 0) (pv 4) rfl)
      (pss_one (kps_fld (K := K) rfl (pv 0) (pv 5) rfl))))))))))), ?_⟩
    try dsimp only [cxOf, Cx.nox, Cx.wish, Cx.blk]
    wtm_at "n"
    refine n_islen w (t0.rk h0) t0 ?_
    cases b0 : d0.upto 1000000000000 with
    | false =>
      wtm_at "n"
      try dsimp only
      refine s_mkO0 ?_
      wtm_at "n"
      exact s_mkO fun d hd => kb 0 (if_pos b0) d hd
    | true =>
    have n0 : ¬ d0.upto 1000000000000 = false := by rw [b0]; simp
    obtain ⟨b, rfl, b0', b1'⟩ := upto_int b0
    cases (w.int_eq h0)
    wtm_at "n"
    refine n_islen w (t1.rk h1) t1 ?_
    cases b1 : d1.upto 1000000000000 with
    | false =>
      wtm_at "n"
      try dsimp only
      refine s_mkO0 ?_
      wtm_at "n"
      exact s_mkO fun d hd => kb 1 (by rw [badI, if_neg n0, if_pos (.inl b1)]) d hd
    | true =>
    have n1 : ¬ d1.upto 1000000000000 = false := by rw [b1]; simp
    obtain ⟨l, rfl, l0', l1'⟩ := upto_int b1
    cases (w.int_eq h1)
    wtm_at "n"
    wtm_at "fork"
    · rename_i hlt
      wtm_at "n"
      try dsimp only
      refine s_mkO0 ?_
      wtm_at "n"
      exact s_mkO fun d hd => kb 1 (by rw [badI, if_neg n0, if_pos (.inr hlt)]) d hd
    rename_i hlt
    have m1 : ¬ ((D.int l).upto 1000000000000 = false ∨ (D.int l).toI > (D.int b).toI) := fun q => q.elim n1 hlt
    wtm_at "st2"
    with_reducible refine s_next ?_
    with_reducible refine s_mid (fun σ' H' => (¬ (d2.isNon = false ∧ (d2.upto 1000000000000 = false ∨ d2.toI < (D.int b).toI))) ∧ σ' = [some (.ref x), some (.int b), some (.int l), some v2, some v3, some v4] ∧ H' = H) ?_ (fun N fin => ?_)
    rotate_left
    · wtm_at "n"
      cases g : d2.isNon with
      | true =>
        obtain ⟨rfl, rfl⟩ := (w.rd (t2.rk h2)).isNon g
        wtm_at "n"
        exact fin _ _ ⟨fun q => (nomatch q.1), rfl, rfl⟩
      | false =>
        rw [decide_eq_false ((w.rd (t2.rk h2)).notNon g)]
        wtm_at "n"
        refine n_islen w (t2.rk h2) t2 ?_
        cases b2 : d2.upto 1000000000000 with
        | false =>
          wtm_at "n"
          try dsimp only
          refine s_mkO0 ?_
          wtm_at "n"
          exact s_mkO fun d hd => kb 2 (by rw [badI, if_neg n0, if_neg m1, if_pos ⟨g, .inl b2⟩]) d hd
        | true =>
          obtain ⟨gr, rfl, g0', g1'⟩ := upto_int b2
          cases (w.int_eq h2)
          wtm_at "n"
          wtm_at "fork"
          · rename_i hl2
            wtm_at "n"
            try dsimp only
            refine s_mkO0 ?_
            wtm_at "n"
            exact s_mkO fun d hd => kb 2 (by rw [badI, if_neg n0, if_neg m1, if_pos ⟨g, .inr hl2⟩]) d hd
          · rename_i hl2
            wtm_at "n"
            exact fin _ _ ⟨fun q => q.2.elim (fun z => by rw [b2] at z; cases z) hl2, rfl, rfl⟩
    rintro σ' H' ⟨m2, rfl, rfl⟩
    wtm_at "n"
    refine n_iswt w (t3.rk h3) t3 ?_
    cases b3 : d3.upto 1000 with
    | false =>
      wtm_at "n"
      try dsimp only
      refine s_mkO0 ?_
      wtm_at "n"
      exact s_mkO fun d hd => kb 3 (by rw [badI, if_neg n0, if_neg m1, if_neg m2, if_pos b3]) d hd
    | true =>
    have n3 : ¬ d3.upto 1000 = false := by rw [b3]; simp
    wtm_at "n"
    refine n_iswt w (t4.rk h4) t4 ?_
    cases b4 : d4.upto 1000 with
    | false =>
      wtm_at "n"
      try dsimp only
      refine s_mkO0 ?_
      wtm_at "n"
      exact s_mkO fun d hd => kb 4 (by rw [badI, if_neg n0, if_neg m1, if_neg m2, if_neg n3, if_pos b4]) d hd
    | true =>
    have n4 : ¬ d4.upto 1000 = false := by rw [b4]; simp
    wtm_at "n"
    rename_i w
    rw [putD_new (by (try simp only [List.nil_append, List.cons_append, List.map_cons, List.map_nil]); decide)] at w
    wtm_at "n"
    rename_i w
    rw [putD_new (by (try simp only [List.nil_append, List.cons_append, List.map_cons, List.map_nil]); decide)] at w
    wtm_at "n"
    rename_i w
    rw [putD_new (by (try simp only [List.nil_append, List.cons_append, List.map_cons, List.map_nil]); decide)] at w
    wtm_at "n"
    rename_i w
    rw [putD_new (by (try simp only [List.nil_append, List.cons_append, List.map_cons, List.map_nil]); decide)] at w
    wtm_at "n"
    rename_i w
    rw [putD_new (by (try simp only [List.nil_append, List.cons_append, List.map_cons, List.map_nil]); decide)] at w
    exact kg (by rw [badI, if_neg n0, if_neg m1, if_neg m2, if_neg n3, if_neg n4]) _ (by wtm_at "wf")
/-! ### strips -/
structure Sp3 where
  h : Int
  st : Option Int
  ns : List Int
abbrev spD (x : Sp3) : D := .tup [.int x.h, oD x.st, .lst (x.ns.map D.int)]
structure SpOk (x : Sp3) : Prop where
  h0 : 0 ≤ x.h
  h1 : x.h ≤ 1000000000000
  n0 : ∀ n ∈ x.ns, 0 ≤ n ∧ n ≤ 1000000
  nl : x.ns.length ≤ 60
  s0 : ∀ s, x.st = some s → 0 ≤ s ∧ s ≤ 1000000
def footI (xs : List Sp3) (rule : Int) : Int := if (xs.map fun x => (x.ns.length : Int)).sum = 0 then 0 else rule + (xs.map fun x => x.ns.sum).sum
def noteD (a : Int) (ns : List Int) : List D := (List.range ns.length).map fun i => .tup [.int (a + (ns.take i).sum), .int (a + (ns.take (i + 1)).sum)]
theorem note_snoc (a : Int) (ns : List Int) (x : Int) : noteD a (ns ++ [x]) = noteD a ns ++ [.tup [.int (a + ns.sum), .int (a + ns.sum + x)]] := by
  unfold noteD
  rw [List.length_append, List.length_singleton, List.range_succ, List.map_append]
  congr 1
  · apply List.map_congr_left
    intro i hi
    have := List.mem_range.mp hi
    rw [List.take_append_of_le_length (by omega), List.take_append_of_le_length (by omega)]
  · simp [List.take_of_length_le, List.sum_append, Int.add_assoc]
theorem note_len (a : Int) (ns : List Int) : (noteD a ns).length = ns.length := by simp [noteD]
theorem sum_bd {l : List Int} {m : Int} (h : ∀ x ∈ l, 0 ≤ x ∧ x ≤ m) : 0 ≤ l.sum ∧ l.sum ≤ (l.length : Int) * m := by
  induction l with
  | nil => simp
  | cons y ys ih =>
    have h1 := h y List.mem_cons_self
    have h2 := ih fun z hz => h z (List.mem_cons_of_mem _ hz)
    rw [List.sum_cons, List.length_cons, Int.natCast_add, Int.add_mul]
    omega
theorem SpOk.sum {x : Sp3} (h : SpOk x) : 0 ≤ x.ns.sum ∧ x.ns.sum ≤ 60000000 := by
  have h1 := sum_bd h.n0
  have h2 := h.nl
  omega
theorem foot_bd {xs : List Sp3} {rule : Int} (h : ∀ x ∈ xs, SpOk x) (hl : xs.length ≤ 120) (r0 : 0 ≤ rule) (r1 : rule ≤ 1000000) : 0 ≤ footI xs rule ∧ footI xs rule ≤ 10000000000 := by
  have h1 := sum_bd (l := xs.map fun x => x.ns.sum) (m := 60000000) fun y hy => by
    obtain ⟨x, hx, rfl⟩ := List.mem_map.mp hy
    exact (h x hx).sum
  rw [List.length_map] at h1
  unfold footI
  split <;> omega
theorem Wf.o0 {F : List (V × D)} {H : Hp} {M : List ME} {v : V} {o : Option Int} (w : Wf ((v, oD o) :: F) H M) : v = oV o := by
  cases o with
  | none => exact w.non0.1
  | some k => exact w.eq0.1

abbrev s_is_strip : Stmt := top 19
theorem sc_is_strip : FnScope ["thing", "high", "stick", "notes", "note"] ["thing"] (defScope s_is_strip) := ⟨rfl, rfl, rfl, by decide +kernel, rfl, by decide +kernel, by decide +kernel⟩
def sp_is_strip : Sp := fun vs H Q _ => ∃ F M v x, vs = [v] ∧ Wf F H M ∧ Rk F M v (spD x) ∧ SpOk x ∧ ∀ H', Wf F H' M → Q (.bl true) H'
theorem n_is_strip {F : List (V × D)} {H : Hp} {M : List ME} {v : V} {x : Sp3} {Q : VK} {E : XK} (w : Wf F H M) (hv : Rk F M v (spD x)) (ok : SpOk x) (q : ∀ H', Wf F H' M → Q (.bl true) H') : sp_is_strip ([v] ++ []) H Q E := ⟨F, M, v, x, rfl, w, hv, ok, q⟩

theorem ok_is_strip {f : Addr} {fd : FuncData} (F : Fun K "is_strip" "is_strip" s_is_strip f fd) (B : Bn mg) (c_is_length : Cal P w K mg base "is_length" 2 ["thing"] [] (sp_is_length K)) (c_is_small : Cal P w K mg base "is_small" 2 ["thing"] [] (sp_is_small K)) (g_MOST_NOTES : ∃ t, mg "MOST_NOTES" = some (.int 60 t))  : FnOk P w K mg base CX0 3 f fd ["thing"] sp_is_strip := by
  refine F.ok sc_is_strip (fun vs H Q E h => ?_) (fun cdv A outer s H vs Q E hr h => ?_)
  · obtain ⟨F, M, v, x, rfl, w, hv, ok, k⟩ := h
    all_goals rfl
  · obtain ⟨F, M, v, x, rfl, w, hv, ok, k⟩ := h
    refine ⟨_, (pss_cons (ps_if (pw_or (pt_not (pt_val (pe_callB (k_isi (K := K) rfl) (by rfl) B.isinstance_ (by decide +kernel) (pa_cons (pv 0) (pa_cons (pe_bltn (v := .ty "tuple") (by rfl) B.tuple_ (by decide +kernel) rfl) pa_nil))))) (pw_or1 (pt_cmpR (k_ne (K := K) rfl hr.units) (pe_callB (k_len (K := K) rfl) (by rfl) B.len_ (by decide +kernel) (pa_cons (pv 0) pa_nil)) pe_int (nomark _)))).pt (pss_one (ps_ret pe_bl)) pss_nil)
      (pss_cons (ps_asg (pv 0) (kpg_tup (K := K) (n := 3) rfl rfl (pgs_cons (pg_name (i := 1) sc_is_strip.nd rfl (Or.inl rfl)) (pgs_cons (pg_name (i := 2) sc_is_strip.nd rfl (Or.inl rfl)) (pgs_cons (pg_name (i := 3) sc_is_strip.nd rfl (Or.inl rfl)) pgs_nil)))))
      (pss_cons (ps_if (pw_or (pt_not (pt_val (pe_cal c_is_length (hr.mono (by decide)) (by rfl) (pa_cons (pv 1) pa_nil)))) (pw_or1 (pt_not (pw_or (pt_cmp (pc_isN (pv 2))) (pw_or1 (pt_val (pe_cal c_is_small (hr.mono (by decide)) (by rfl) (pa_cons (pv 2) pa_nil))))).pt))).pt (pss_one (ps_ret pe_bl)) pss_nil)
      (pss_cons (ps_if (pw_or (pt_not (pt_val (pe_callB (k_isi (K := K) rfl) (by rfl) B.isinstance_ (by decide +kernel) (pa_cons (pv 3) (pa_cons (pe_bltn (v := .ty "list") (by rfl) B.list_ (by decide +kernel) rfl) pa_nil))))) (pw_or1 (pt_cmpR op_gt (pe_callB (k_len (K := K) rfl) (by rfl) B.len_ (by decide +kernel) (pa_cons (pv 3) pa_nil)) (pe_globI (by rfl) g_MOST_NOTES) (nomark _)))).pt (pss_one (ps_ret pe_bl)) pss_nil)
      (pss_cons (ps_for PassesOwn.never rfl (kpi_list (K := K) rfl (pv 3)) (pg_name (i := 4) sc_is_strip.nd rfl (Or.inl rfl)) (pss_one (ps_if (pt_not (pt_val (pe_cal c_is_small (hr.mono (by decide)) (by rfl) (pa_cons (pv 4) pa_nil)))) (pss_one (ps_ret pe_bl)) pss_nil)))
      (pss_one (ps_ret pe_bl))))))), ?_⟩
    try dsimp only [cxOf, Cx.nox, Cx.wish, Cx.blk]
    wtm_at "n"
    rename_i a b c w
    obtain ⟨rfl, w1⟩ := w.eq0
    refine use_is_length (I := H) (M := []) W.self ok.h0 ok.h1 ?_
    have hs := ok.s0
    have nl := ok.nl
    have w2 : Wf ((c, .lst (x.ns.map D.int)) :: F) H M := by wtm_at "wf"
    have hb : b = .non ∨ ∃ s, b = .int s ∧ 0 ≤ s ∧ s ≤ 1000000 := by
      cases hst : x.st with
      | none =>
        rw [hst] at w1
        exact .inl (w1.non0).1
      | some s =>
        rw [hst] at w1
        exact .inr ⟨s, (w1.eq0).1, hs s hst⟩
    clear w1 w
    rcases hb with rfl | ⟨s, rfl, s0, s1⟩
    rotate_left
    wtm_at "n"
    refine use_is_small (I := H) (M := []) W.self s0 s1 ?_
    all_goals wtm_at "n"
    all_goals (
      rw [List.length_map]
      refine s_iteDn (by omega) ?_
      wtm_at "n"
      refine n_forL w2 (fun i σ' F' M' => ∃ x4, σ' = [some v, some (.int x.h), some _, some c, x4] ∧ F' = (c, .lst (x.ns.map D.int)) :: F ∧ M' = M) (by rintro i σ' F' M' ⟨_, rfl, rfl, rfl⟩; wtm_at "rk") ⟨_, rfl, rfl, rfl⟩ ?_ ?_
      · rintro i d y σ' H' F' M' hd ⟨x4, rfl, rfl, rfl⟩ w
        obtain ⟨n, hn, rfl⟩ := map_get hd
        obtain ⟨rfl, w⟩ := w.eq0
        have h2 := ok.n0 n (List.mem_of_getElem? hn)
        wtm_at "n"
        refine use_is_small (I := H') (M := []) W.self h2.1 h2.2 ?_
        wtm_at "n"
        exact ⟨_, _, ⟨_, rfl, rfl, rfl⟩, by wtm_at "wf"⟩
      · rintro σ' H' F' M' ⟨x4, rfl, rfl, rfl⟩ w
        wtm_at "n"
        exact k _ w.tail)
abbrev s_look_at_strips : Stmt := top 20
theorem sc_look_at_strips : FnScope ["at", "strips", "k", "strip"] ["at", "strips"] (defScope s_look_at_strips) := ⟨rfl, rfl, rfl, by decide +kernel, rfl, by decide +kernel, by decide +kernel⟩
def sp_look_at_strips : Sp := fun vs H Q _ => ∃ F M v, ∃ (at' : Int) (xs : List Sp3), vs = [.int at', v] ∧ Wf F H M ∧ Rk F M v (.lst (xs.map spD)) ∧ (∀ x ∈ xs, SpOk x) ∧ xs.length ≤ 120 ∧ ∀ H', Wf F H' M → Q .non H'
theorem n_lookstrips {F : List (V × D)} {H : Hp} {M : List ME} {v : V} {at' : Int} {xs : List Sp3} {Q : VK} {E : XK} (w : Wf F H M) (hv : Rk F M v (.lst (xs.map spD))) (hx : ∀ x ∈ xs, SpOk x) (hl : xs.length ≤ 120) (q : ∀ H', Wf F H' M → Q .non H') : sp_look_at_strips ([.int at', v] ++ []) H Q E := ⟨F, M, v, at', xs, rfl, w, hv, hx, hl, q⟩

theorem ok_look_at_strips {f : Addr} {fd : FuncData} (F : Fun K "look_at_strips" "look_at_strips" s_look_at_strips f fd) (B : Bn mg) (c_is_strip : Cal P w K mg base "is_strip" 3 ["thing"] [] sp_is_strip) (g_MOST_STRIPS : ∃ t, mg "MOST_STRIPS" = some (.int 120 t))  : FnOk P w K mg base CX0 4 f fd ["at", "strips"] sp_look_at_strips := by
  refine F.ok sc_look_at_strips (fun vs H Q E h => ?_) (fun cdv A outer s H vs Q E hr h => ?_)
  · obtain ⟨F, M, v, at', xs, rfl, w, hv, hx, hl, k⟩ := h
    all_goals rfl
  · obtain ⟨F, M, v, at', xs, rfl, w, hv, hx, hl, k⟩ := h
    refine ⟨_, (pss_cons (ps_if (pt_not (pt_val (pe_callB (k_isi (K := K) rfl) (by rfl) B.isinstance_ (by decide +kernel) (pa_cons (pv 1) (pa_cons (pe_bltn (v := .ty "list") (by rfl) B.list_ (by decide +kernel) rfl) pa_nil))))) pss_never pss_nil)
      (pss_cons (ps_if (pt_cmpR op_gt (pe_callB (k_len (K := K) rfl) (by rfl) B.len_ (by decide +kernel) (pa_cons (pv 1) pa_nil)) (pe_globI (by rfl) g_MOST_STRIPS) (nomark _)) pss_never pss_nil)
      (pss_one (ps_for PassesOwn.never rfl (pi_enum (by rfl) B.enumerate_ (pa_cons (pv 1) pa_nil)) (kpg_tup (K := K) (n := 2) rfl rfl (pgs_cons (pg_name (i := 2) sc_look_at_strips.nd rfl (Or.inl rfl)) (pgs_cons (pg_name (i := 3) sc_look_at_strips.nd rfl (Or.inl rfl)) pgs_nil))) (pss_one (ps_if (pt_not (pt_val (pe_cal c_is_strip (hr.mono (by decide)) (by rfl) (pa_cons (pv 3) pa_nil)))) pss_never pss_nil)))))), ?_⟩
    try dsimp only [cxOf, Cx.nox, Cx.wish, Cx.blk]
    wtm_at "n"
    rw [List.length_map]
    refine s_iteDn (by omega) ?_
    wtm_at "n"
    refine n_enum w (fun i σ' F' M' => ∃ x1 x2, σ' = [some (.int at'), some v, x1, x2] ∧ F = F' ∧ M = M') (fun i σ F' M' h => by obtain ⟨_, _, _, rfl, rfl⟩ := h; exact hv) ⟨_, _, rfl, rfl, rfl⟩ ?_ ?_
    · rintro i d x σ' H' F' M' hd ⟨x1, x2, rfl, rfl, rfl⟩ w
      obtain ⟨r, hr', rfl⟩ := map_get hd
      wtm_at "n"
      refine n_is_strip (by assumption) (.mem (by wtm_at "mem")) (hx r (List.mem_of_getElem? hr')) fun H2 w => ?_
      wtm_at "n"
      exact ⟨_, _, ⟨_, _, rfl, rfl, rfl⟩, by wtm_at "wf"⟩
    · rintro σ' H' F' M' ⟨x1, x2, rfl, rfl, rfl⟩ w
      wtm_at "n"
      exact k _ w
abbrev s_foot_by : Stmt := top 21
theorem sc_foot_by : FnScope ["many", "high", "rule"] ["many", "high", "rule"] (defScope s_foot_by) := ⟨rfl, rfl, rfl, by decide +kernel, rfl, by decide +kernel, by decide +kernel⟩
def sp_foot_by : Sp := fun vs H Q _ => ∃ m h r : Int, vs = [.int m, .int h, .int r] ∧ Q (.int (if m = 0 then 0 else r + h)) H
theorem n_foot_by {H : Hp} {m h r : Int} {Q : VK} {E : XK} (q : Q (.int (if m = 0 then 0 else r + h)) H) : sp_foot_by ([.int m, .int h, .int r] ++ []) H Q E := ⟨m, h, r, rfl, q⟩

theorem ok_foot_by {f : Addr} {fd : FuncData} (F : Fun K "foot_by" "foot_by" s_foot_by f fd) (B : Bn mg)  : FnOk P w K mg base CX0 1 f fd ["many", "high", "rule"] sp_foot_by := by
  refine F.ok sc_foot_by (fun vs H Q E h => ?_) (fun cdv A outer s H vs Q E hr h => ?_)
  · obtain ⟨m, h, r, rfl, k⟩ := h
    all_goals rfl
  · obtain ⟨m, h, r, rfl, k⟩ := h
    refine ⟨_, (pss_cons (ps_if (pt_cmpR (k_eq (K := K) rfl hr.units) (pv 0) pe_int (nomark _)) (pss_one (ps_ret pe_int)) pss_nil)
      (pss_one (ps_ret (pe_op (k_add (K := K) rfl) (pv 2) (pv 1))))), ?_⟩
    try dsimp only [cxOf, Cx.nox, Cx.wish, Cx.blk]
    wtm_at "n"
    wtm_at "fork"
    · rename_i e
      wtm_at "n"
      rw [if_pos e] at k
      exact k
    · rename_i e
      wtm_at "n"
      rw [if_neg e] at k
      exact k
abbrev s_foot_of : Stmt := top 22
theorem sc_foot_of : FnScope ["strips", "rule", "many", "strip"] ["strips", "rule"] (defScope s_foot_of) := ⟨rfl, rfl, rfl, by decide +kernel, rfl, by decide +kernel, by decide +kernel⟩
def sp_foot_of : Sp := fun vs H Q _ => ∃ F M v, ∃ (xs : List Sp3) (rule : Int), vs = [v, .int rule] ∧ Wf F H M ∧ Rk F M v (.lst (xs.map spD)) ∧ xs.length ≤ 1000 ∧ ∀ H', Wf F H' M → Q (.int (footI xs rule)) H'
theorem n_foot_of {F : List (V × D)} {H : Hp} {M : List ME} {v : V} {xs : List Sp3} {rule : Int} {Q : VK} {E : XK} (w : Wf F H M) (hv : Rk F M v (.lst (xs.map spD))) (hl : xs.length ≤ 1000) (q : ∀ H', Wf F H' M → Q (.int (footI xs rule)) H') : sp_foot_of ([v, .int rule] ++ []) H Q E := ⟨F, M, v, xs, rule, rfl, w, hv, hl, q⟩

theorem ok_foot_of {f : Addr} {fd : FuncData} (F : Fun K "foot_of" "foot_of" s_foot_of f fd) (B : Bn mg) (c_foot_by : Cal P w K mg base "foot_by" 1 ["many", "high", "rule"] [] sp_foot_by)  : FnOk P w K mg base CX0 2 f fd ["strips", "rule"] sp_foot_of := by
  refine F.ok sc_foot_of (fun vs H Q E h => ?_) (fun cdv A outer s H vs Q E hr h => ?_)
  · obtain ⟨F, M, v, xs, rule, rfl, w, hv, hl, k⟩ := h
    all_goals rfl
  · obtain ⟨F, M, v, xs, rule, rfl, w, hv, hl, k⟩ := h
    refine ⟨_, (pss_cons (ps_set (i := 2) sc_foot_of.nd rfl (Or.inl rfl) (pe_callB (k_sum (K := K) rfl rfl) (by rfl) B.sum_ (by decide +kernel) (pa_cons (pe_lc (own := [("strip", 3)]) (by rfl) sc_foot_of.nd (kpi_list (K := K) rfl (pv 0)) (blkOk_by (own := [("strip", 3)]) (N := ["strips", "rule", "many", "strip"]) (sc := defScope s_foot_of) (by decide +kernel)) (fun _ _ _ _ _ => (pg_name (i := 3) sc_foot_of.nd rfl (Or.inl rfl))) (fun _ _ _ _ _ => pts_nil) (fun _ _ _ _ _ => (pe_callB (k_len (K := K) rfl) (by rfl) B.len_ (by decide +kernel) (pa_cons (pe_ix (k_ix (K := K) rfl) (pv 3) pe_int (fun _ _ => rfl)) pa_nil)))) pa_nil)))
      (pss_one (ps_ret (pe_cal c_foot_by (hr.mono (by decide)) (by rfl) (pa_cons (pv 2) (pa_cons (pe_callB (k_sum (K := K) rfl rfl) (by rfl) B.sum_ (by decide +kernel) (pa_cons (pe_lc (own := [("strip", 3)]) (by rfl) sc_foot_of.nd (kpi_list (K := K) rfl (pv 0)) (blkOk_by (own := [("strip", 3)]) (N := ["strips", "rule", "many", "strip"]) (sc := defScope s_foot_of) (by decide +kernel)) (fun _ _ _ _ _ => (pg_name (i := 3) sc_foot_of.nd rfl (Or.inl rfl))) (fun _ _ _ _ _ => pts_nil) (fun _ _ _ _ _ => (pe_callB (k_sum (K := K) rfl rfl) (by rfl) B.sum_ (by decide +kernel) (pa_cons (pe_ix (k_ix (K := K) rfl) (pv 3) pe_int (fun _ _ => rfl)) pa_nil)))) pa_nil)) (pa_cons (pv 1) pa_nil))))))), ?_⟩
    try dsimp only [cxOf, Cx.nox, Cx.wish, Cx.blk]
    wtm_at "n"
    refine n_lcMapI (f := fun x : Sp3 => (x.ns.length : Int)) w hv (by omega) (fun v => rfl) ?_ ?_
    · intro x y D acc H0 C _ w kc
      wtm_at "n"
      rw [List.length_map]
      exact kc _ (by wtm_at "wf")
    intro p H1 w
    wtm_at "n"
    refine n_sum w (by wtm_at "rk") ?_
    wtm_at "n"
    refine n_lcMapI (f := fun x : Sp3 => x.ns.sum) w (by wtm_at "rk") (by omega) (fun v => rfl) ?_ ?_
    · intro x y D acc H0 C _ w kc
      wtm_at "n"
      refine n_sum (by assumption) (by wtm_at "rk") ?_
      exact kc _ (by wtm_at "wf")
    intro p2 H2 w
    wtm_at "n"
    refine n_sum w (by wtm_at "rk") ?_
    wtm_at "n"
    refine n_foot_by ?_
    exact k _ (by wtm_at "wf")
abbrev s_look_at_many : Stmt := top 25
theorem sc_look_at_many : FnScope ["many"] ["many"] (defScope s_look_at_many) := ⟨rfl, rfl, rfl, by decide +kernel, rfl, by decide +kernel, by decide +kernel⟩
def sp_look_at_many : Sp := fun vs H Q _ => ∃ m : Int, vs = [.int m] ∧ 1 ≤ m ∧ m ≤ 24 ∧ Q .non H
theorem n_lookmany {H : Hp} {m : Int} {Q : VK} {E : XK} (h1 : 1 ≤ m) (h2 : m ≤ 24) (q : Q .non H) : sp_look_at_many ([.int m] ++ []) H Q E := ⟨m, rfl, h1, h2, q⟩

theorem ok_look_at_many {f : Addr} {fd : FuncData} (F : Fun K "look_at_many" "look_at_many" s_look_at_many f fd) (B : Bn mg) (c_is_whole : Cal P w K mg base "is_whole" 1 ["thing"] [] (sp_is_whole K)) (g_MOST : ∃ t, mg "MOST" = some (.int 24 t))  : FnOk P w K mg base CX0 2 f fd ["many"] sp_look_at_many := by
  refine F.ok sc_look_at_many (fun vs H Q E h => ?_) (fun cdv A outer s H vs Q E hr h => ?_)
  · obtain ⟨m, rfl, h1, h2, k⟩ := h
    all_goals rfl
  · obtain ⟨m, rfl, h1, h2, k⟩ := h
    refine ⟨_, (pss_one (ps_if (pw_or (pt_not (pt_val (pe_cal c_is_whole (hr.mono (by decide)) (by rfl) (pa_cons (pv 0) pa_nil)))) (pw_or (pt_cmpR op_lt (pv 0) pe_int (nomark _)) (pw_or1 (pt_cmpR op_gt (pv 0) (pe_globI (by rfl) g_MOST) (nomark _))))).pt pss_never pss_nil)), ?_⟩
    try dsimp only [cxOf, Cx.nox, Cx.wish, Cx.blk]
    wtm_at "no"
    exact k
abbrev s_look_at_rest : Stmt := top 26
theorem sc_look_at_rest : FnScope ["at", "feather", "rule"] ["at", "feather", "rule"] (defScope s_look_at_rest) := ⟨rfl, rfl, rfl, by decide +kernel, rfl, by decide +kernel, by decide +kernel⟩
def sp_look_at_rest (C : Addr) : Sp := fun vs H Q _ => ∃ F M u, ∃ (at' b l w s rule : Int) (g : D), vs = [.int at', u, .int rule] ∧ Wf F H M ∧ Rk F M u (prt C b l g w s) ∧ 0 ≤ rule ∧ rule ≤ 1000000 ∧ Q .non H
theorem n_lookrest {C : Addr} {F : List (V × D)} {H : Hp} {M : List ME} {u : V} {at' b l w s rule : Int} {g : D} {Q : VK} {E : XK} (ww : Wf F H M) (hu : Rk F M u (prt C b l g w s)) (r0 : 0 ≤ rule) (r1 : rule ≤ 1000000) (q : Q .non H) : sp_look_at_rest C ([.int at', u, .int rule] ++ []) H Q E := ⟨F, M, u, at', b, l, w, s, rule, g, rfl, ww, hu, r0, r1, q⟩

theorem ok_look_at_rest {f : Addr} {fd : FuncData} (F : Fun K "look_at_rest" "look_at_rest" s_look_at_rest f fd) (B : Bn mg) (c_is_small : Cal P w K mg base "is_small" 2 ["thing"] [] (sp_is_small K)) (o_Part : OwnC K C_Part) (n_Part : ∀ f ∈ (["base", "least", "greatest", "grow", "shrink"] : List Str), NoAttr K C_Part f) (g_Part : mg "Part" = some (.ref C_Part))  : FnOk P w K mg base CX0 3 f fd ["at", "feather", "rule"] (sp_look_at_rest C_Part) := by
  refine F.ok sc_look_at_rest (fun vs H Q E h => ?_) (fun cdv A outer s H vs Q E hr h => ?_)
  · obtain ⟨F, M, u, at', b, l, w, s, rule, g, rfl, ww, hu, r0, r1, k⟩ := h
    all_goals rfl
  · obtain ⟨F, M, u, at', b, l, w, s, rule, g, rfl, ww, hu, r0, r1, k⟩ := h
    refine ⟨_, (pss_cons (ps_if (pt_not (pt_val (pe_callB (k_isi (K := K) rfl) (by rfl) B.isinstance_ (by decide +kernel) (pa_cons (pv 1) (pa_cons (pe_glob (v := .ref C_Part) (by rfl) g_Part rfl) pa_nil))))) pss_never pss_nil)
      (pss_one (ps_if (pt_not (pt_val (pe_cal c_is_small (hr.mono (by decide)) (by rfl) (pa_cons (pv 2) pa_nil)))) pss_never pss_nil))), ?_⟩
    try dsimp only [cxOf, Cx.nox, Cx.wish, Cx.blk]
    wtm_at "n"
    refine n_isiOC o_Part ww hu kit_self ?_
    wtm_at "n"
    refine use_is_small (I := H) (M := []) W.self r0 r1 ?_
    wtm_at "n"
    exact k
/-! ### columns of strips: how far a height reaches -/
def z3 : Sp3 := ⟨0, none, []⟩
/-- the strips from one on, up to an end -/
def sl3 (xs : List Sp3) (b e : Nat) : List Sp3 := (xs.take e).drop b
/-- what some strips take with the feathers at their bases -/
def useI (b rule : Int) (xs : List Sp3) : Int := (xs.map fun x => x.h).sum + ((xs.length - 1 : Nat) : Int) * b + footI xs rule
/-- a break -/
def brk (xs : List Sp3) (e : Nat) : Bool := (xs.getD (e - 1) z3).st.isSome || e == xs.length
def farW (P Q : Nat → Bool) (f : Nat) : List Nat → Nat
  | [] => f
  | e :: r => if P e then (if Q e then farW P Q e r else f) else farW P Q f r
def fits (b rule high : Int) (xs : List Sp3) (beg e : Nat) : Bool := decide (useI b rule (sl3 xs beg e) ≤ high)
def farI (b rule high : Int) (xs : List Sp3) (beg : Nat) : Nat := farW (brk xs) (fits b rule high xs beg) beg (List.range' (beg + 1) (xs.length - beg))
def itr (f : Nat → Nat) : Nat → Nat
  | 0 => 0
  | n + 1 => f (itr f n)
def endsN (f : Nat → Nat) (m : Nat) : List Nat := (List.range m).map fun i => itr f (i + 1)
theorem endsN_len (f : Nat → Nat) (m : Nat) : (endsN f m).length = m := by simp [endsN]
theorem endsN_snoc (f : Nat → Nat) (m : Nat) : endsN f (m + 1) = endsN f m ++ [itr f (m + 1)] := by
  unfold endsN
  rw [List.range_succ, List.map_append]
  rfl
theorem sl3_snoc {xs : List Sp3} {b e : Nat} {x : Sp3} (h : xs[e]? = some x) (hb : b ≤ e) : sl3 xs b (e + 1) = sl3 xs b e ++ [x] := by
  unfold sl3
  rw [List.take_add_one, h, List.drop_append_of_le_length]
  · rfl
  · have : e < xs.length := (List.getElem?_eq_some_iff.mp h).1
    rw [List.length_take]
    omega
theorem sl3_self {xs : List Sp3} {b : Nat} : sl3 xs b b = [] := by
  unfold sl3
  apply List.drop_eq_nil_of_le
  rw [List.length_take]
  omega
theorem sl3_len {xs : List Sp3} {b e : Nat} (h : e ≤ xs.length) : (sl3 xs b e).length = e - b := by
  unfold sl3
  rw [List.length_drop, List.length_take]
  omega
theorem sl3_mem {xs : List Sp3} {b e : Nat} {x : Sp3} (h : x ∈ sl3 xs b e) : x ∈ xs := List.mem_of_mem_take (List.mem_of_mem_drop h)
theorem sl3_all {xs : List Sp3} : sl3 xs 0 xs.length = xs := by unfold sl3; simp
theorem sum_sub {f : Sp3 → Int} {l m : List Sp3} (s : List.Sublist l m) (h : ∀ x ∈ m, 0 ≤ f x) : (l.map f).sum ≤ (m.map f).sum := by
  induction s with
  | slnil => exact Int.le_refl _
  | cons a s ih =>
    have h1 := h a List.mem_cons_self
    have h2 := ih fun x hx => h x (List.mem_cons_of_mem _ hx)
    rw [List.map_cons, List.sum_cons]
    omega
  | cons_cons a s ih =>
    have h2 := ih fun x hx => h x (List.mem_cons_of_mem _ hx)
    rw [List.map_cons, List.sum_cons, List.map_cons, List.sum_cons]
    omega
theorem sum_nn {f : Sp3 → Int} {m : List Sp3} (h : ∀ x ∈ m, 0 ≤ f x) : 0 ≤ (m.map f).sum := sum_sub (List.nil_sublist m) h
theorem use_sub {b rule : Int} {l m : List Sp3} (s : List.Sublist l m) (h : ∀ x ∈ m, SpOk x) (b0 : 0 ≤ b) (r0 : 0 ≤ rule) : useI b rule l ≤ useI b rule m := by
  have h1 := sum_sub (f := fun x => x.h) s fun x hx => (h x hx).h0
  have h2 := sum_sub (f := fun x => x.ns.sum) s fun x hx => (h x hx).sum.1
  have h3 := sum_sub (f := fun x => (x.ns.length : Int)) s fun x _ => Int.natCast_nonneg _
  have h4 := sum_nn (f := fun x => x.ns.sum) (m := m) fun x hx => (h x hx).sum.1
  have h6 := sum_nn (f := fun x => (x.ns.length : Int)) (m := l) fun x _ => Int.natCast_nonneg _
  have h5 : ((l.length - 1 : Nat) : Int) * b ≤ ((m.length - 1 : Nat) : Int) * b := by
    apply Int.mul_le_mul_of_nonneg_right _ b0
    have := s.length_le
    omega
  have h7 : footI l rule ≤ footI m rule := by
    unfold footI
    split
    · split <;> omega
    · rw [if_neg (by omega)]
      omega
  unfold useI
  omega
theorem use_nn {b rule : Int} {m : List Sp3} (h : ∀ x ∈ m, SpOk x) (b0 : 0 ≤ b) (r0 : 0 ≤ rule) : 0 ≤ useI b rule m := by
  have := use_sub (b := b) (rule := rule) (List.nil_sublist m) h b0 r0
  simpa [useI, footI] using this
theorem sl3_sub {xs : List Sp3} {b b' e e' : Nat} (hb : b' ≤ b) (he : e ≤ e') : List.Sublist (sl3 xs b e) (sl3 xs b' e') := by
  unfold sl3
  rw [List.drop_take, List.drop_take]
  have h1 : xs.drop b = (xs.drop b').drop (b - b') := by rw [List.drop_drop]; congr 1; omega
  rw [h1]
  generalize xs.drop b' = l
  have h2 : (l.drop (b - b')).take (e - b) = (l.take (e - b')).drop (b - b') := by rw [List.drop_take]; congr 1; omega
  rw [h2]
  refine (List.drop_sublist _ _).trans ?_
  have h3 : l.take (e - b') = (l.take (e' - b')).take (e - b') := by rw [List.take_take]; congr 1; omega
  rw [h3]
  exact List.take_sublist _ _
theorem use_bd {b rule : Int} {xs : List Sp3} (h : ∀ x ∈ xs, SpOk x) (hl : xs.length ≤ 120) (b0 : 0 ≤ b) (b1 : b ≤ 1000000000000) (r0 : 0 ≤ rule) (r1 : rule ≤ 1000000) : 0 ≤ useI b rule xs ∧ useI b rule xs ≤ 300000000000000 := by
  have h1 := sum_bd (l := xs.map fun x => x.h) (m := 1000000000000) fun y hy => by
    obtain ⟨x, hx, rfl⟩ := List.mem_map.mp hy
    exact ⟨(h x hx).h0, (h x hx).h1⟩
  rw [List.length_map] at h1
  have h2 := foot_bd h hl r0 r1
  have h3 : ((xs.length - 1 : Nat) : Int) * b ≤ 119 * 1000000000000 := Int.mul_le_mul (by omega) b1 b0 (by omega)
  have h4 : 0 ≤ ((xs.length - 1 : Nat) : Int) * b := Int.mul_nonneg (by omega) b0
  unfold useI
  omega
/-! what farW finds -/
theorem farW_ge {P Q : Nat → Bool} : ∀ {n a f : Nat}, f < a → f ≤ farW P Q f (List.range' a n) ∧ farW P Q f (List.range' a n) < a + n + 1
  | 0, a, f, h => by simp [farW]; omega
  | n + 1, a, f, h => by
    rw [List.range'_succ]
    unfold farW
    split
    · split
      · have := farW_ge (P := P) (Q := Q) (n := n) (a := a + 1) (f := a) (by omega)
        omega
      · omega
    · have := farW_ge (P := P) (Q := Q) (n := n) (a := a + 1) (f := f) (by omega)
      omega
/-- what is found is a break that fits, or the begin -/
theorem farW_in {P Q : Nat → Bool} : ∀ {n a f : Nat}, f < a → farW P Q f (List.range' a n) = f ∨ (P (farW P Q f (List.range' a n)) = true ∧ Q (farW P Q f (List.range' a n)) = true)
  | 0, a, f, h => .inl rfl
  | n + 1, a, f, h => by
    rw [List.range'_succ]
    unfold farW
    split
    · split
      · rename_i hp hq
        rcases farW_in (P := P) (Q := Q) (n := n) (a := a + 1) (f := a) (by omega) with e | e
        · rw [e]; exact .inr ⟨hp, hq⟩
        · exact .inr e
      · exact .inl rfl
    · rcases farW_in (P := P) (Q := Q) (n := n) (a := a + 1) (f := f) (by omega) with e | e
      · exact .inl e
      · exact .inr e
/-- the next break behind does not fit -/
theorem farW_next {P Q : Nat → Bool} : ∀ {n a f e : Nat}, f < a → farW P Q f (List.range' a n) < e → a ≤ e → e < a + n → P e = true → (∀ e', farW P Q f (List.range' a n) < e' → a ≤ e' → e' < e → P e' = false) → Q e = false
  | 0, a, f, e, h, h1, h2, h3, _, _ => by omega
  | n + 1, a, f, e, h, h1, h2, h3, hp, hn => by
    rw [List.range'_succ] at h1 hn
    unfold farW at h1 hn
    by_cases pa : P a = true
    · simp only [pa, if_true] at h1 hn
      by_cases qa : Q a = true
      · simp only [qa, if_true] at h1 hn
        have h4 := farW_ge (P := P) (Q := Q) (n := n) (a := a + 1) (f := a) (by omega)
        exact farW_next (n := n) (a := a + 1) (f := a) (by omega) h1 (by omega) (by omega) hp fun e' g1 g2 g3 => hn e' g1 (by omega) g3
      · rw [if_neg qa] at h1 hn
        by_cases hea : e = a
        · rw [hea]; simpa using qa
        · have := hn a (by omega) (by omega) (by omega)
          rw [pa] at this; cases this
    · rw [if_neg pa] at h1 hn
      have hea : e ≠ a := fun z => pa (z ▸ hp)
      exact farW_next (n := n) (a := a + 1) (f := f) (by omega) h1 (by omega) (by omega) hp fun e' g1 g2 g3 => hn e' g1 (by omega) g3
/-- a break that fits, and all ahead of it fit, is reached -/
theorem farW_reach {P Q : Nat → Bool} : ∀ {n a f e : Nat}, f < a → a ≤ e → e < a + n → P e = true → (∀ e', a ≤ e' → e' ≤ e → Q e' = true) → e ≤ farW P Q f (List.range' a n)
  | 0, a, f, e, h, h2, h3, _, _ => by omega
  | n + 1, a, f, e, h, h2, h3, hp, hq => by
    rw [List.range'_succ]
    unfold farW
    have qa := hq a (by omega) h2
    by_cases hea : e = a
    · subst hea
      rw [hp, qa]
      simp only [if_true]
      exact (farW_ge (P := P) (Q := Q) (n := n) (a := e + 1) (f := e) (by omega)).1
    · rw [qa]
      simp only [if_true]
      split
      · exact farW_reach (n := n) (a := a + 1) (f := a) (by omega) (by omega) (by omega) hp fun e' g1 g2 => hq e' (by omega) g2
      · exact farW_reach (n := n) (a := a + 1) (f := f) (by omega) (by omega) (by omega) hp fun e' g1 g2 => hq e' (by omega) g2
section
variable {b rule high : Int} {xs : List Sp3}
theorem farI_ge {beg : Nat} (h : beg ≤ xs.length) : beg ≤ farI b rule high xs beg ∧ farI b rule high xs beg ≤ xs.length := by
  have := farW_ge (P := brk xs) (Q := fits b rule high xs beg) (n := xs.length - beg) (a := beg + 1) (f := beg) (by omega)
  unfold farI
  refine ⟨this.1, ?_⟩
  by_cases e : xs.length = beg
  · rw [e]; simp [farW]
  · have h2 : farW (brk xs) (fits b rule high xs beg) beg (List.range' (beg + 1) (xs.length - beg)) < beg + 1 + (xs.length - beg) + 1 := this.2
    have h3 := farW_in (P := brk xs) (Q := fits b rule high xs beg) (n := xs.length - beg) (a := beg + 1) (f := beg) (by omega)
    rcases h3 with h3 | ⟨h3, h4⟩
    · omega
    · have key : ∀ {n a f : Nat}, f < a → f ≤ a + n - 1 → farW (brk xs) (fits b rule high xs beg) f (List.range' a n) ≤ a + n - 1 := by
        intro n
        induction n with
        | zero => intro a f h1 h2; simp [farW]; omega
        | succ n ih =>
          intro a f h1 h2
          rw [List.range'_succ]
          unfold farW
          split
          · split
            · have := ih (a := a + 1) (f := a) (by omega) (by omega); omega
            · omega
          · have := ih (a := a + 1) (f := f) (by omega) (by omega); omega
      have := key (n := xs.length - beg) (a := beg + 1) (f := beg) (by omega) (by omega)
      omega
theorem farI_in {beg : Nat} (h : beg < farI b rule high xs beg) : brk xs (farI b rule high xs beg) = true ∧ useI b rule (sl3 xs beg (farI b rule high xs beg)) ≤ high := by
  rcases farW_in (P := brk xs) (Q := fits b rule high xs beg) (n := xs.length - beg) (a := beg + 1) (f := beg) (by omega) with e | e
  · unfold farI at h; omega
  · exact ⟨e.1, of_decide_eq_true e.2⟩
theorem farI_reach {beg e : Nat} (hx : ∀ x ∈ xs, SpOk x) (b0 : 0 ≤ b) (r0 : 0 ≤ rule) (h1 : beg < e) (h2 : e ≤ xs.length) (hp : brk xs e = true) (hu : useI b rule (sl3 xs beg e) ≤ high) : e ≤ farI b rule high xs beg :=
  farW_reach (by omega) (by omega) (by omega) hp fun e' g1 g2 => by
    have := use_sub (b := b) (rule := rule) (sl3_sub (xs := xs) (Nat.le_refl beg) g2) (fun x hx' => hx x (sl3_mem hx')) b0 r0
    simp only [fits, decide_eq_true_eq]
    omega
theorem farI_next {beg e : Nat} (h0 : beg ≤ xs.length) (h1 : farI b rule high xs beg < e) (h2 : e ≤ xs.length) (hp : brk xs e = true) (hn : ∀ e', farI b rule high xs beg < e' → e' < e → brk xs e' = false) : high < useI b rule (sl3 xs beg e) := by
  have h3 := farI_ge (b := b) (rule := rule) (high := high) h0
  have := farW_next (P := brk xs) (Q := fits b rule high xs beg) (n := xs.length - beg) (a := beg + 1) (f := beg) (e := e) (by omega) h1 (by omega) (by omega) hp fun e' g1 _ g3 => hn e' g1 g3
  simpa [fits] using this
theorem farI_all {beg : Nat} (hx : ∀ x ∈ xs, SpOk x) (b0 : 0 ≤ b) (r0 : 0 ≤ rule) (h : beg ≤ xs.length) (hu : useI b rule xs ≤ high) : farI b rule high xs beg = xs.length := by
  have h1 := farI_ge (b := b) (rule := rule) (high := high) h
  by_cases e : beg = xs.length
  · omega
  · have := farI_reach (b := b) (rule := rule) (high := high) (beg := beg) (e := xs.length) hx b0 r0 (by omega) (Nat.le_refl _) (by simp [brk]) (by
      have := use_sub (b := b) (rule := rule) (sl3_sub (xs := xs) (b := beg) (b' := 0) (Nat.zero_le _) (Nat.le_refl xs.length)) (fun x hx' => hx x (sl3_mem hx')) b0 r0
      rw [sl3_all] at this
      omega)
    omega
theorem itr_le : ∀ (n : Nat), itr (farI b rule high xs) n ≤ xs.length
  | 0 => Nat.zero_le _
  | n + 1 => (farI_ge (itr_le n)).2
theorem itr_mono : ∀ (n : Nat), itr (farI b rule high xs) n ≤ itr (farI b rule high xs) (n + 1) := fun n => (farI_ge (itr_le n)).1
theorem itr_mono' {n m : Nat} (h : n ≤ m) : itr (farI b rule high xs) n ≤ itr (farI b rule high xs) m := by
  induction h with
  | refl => exact Nat.le_refl _
  | step _ ih => exact Nat.le_trans ih (itr_mono _)
/-- all strips go into m columns -/
def goes (b rule high : Int) (xs : List Sp3) (m : Nat) : Prop := itr (farI b rule high xs) m = xs.length
theorem goes_all {m : Nat} (hx : ∀ x ∈ xs, SpOk x) (b0 : 0 ≤ b) (r0 : 0 ≤ rule) (hm : 1 ≤ m) : goes b rule (useI b rule xs) xs m := by
  have h1 : itr (farI b rule (useI b rule xs) xs) 1 = xs.length := farI_all hx b0 r0 (Nat.zero_le _) (Int.le_refl _)
  have h2 := itr_mono' (b := b) (rule := rule) (high := useI b rule xs) (xs := xs) hm
  have h3 := itr_le (b := b) (rule := rule) (high := useI b rule xs) (xs := xs) m
  unfold goes
  omega
end
/-- the columns of some ends -/
def colW : Nat → List Nat → List D
  | _, [] => []
  | b, e :: r => (if b < e then [.tup [.int (b : Nat), .int (e : Nat)]] else []) ++ colW e r
def colP : Nat → List Nat → List (Nat × Nat)
  | _, [] => []
  | b, e :: r => (if b < e then [(b, e)] else []) ++ colP e r
section
variable {P Q : Nat → Bool} {f a n X : Nat}
theorem far_yes (h : X = farW P Q f (List.range' a (n + 1))) (p : P a = true) (q : Q a = true) : X = farW P Q a (List.range' (a + 1) n) := by
  rw [List.range'_succ] at h
  simpa [farW, p, q] using h
theorem far_no (h : X = farW P Q f (List.range' a (n + 1))) (p : P a = false) : X = farW P Q f (List.range' (a + 1) n) := by
  rw [List.range'_succ] at h
  simpa [farW, p] using h
theorem far_stop (h : X = farW P Q f (List.range' a (n + 1))) (p : P a = true) (q : Q a = false) : X = f := by
  rw [List.range'_succ] at h
  simpa [farW, p, q] using h
end
theorem sl_sum {xs : List Sp3} {b e : Nat} {x : Sp3} {f : Sp3 → Int} (h : xs[e]? = some x) (hb : b ≤ e) : ((sl3 xs b (e + 1)).map f).sum = ((sl3 xs b e).map f).sum + f x := by
  rw [sl3_snoc h hb, List.map_append, List.sum_append]
  simp
theorem colW_snoc : ∀ (l : List Nat) (b e : Nat), colW b (l ++ [e]) = colW b l ++ (if l.getLastD b < e then [.tup [.int (l.getLastD b : Nat), .int (e : Nat)]] else [])
  | [], b, e => by simp [colW]
  | x :: l, b, e => by
    rw [List.cons_append, colW, colW_snoc l x e, colW, List.append_assoc, List.getLastD_cons]
theorem colW_len : ∀ (l : List Nat) (b : Nat), (colW b l).length ≤ l.length
  | [], _ => Nat.le_refl _
  | e :: r, b => by
    have := colW_len r e
    rw [colW, List.length_append, List.length_cons]
    split <;> simp <;> omega
theorem last_take {l : List Nat} {i e : Nat} (h : l[i]? = some e) : (l.take (i + 1)).getLastD 0 = e := by
  rw [take_snoc h]
  simp
theorem ends_last {f : Nat → Nat} {m : Nat} (h : 1 ≤ m) : atI ((endsN f m).map natD) (-1) = some (.int (itr f m : Nat)) := by
  obtain ⟨n, rfl⟩ : ∃ n, m = n + 1 := ⟨m - 1, by omega⟩
  rw [endsN_snoc, List.map_append]
  exact atI_last _ _

abbrev s_used_of : Stmt := top 27
theorem sc_used_of : FnScope ["strips", "feather", "rule", "between", "strip"] ["strips", "feather", "rule"] (defScope s_used_of) := ⟨rfl, rfl, rfl, by decide +kernel, rfl, by decide +kernel, by decide +kernel⟩
theorem max0 {n : Nat} : (if (0 : Int) > (n : Int) - 1 then 0 else (n : Int) - 1) = ((n - 1 : Nat) : Int) := by split <;> omega
def sp_used_of (C : Addr) : Sp := fun vs H Q _ => ∃ F M v u, ∃ (b l w s rule : Int) (g : D) (xs : List Sp3), vs = [v, u, .int rule] ∧ Wf F H M ∧ Rk F M v (.lst (xs.map spD)) ∧ Rk F M u (prt C b l g w s) ∧ xs.length ≤ 1000 ∧ 0 ≤ b ∧ b ≤ 1000000000000 ∧ ∀ H', Wf F H' M → Q (.int (useI b rule xs)) H'
theorem n_used {C : Addr} {F : List (V × D)} {H : Hp} {M : List ME} {v u : V} {b l w s rule : Int} {g : D} {xs : List Sp3} {Q : VK} {E : XK} (ww : Wf F H M) (hv : Rk F M v (.lst (xs.map spD))) (hu : Rk F M u (prt C b l g w s)) (hl : xs.length ≤ 1000) (b0 : 0 ≤ b) (b1 : b ≤ 1000000000000) (q : ∀ H', Wf F H' M → Q (.int (useI b rule xs)) H') : sp_used_of C ([v, u, .int rule] ++ []) H Q E := ⟨F, M, v, u, b, l, w, s, rule, g, xs, rfl, ww, hv, hu, hl, b0, b1, q⟩

theorem ok_used_of {f : Addr} {fd : FuncData} (F : Fun K "used_of" "used_of" s_used_of f fd) (B : Bn mg) (c_foot_of : Cal P w K mg base "foot_of" 2 ["strips", "rule"] [] sp_foot_of) (o_Part : OwnC K C_Part) (n_Part : ∀ f ∈ (["base", "least", "greatest", "grow", "shrink"] : List Str), NoAttr K C_Part f)  : FnOk P w K mg base CX0 3 f fd ["strips", "feather", "rule"] (sp_used_of C_Part) := by
  refine F.ok sc_used_of (fun vs H Q E h => ?_) (fun cdv A outer s H vs Q E hr h => ?_)
  · obtain ⟨F, M, v, u, b, l, w, s, rule, g, xs, rfl, ww, hv, hu, hl, b0, b1, k⟩ := h
    all_goals rfl
  · obtain ⟨F, M, v, u, b, l, w, s, rule, g, xs, rfl, ww, hv, hu, hl, b0, b1, k⟩ := h
    refine ⟨_, (pss_cons (ps_set (i := 3) sc_used_of.nd rfl (Or.inl rfl) (pe_op uo_mul (pe_callB (k_max (K := K) rfl rfl) (by rfl) B.max_ (by decide +kernel) (pa_cons (pe_op op_sub (pe_callB (k_len (K := K) rfl) (by rfl) B.len_ (by decide +kernel) (pa_cons (pv 0) pa_nil)) pe_int) (pa_cons pe_int pa_nil))) (kpe_fld (K := K) rfl (pv 1) rfl)))
      (pss_one (ps_ret (pe_op (k_add (K := K) rfl) (pe_op (k_add (K := K) rfl) (pe_callB (k_sum (K := K) rfl rfl) (by rfl) B.sum_ (by decide +kernel) (pa_cons (pe_lc (own := [("strip", 4)]) (by rfl) sc_used_of.nd (kpi_list (K := K) rfl (pv 0)) (blkOk_by (own := [("strip", 4)]) (N := ["strips", "feather", "rule", "between", "strip"]) (sc := defScope s_used_of) (by decide +kernel)) (fun _ _ _ _ _ => (pg_name (i := 4) sc_used_of.nd rfl (Or.inl rfl))) (fun _ _ _ _ _ => pts_nil) (fun _ _ _ _ _ => (pe_ix (k_ix (K := K) rfl) (pv 4) pe_int (fun _ _ => rfl)))) pa_nil)) (pv 3)) (pe_cal c_foot_of (hr.mono (by decide)) (by rfl) (pa_cons (pv 0) (pa_cons (pv 2) pa_nil))))))), ?_⟩
    try dsimp only [cxOf, Cx.nox, Cx.wish, Cx.blk]
    wtm_at "n"
    rw [List.length_map]
    have e : (if (0 : Int) > (xs.length : Int) - 1 then (0 : Int) else (xs.length : Int) - 1) = ((xs.length - 1 : Nat) : Int) := max0
    rw [e]
    wtm_at "no"
    refine n_lcMapI (f := fun x : Sp3 => x.h) ww hv (by omega) (fun v => rfl) ?_ ?_
    · intro x y D acc H0 C _ w kc
      wtm_at "n"
      exact kc _ (by wtm_at "wf")
    intro p H1 ww
    wtm_at "n"
    refine n_sum ww (by wtm_at "rk") ?_
    wtm_at "n"
    refine n_foot_of ww (by wtm_at "rk") hl fun H2 ww => ?_
    wtm_at "n"
    exact k _ (by wtm_at "wf")
abbrev s_filled : Stmt := top 28
theorem sc_filled : FnScope ["strips", "begin", "high", "feather", "rule", "found", "highs", "called", "notes", "end", "strip"] ["strips", "begin", "high", "feather", "rule"] (defScope s_filled) := ⟨rfl, rfl, rfl, by decide +kernel, rfl, by decide +kernel, by decide +kernel⟩
def sp_filled (C : Addr) : Sp := fun vs H Q _ => ∃ F M v u, ∃ (beg : Nat) (high b l w s rule : Int) (g : D) (xs : List Sp3), vs = [v, .int beg, .int high, u, .int rule] ∧ Wf F H M ∧ Rk F M v (.lst (xs.map spD)) ∧ Rk F M u (prt C b l g w s) ∧ beg ≤ xs.length ∧ xs.length ≤ 120 ∧ ∀ H', Wf F H' M → Q (.int (farI b rule high xs beg : Nat)) H'
theorem n_filled {C : Addr} {F : List (V × D)} {H : Hp} {M : List ME} {v u : V} {beg : Nat} {high b l w s rule : Int} {g : D} {xs : List Sp3} {Q : VK} {E : XK} (ww : Wf F H M) (hv : Rk F M v (.lst (xs.map spD))) (hu : Rk F M u (prt C b l g w s)) (hb : beg ≤ xs.length) (hl : xs.length ≤ 120) (q : ∀ H', Wf F H' M → Q (.int (farI b rule high xs beg : Nat)) H') : sp_filled C ([v, .int beg, .int high, u, .int rule] ++ []) H Q E := ⟨F, M, v, u, beg, high, b, l, w, s, rule, g, xs, rfl, ww, hv, hu, hb, hl, q⟩
/-- the running sums -/
theorem run_use {b rule : Int} {xs : List Sp3} {beg i : Nat} (h : beg + i + 1 ≤ xs.length) : -b + (((sl3 xs beg (beg + i + 1)).map fun x => x.h).sum + ((i + 1 : Nat) : Int) * b) + (if ((sl3 xs beg (beg + i + 1)).map fun x => (x.ns.length : Int)).sum = 0 then 0 else rule + ((sl3 xs beg (beg + i + 1)).map fun x => x.ns.sum).sum) = useI b rule (sl3 xs beg (beg + i + 1)) := by
  unfold useI
  rw [sl3_len h, show beg + i + 1 - beg - 1 = i by omega, Int.natCast_add, Int.add_mul]
  unfold footI
  simp only [Int.natCast_one, Int.one_mul]
  omega

theorem ok_filled {f : Addr} {fd : FuncData} (F : Fun K "filled" "filled" s_filled f fd) (B : Bn mg) (c_foot_by : Cal P w K mg base "foot_by" 1 ["many", "high", "rule"] [] sp_foot_by) (o_Part : OwnC K C_Part) (n_Part : ∀ f ∈ (["base", "least", "greatest", "grow", "shrink"] : List Str), NoAttr K C_Part f)  : FnOk P w K mg base CX0 2 f fd ["strips", "begin", "high", "feather", "rule"] (sp_filled C_Part) := by
  refine F.ok sc_filled (fun vs H Q E h => ?_) (fun cdv A outer s H vs Q E hr h => ?_)
  · obtain ⟨F, M, v, u, beg, high, b, l, w, s, rule, g, xs, rfl, ww, hv, hu, hb, hl, k⟩ := h
    all_goals rfl
  · obtain ⟨F, M, v, u, beg, high, b, l, w, s, rule, g, xs, rfl, ww, hv, hu, hb, hl, k⟩ := h
    refine ⟨_, (pss_cons (ps_set (i := 5) sc_filled.nd rfl (Or.inl rfl) (pv 1))
      (pss_cons (ps_set (i := 6) sc_filled.nd rfl (Or.inl rfl) (pe_un un_neg (kpe_fld (K := K) rfl (pv 3) rfl)))
      (pss_cons (ps_set (i := 7) sc_filled.nd rfl (Or.inl rfl) pe_int)
      (pss_cons (ps_set (i := 8) sc_filled.nd rfl (Or.inl rfl) pe_int)
      (pss_cons (ps_for PassesOwn.never rfl (pi_range2 (by rfl) B.range_ (pa_cons (pe_op (k_add (K := K) rfl) (pv 1) pe_int) (pa_cons (pe_op (k_add (K := K) rfl) (pe_callB (k_len (K := K) rfl) (by rfl) B.len_ (by decide +kernel) (pa_cons (pv 0) pa_nil)) pe_int) pa_nil))) (pg_name (i := 9) sc_filled.nd rfl (Or.inl rfl)) (pss_cons (ps_set (i := 10) sc_filled.nd rfl (Or.inl rfl) (pe_ix (k_ix (K := K) rfl) (pv 0) (pe_op op_sub (pv 9) pe_int) (fun _ _ => rfl)))
      (pss_cons (ps_aug (i := 6) sc_filled.nd rfl (Or.inl rfl) (pe_op (k_add (K := K) rfl) (kpe_fld (K := K) rfl (pv 3) rfl) (pe_ix (k_ix (K := K) rfl) (pv 10) pe_int (fun _ _ => rfl))) ip_add)
      (pss_cons (ps_aug (i := 7) sc_filled.nd rfl (Or.inl rfl) (pe_callB (k_len (K := K) rfl) (by rfl) B.len_ (by decide +kernel) (pa_cons (pe_ix (k_ix (K := K) rfl) (pv 10) pe_int (fun _ _ => rfl)) pa_nil)) ip_add)
      (pss_cons (ps_aug (i := 8) sc_filled.nd rfl (Or.inl rfl) (pe_callB (k_sum (K := K) rfl rfl) (by rfl) B.sum_ (by decide +kernel) (pa_cons (pe_ix (k_ix (K := K) rfl) (pv 10) pe_int (fun _ _ => rfl)) pa_nil)) ip_add)
      (pss_one (ps_if (pw_or (pt_cmp (pc_notN (pe_ix (k_ix (K := K) rfl) (pv 10) pe_int (fun _ _ => rfl)))) (pw_or1 (pt_cmpR (k_eq (K := K) rfl hr.units) (pv 9) (pe_callB (k_len (K := K) rfl) (by rfl) B.len_ (by decide +kernel) (pa_cons (pv 0) pa_nil)) (nomark _)))).pt (pss_cons (ps_if (pt_cmpR op_gt (pe_op (k_add (K := K) rfl) (pv 6) (pe_cal c_foot_by (hr.mono (by decide)) (by rfl) (pa_cons (pv 7) (pa_cons (pv 8) (pa_cons (pv 4) pa_nil))))) (pv 2) (nomark _)) (pss_one (ps_ret (pv 5))) pss_nil)
      (pss_one (ps_set (i := 5) sc_filled.nd rfl (Or.inl rfl) (pv 9)))) pss_nil)))))))
      (pss_one (ps_ret (pv 5)))))))), ?_⟩
    try dsimp only [cxOf, Cx.nox, Cx.wish, Cx.blk]
    rw [show L2.start (["strips", "begin", "high", "feather", "rule", "found", "highs", "called", "notes", "end", "strip"] : List Str) [v, .int beg, .int high, u, .int rule] = [some v, some (.int beg), some (.int high), some u, some (.int rule), none, none, none, none, none, none] from rfl]
    wtm_at "n"
    rw [List.length_map]
    refine s_rng2' (by omega) (by omega) (by omega) (by omega) ?_
    have en : ((xs.length : Int) + 1 - ((beg : Int) + 1)).toNat = xs.length - beg := by omega
    rw [en]
    refine n_forR ww (fun i σ' F' M' => ∃ f x9 x10, σ' = [some v, some (.int beg), some (.int high), some u, some (.int rule), some (.int (f : Nat)), some (.int (-b + (((sl3 xs beg (beg + i)).map fun x => x.h).sum + (i : Int) * b))), some (.int ((sl3 xs beg (beg + i)).map fun x => (x.ns.length : Int)).sum), some (.int ((sl3 xs beg (beg + i)).map fun x => x.ns.sum).sum), x9, x10] ∧ F = F' ∧ M = M' ∧ farI b rule high xs beg = farW (brk xs) (fits b rule high xs beg) f (List.range' (beg + 1 + i) (xs.length - beg - i))) ⟨beg, none, none, by rw [Nat.add_zero, sl3_self]; simp, rfl, rfl, rfl⟩ ?_ ?_
    · rintro i σ' H' F' M' hi ⟨f, x9, x10, rfl, rfl, rfl, hf⟩ ww
      have hlt : beg + i < xs.length := by omega
      have hxi : xs[beg + i]? = some xs[beg + i] := List.getElem?_eq_getElem hlt
      have hgd : xs.getD (beg + i) z3 = xs[beg + i] := by rw [List.getD_eq_getElem?_getD, hxi]; rfl
      obtain ⟨n, hn⟩ : ∃ n, xs.length - beg - i = n + 1 := ⟨xs.length - beg - i - 1, by omega⟩
      have hn2 : xs.length - beg - (i + 1) = n := by omega
      have ea : beg + 1 + i = beg + i + 1 := by omega
      have ea2 : beg + 1 + (i + 1) = beg + i + 1 + 1 := by omega
      rw [hn, ea] at hf
      have hu3 := run_use (b := b) (rule := rule) (xs := xs) (beg := beg) (i := i) hlt
      have s1 := sl_sum (f := fun x => x.h) hxi (Nat.le_add_right beg i)
      have s2 := sl_sum (f := fun x => (x.ns.length : Int)) hxi (Nat.le_add_right beg i)
      have s3 := sl_sum (f := fun x => x.ns.sum) hxi (Nat.le_add_right beg i)
      have hbr : brk xs (beg + i + 1) = (xs[beg + i].st.isSome || beg + i + 1 == xs.length) := by
        unfold brk
        rw [Nat.add_sub_cancel, hgd]
      generalize hxe : xs[beg + i] = x at *
      have fin : ∀ (G : Nat) (x9 x10 : Option V), (farI b rule high xs beg = farW (brk xs) (fits b rule high xs beg) G (List.range' (beg + 1 + (i + 1)) (xs.length - beg - (i + 1)))) → ∃ f x9' x10', [some v, some (.int beg), some (.int high), some u, some (.int rule), some (.int (G : Nat)), some (.int (-b + (((sl3 xs beg (beg + i)).map fun x => x.h).sum + (i : Int) * b) + (b + x.h))), some (.int (((sl3 xs beg (beg + i)).map fun x => (x.ns.length : Int)).sum + (x.ns.length : Int))), some (.int (((sl3 xs beg (beg + i)).map fun x => x.ns.sum).sum + x.ns.sum)), x9, x10] = [some v, some (.int beg), some (.int high), some u, some (.int rule), some (.int (f : Nat)), some (.int (-b + (((sl3 xs beg (beg + (i + 1))).map fun x => x.h).sum + ((i + 1 : Nat) : Int) * b))), some (.int ((sl3 xs beg (beg + (i + 1))).map fun x => (x.ns.length : Int)).sum), some (.int ((sl3 xs beg (beg + (i + 1))).map fun x => x.ns.sum).sum), x9', x10'] ∧ F = F ∧ M = M ∧ farI b rule high xs beg = farW (brk xs) (fits b rule high xs beg) f (List.range' (beg + 1 + (i + 1)) (xs.length - beg - (i + 1))) := by
        intro G x9 x10 h
        refine ⟨G, x9, x10, ?_, rfl, rfl, h⟩
        rw [show beg + (i + 1) = beg + i + 1 from rfl, s1, s2, s3]
        have : -b + (((sl3 xs beg (beg + i)).map fun x => x.h).sum + (i : Int) * b) + (b + x.h) = -b + (((sl3 xs beg (beg + i)).map fun x => x.h).sum + x.h + ((i + 1 : Nat) : Int) * b) := by
          rw [Int.natCast_add, Int.add_mul]
          simp only [Int.natCast_one, Int.one_mul]
          omega
        rw [this]
      have e5 : -b + (((sl3 xs beg (beg + i)).map fun x => x.h).sum + (i : Int) * b) + (b + x.h) + (if ((sl3 xs beg (beg + i)).map fun x => (x.ns.length : Int)).sum + (x.ns.length : Int) = 0 then 0 else rule + (((sl3 xs beg (beg + i)).map fun x => x.ns.sum).sum + x.ns.sum)) = useI b rule (sl3 xs beg (beg + i + 1)) := by
        rw [← hu3, s1, s2, s3, Int.natCast_add, Int.add_mul]
        simp only [Int.natCast_one, Int.one_mul]
        omega
      wtm_at "n"
      refine n_ixM (l := xs) (f := spD) (z := z3) (j := beg + i) ww hv (by omega) hlt fun t ww => ?_
      rw [hgd] at ww
      wtm_at "n"
      rw [List.length_map]
      wtm_at "n"
      refine n_sum (by assumption) (by wtm_at "rk") ?_
      wtm_at "n"
      rename_i t2 ww
      have e7 : t2 = oV x.st := ww.o0
      have wz : Wf F H' M := by wtm_at "wf"
      by_cases hB : x.st = none ∧ beg + i + 1 ≠ xs.length
      · obtain ⟨h1, h2⟩ := hB
        rw [h1] at e7
        change t2 = V.non at e7
        subst e7
        wtm_at "n"
        rw [List.length_map]
        refine s_iteIn (by omega) ?_
        wtm_at "n"
        exact ⟨_, _, fin f _ _ (by rw [hn2, ea2]; exact far_no hf (by rw [hbr, h1]; simp [h2])), wz⟩
      · have hB' : brk xs (beg + i + 1) = true := by
          rw [hbr]
          cases e8 : x.st with
          | none => simp [e8] at hB; simp [hB]
          | some s => rfl
        have hB2 : x.st = none → (beg : Int) + 1 + i = xs.length := fun e => by
          have : beg + i + 1 = xs.length := by simpa [e] using hB
          omega
        clear hB
        cases e8 : x.st with
        | none =>
          rw [e8] at e7
          change t2 = V.non at e7
          subst e7
          wtm_at "n"
          rw [List.length_map]
          refine s_iteIp (hB2 e8) ?_
          wtm_at "n"
          refine n_foot_by ?_
          wtm_at "n"
          rw [e5]
          wtm_at "fork"
          · rename_i h9
            wtm_at "n"
            rw [far_stop hf hB' (by simp [fits]; omega)] at k
            exact k _ wz
          · rename_i h9
            wtm_at "n"
            rw [show (beg : Int) + 1 + (i : Int) = ((beg + i + 1 : Nat) : Int) by omega]
            exact ⟨_, _, fin (beg + i + 1) _ _ (by rw [hn2, ea2]; exact far_yes hf hB' (by simp [fits]; omega)), wz⟩
        | some s =>
          rw [e8] at e7
          change t2 = V.int s at e7
          subst e7
          wtm_at "n"
          refine n_foot_by ?_
          wtm_at "n"
          rw [e5]
          wtm_at "fork"
          · rename_i h9
            wtm_at "n"
            rw [far_stop hf hB' (by simp [fits]; omega)] at k
            exact k _ wz
          · rename_i h9
            wtm_at "n"
            rw [show (beg : Int) + 1 + (i : Int) = ((beg + i + 1 : Nat) : Int) by omega]
            exact ⟨_, _, fin (beg + i + 1) _ _ (by rw [hn2, ea2]; exact far_yes hf hB' (by simp [fits]; omega)), wz⟩
    · rintro σ' H' F' M' ⟨f, x9, x10, rfl, rfl, rfl, hf⟩ ww
      rw [show xs.length - beg - (xs.length - beg) = 0 by omega] at hf
      have e : farI b rule high xs beg = f := hf
      wtm_at "n"
      rw [e] at k
      exact k _ ww
abbrev s_ends_of : Stmt := top 29
theorem sc_ends_of : FnScope ["strips", "many", "high", "feather", "rule", "ends", "end", "k"] ["strips", "many", "high", "feather", "rule"] (defScope s_ends_of) := ⟨rfl, rfl, rfl, by decide +kernel, rfl, by decide +kernel, by decide +kernel⟩
def sp_ends_of (C : Addr) : Sp := fun vs H Q _ => ∃ F M v u, ∃ (m : Nat) (high b l w s rule : Int) (g : D) (xs : List Sp3), vs = [v, .int m, .int high, u, .int rule] ∧ Wf F H M ∧ Rk F M v (.lst (xs.map spD)) ∧ Rk F M u (prt C b l g w s) ∧ m ≤ 24 ∧ xs.length ≤ 120 ∧ ∀ p H', Wf F H' (.ml p ((endsN (farI b rule high xs) m).map natD) :: M) → Q (.ref p) H'
theorem n_ends {C : Addr} {F : List (V × D)} {H : Hp} {M : List ME} {v u : V} {m : Nat} {high b l w s rule : Int} {g : D} {xs : List Sp3} {Q : VK} {E : XK} (ww : Wf F H M) (hv : Rk F M v (.lst (xs.map spD))) (hu : Rk F M u (prt C b l g w s)) (hm : m ≤ 24) (hl : xs.length ≤ 120) (q : ∀ p H', Wf F H' (.ml p ((endsN (farI b rule high xs) m).map natD) :: M) → Q (.ref p) H') : sp_ends_of C ([v, .int m, .int high, u, .int rule] ++ []) H Q E := ⟨F, M, v, u, m, high, b, l, w, s, rule, g, xs, rfl, ww, hv, hu, hm, hl, q⟩

theorem ok_ends_of {f : Addr} {fd : FuncData} (F : Fun K "ends_of" "ends_of" s_ends_of f fd) (B : Bn mg) (c_filled : Cal P w K mg base "filled" 2 ["strips", "begin", "high", "feather", "rule"] [] (sp_filled C_Part))  : FnOk P w K mg base CX0 3 f fd ["strips", "many", "high", "feather", "rule"] (sp_ends_of C_Part) := by
  refine F.ok sc_ends_of (fun vs H Q E h => ?_) (fun cdv A outer s H vs Q E hr h => ?_)
  · obtain ⟨F, M, v, u, m, high, b, l, w, s, rule, g, xs, rfl, ww, hv, hu, hm, hl, k⟩ := h
    all_goals rfl
  · obtain ⟨F, M, v, u, m, high, b, l, w, s, rule, g, xs, rfl, ww, hv, hu, hm, hl, k⟩ := h
    refine ⟨_, (pss_cons (ps_set (i := 5) sc_ends_of.nd rfl (Or.inl rfl) (pe_lst pa_nil))
      (pss_cons (ps_set (i := 6) sc_ends_of.nd rfl (Or.inl rfl) pe_int)
      (pss_cons (ps_for PassesOwn.never rfl (pi_range1 (by rfl) B.range_ (pa_cons (pv 1) pa_nil)) (pg_name (i := 7) sc_ends_of.nd rfl (Or.inl rfl)) (pss_cons (ps_set (i := 6) sc_ends_of.nd rfl (Or.inl rfl) (pe_cal c_filled (hr.mono (by decide)) (by rfl) (pa_cons (pv 0) (pa_cons (pv 6) (pa_cons (pv 2) (pa_cons (pv 3) (pa_cons (pv 4) pa_nil)))))))
      (pss_one (ps_expr (pe_bm PySem.F.plainAttrs_list PySem.F.slot_list_append PySem.F.type_list_append mt_append (pv 5) (pa_cons (pv 6) pa_nil))))))
      (pss_one (ps_ret (pv 5)))))), ?_⟩
    try dsimp only [cxOf, Cx.nox, Cx.wish, Cx.blk]
    wtm_at "n"
    rename_i p H1 ww
    refine s_rng1' (by omega) (by omega) ?_
    rw [Int.toNat_natCast]
    refine n_forR ww (fun i σ' F' M' => ∃ x7, σ' = [some v, some (.int m), some (.int high), some u, some (.int rule), some (.ref p), some (.int (itr (farI b rule high xs) i : Nat)), x7] ∧ F = F' ∧ M' = .ml p ((endsN (farI b rule high xs) i).map natD) :: M) ⟨_, rfl, rfl, rfl⟩ ?_ ?_
    · rintro i σ' H' F' M' hi ⟨x7, rfl, rfl, rfl⟩ ww
      wtm_at "n"
      refine n_filled ww (by wtm_at "rk") (by wtm_at "rk") (itr_le i) hl fun H2 ww => ?_
      wtm_at "n"
      refine n_app (d := natD (itr (farI b rule high xs) (i + 1))) ww (by wtm_at "foc") (.int _) (by rw [List.length_map, endsN_len]; omega) fun H3 ww => ?_
      wtm_at "n"
      refine ⟨_, _, ⟨_, rfl, rfl, ?_⟩, ww⟩
      rw [endsN_snoc, List.map_append]
      rfl
    · rintro σ' H' F' M' ⟨x7, rfl, rfl, rfl⟩ ww
      wtm_at "n"
      exact k _ _ ww
abbrev s_reach : Stmt := top 30
theorem sc_reach : FnScope ["strips", "many", "high", "feather", "rule"] ["strips", "many", "high", "feather", "rule"] (defScope s_reach) := ⟨rfl, rfl, rfl, by decide +kernel, rfl, by decide +kernel, by decide +kernel⟩
def sp_reach (C : Addr) : Sp := fun vs H Q _ => ∃ F M v u, ∃ (m : Nat) (high b l w s rule : Int) (g : D) (xs : List Sp3), vs = [v, .int m, .int high, u, .int rule] ∧ Wf F H M ∧ Rk F M v (.lst (xs.map spD)) ∧ Rk F M u (prt C b l g w s) ∧ 1 ≤ m ∧ m ≤ 24 ∧ 0 ≤ high ∧ 0 ≤ rule ∧ rule ≤ 1000000 ∧ (∀ x ∈ xs, SpOk x) ∧ xs.length ≤ 120 ∧ ∀ p H', Wf F H' (.ml p ((endsN (farI b rule high xs) m).map natD) :: M) → Q (.ref p) H'
theorem n_reach {C : Addr} {F : List (V × D)} {H : Hp} {M : List ME} {v u : V} {m : Nat} {high b l w s rule : Int} {g : D} {xs : List Sp3} {Q : VK} {E : XK} (ww : Wf F H M) (hv : Rk F M v (.lst (xs.map spD))) (hu : Rk F M u (prt C b l g w s)) (m1 : 1 ≤ m) (hm : m ≤ 24) (h0 : 0 ≤ high) (r0 : 0 ≤ rule) (r1 : rule ≤ 1000000) (hx : ∀ x ∈ xs, SpOk x) (hl : xs.length ≤ 120) (q : ∀ p H', Wf F H' (.ml p ((endsN (farI b rule high xs) m).map natD) :: M) → Q (.ref p) H') : sp_reach C ([v, .int m, .int high, u, .int rule] ++ []) H Q E := ⟨F, M, v, u, m, high, b, l, w, s, rule, g, xs, rfl, ww, hv, hu, m1, hm, h0, r0, r1, hx, hl, q⟩

theorem ok_reach {f : Addr} {fd : FuncData} (F : Fun K "reach" "reach" s_reach f fd) (B : Bn mg) (c_look_at_strips : Cal P w K mg base "look_at_strips" 4 ["at", "strips"] [] sp_look_at_strips) (c_look_at_many : Cal P w K mg base "look_at_many" 2 ["many"] [] sp_look_at_many) (c_is_whole : Cal P w K mg base "is_whole" 1 ["thing"] [] (sp_is_whole K)) (c_look_at_rest : Cal P w K mg base "look_at_rest" 3 ["at", "feather", "rule"] [] (sp_look_at_rest C_Part)) (c_ends_of : Cal P w K mg base "ends_of" 3 ["strips", "many", "high", "feather", "rule"] [] (sp_ends_of C_Part))  : FnOk P w K mg base CX0 5 f fd ["strips", "many", "high", "feather", "rule"] (sp_reach C_Part) := by
  refine F.ok sc_reach (fun vs H Q E h => ?_) (fun cdv A outer s H vs Q E hr h => ?_)
  · obtain ⟨F, M, v, u, m, high, b, l, w, s, rule, g, xs, rfl, ww, hv, hu, m1, hm, h0, r0, r1, hx, hl, k⟩ := h
    all_goals rfl
  · obtain ⟨F, M, v, u, m, high, b, l, w, s, rule, g, xs, rfl, ww, hv, hu, m1, hm, h0, r0, r1, hx, hl, k⟩ := h
    refine ⟨_, (pss_cons (ps_expr (pe_cal c_look_at_strips (hr.mono (by decide)) (by rfl) (pa_cons pe_int (pa_cons (pv 0) pa_nil))))
      (pss_cons (ps_expr (pe_cal c_look_at_many (hr.mono (by decide)) (by rfl) (pa_cons (pv 1) pa_nil)))
      (pss_cons (ps_if (pw_or (pt_not (pt_val (pe_cal c_is_whole (hr.mono (by decide)) (by rfl) (pa_cons (pv 2) pa_nil)))) (pw_or1 (pt_cmpR op_lt (pv 2) pe_int (nomark _)))).pt pss_never pss_nil)
      (pss_cons (ps_expr (pe_cal c_look_at_rest (hr.mono (by decide)) (by rfl) (pa_cons pe_int (pa_cons (pv 3) (pa_cons (pv 4) pa_nil)))))
      (pss_one (ps_ret (pe_cal c_ends_of (hr.mono (by decide)) (by rfl) (pa_cons (pv 0) (pa_cons (pv 1) (pa_cons (pv 2) (pa_cons (pv 3) (pa_cons (pv 4) pa_nil)))))))))))), ?_⟩
    try dsimp only [cxOf, Cx.nox, Cx.wish, Cx.blk]
    wtm_at "n"
    refine n_lookstrips ww hv hx hl fun H1 ww => ?_
    wtm_at "n"
    refine n_lookmany (by omega) (by omega) ?_
    wtm_at "n"
    refine s_iteDn (by omega) ?_
    wtm_at "n"
    refine n_lookrest ww hu r0 r1 ?_
    wtm_at "n"
    exact n_ends ww hv hu hm hl k
abbrev s_even_columns : Stmt := top 31
theorem sc_even_columns : FnScope ["strips", "many", "feather", "rule", "low", "top", "middle", "columns", "begin", "end"] ["strips", "many", "feather", "rule"] (defScope s_even_columns) := ⟨rfl, rfl, rfl, by decide +kernel, rfl, by decide +kernel, by decide +kernel⟩
def sp_even_columns (C : Addr) : Sp := fun vs H Q _ => ∃ F M v u, ∃ (m : Nat) (b l w s rule : Int) (g : D) (xs : List Sp3), vs = [v, .int m, u, .int rule] ∧ Wf F H M ∧ Rk F M v (.lst (xs.map spD)) ∧ Rk F M u (prt C b l g w s) ∧ 1 ≤ m ∧ m ≤ 24 ∧ 0 ≤ b ∧ b ≤ 1000000000000 ∧ 0 ≤ rule ∧ rule ≤ 1000000 ∧ (∀ x ∈ xs, SpOk x) ∧ xs.length ≤ 120 ∧ ∀ t p H' (low : Int), 0 ≤ low → low ≤ 300000000000000 → goes b rule low xs m → (low = 0 ∨ ¬ goes b rule (low - 1) xs m) → Wf ((t, .tup [.int low, .ref p]) :: F) H' (.ml p (colW 0 (endsN (farI b rule low xs) m)) :: M) → Q t H'
theorem n_evens {C : Addr} {F : List (V × D)} {H : Hp} {M : List ME} {v u : V} {m : Nat} {b l w s rule : Int} {g : D} {xs : List Sp3} {Q : VK} {E : XK} (ww : Wf F H M) (hv : Rk F M v (.lst (xs.map spD))) (hu : Rk F M u (prt C b l g w s)) (m1 : 1 ≤ m) (hm : m ≤ 24) (b0 : 0 ≤ b) (b1 : b ≤ 1000000000000) (r0 : 0 ≤ rule) (r1 : rule ≤ 1000000) (hx : ∀ x ∈ xs, SpOk x) (hl : xs.length ≤ 120) (q : ∀ t p H' (low : Int), 0 ≤ low → low ≤ 300000000000000 → goes b rule low xs m → (low = 0 ∨ ¬ goes b rule (low - 1) xs m) → Wf ((t, .tup [.int low, .ref p]) :: F) H' (.ml p (colW 0 (endsN (farI b rule low xs) m)) :: M) → Q t H') : sp_even_columns C ([v, .int m, u, .int rule] ++ []) H Q E := ⟨F, M, v, u, m, b, l, w, s, rule, g, xs, rfl, ww, hv, hu, m1, hm, b0, b1, r0, r1, hx, hl, q⟩

theorem ok_even_columns {f : Addr} {fd : FuncData} (F : Fun K "even_columns" "even_columns" s_even_columns f fd) (B : Bn mg) (c_look_at_strips : Cal P w K mg base "look_at_strips" 4 ["at", "strips"] [] sp_look_at_strips) (c_look_at_many : Cal P w K mg base "look_at_many" 2 ["many"] [] sp_look_at_many) (c_look_at_rest : Cal P w K mg base "look_at_rest" 3 ["at", "feather", "rule"] [] (sp_look_at_rest C_Part)) (c_used_of : Cal P w K mg base "used_of" 3 ["strips", "feather", "rule"] [] (sp_used_of C_Part)) (c_ends_of : Cal P w K mg base "ends_of" 3 ["strips", "many", "high", "feather", "rule"] [] (sp_ends_of C_Part))  : FnOk P w K mg base CX0 5 f fd ["strips", "many", "feather", "rule"] (sp_even_columns C_Part) := by
  refine F.ok sc_even_columns (fun vs H Q E h => ?_) (fun cdv A outer s H vs Q E hr h => ?_)
  · obtain ⟨F, M, v, u, m, b, l, w, s, rule, g, xs, rfl, ww, hv, hu, m1, hm, b0, b1, r0, r1, hx, hl, k⟩ := h
    all_goals rfl
  · obtain ⟨F, M, v, u, m, b, l, w, s, rule, g, xs, rfl, ww, hv, hu, m1, hm, b0, b1, r0, r1, hx, hl, k⟩ := h
    refine ⟨_, (pss_cons (ps_expr (pe_cal c_look_at_strips (hr.mono (by decide)) (by rfl) (pa_cons pe_int (pa_cons (pv 0) pa_nil))))
      (pss_cons (ps_expr (pe_cal c_look_at_many (hr.mono (by decide)) (by rfl) (pa_cons (pv 1) pa_nil)))
      (pss_cons (ps_expr (pe_cal c_look_at_rest (hr.mono (by decide)) (by rfl) (pa_cons pe_int (pa_cons (pv 2) (pa_cons (pv 3) pa_nil)))))
      (pss_cons (ps_set (i := 4) sc_even_columns.nd rfl (Or.inl rfl) pe_int)
      (pss_cons (ps_set (i := 5) sc_even_columns.nd rfl (Or.inl rfl) (pe_cal c_used_of (hr.mono (by decide)) (by rfl) (pa_cons (pv 0) (pa_cons (pv 2) (pa_cons (pv 3) pa_nil)))))
      (pss_cons (ps_while PassesOwn.never (pt_cmpR op_lt (pv 4) (pv 5) (nomark _)) (pss_cons (ps_set (i := 6) sc_even_columns.nd rfl (Or.inl rfl) (pe_op op_fdivW (pe_op (k_add (K := K) rfl) (pv 4) (pv 5)) pe_int))
      (pss_one (ps_if (pt_cmpR (k_eq (K := K) rfl hr.units) (pe_ix (k_ix (K := K) rfl) (pe_cal c_ends_of (hr.mono (by decide)) (by rfl) (pa_cons (pv 0) (pa_cons (pv 1) (pa_cons (pv 6) (pa_cons (pv 2) (pa_cons (pv 3) pa_nil)))))) (pe_un un_neg pe_int) (fun _ _ => rfl)) (pe_callB (k_len (K := K) rfl) (by rfl) B.len_ (by decide +kernel) (pa_cons (pv 0) pa_nil)) (nomark _)) (pss_one (ps_set (i := 5) sc_even_columns.nd rfl (Or.inl rfl) (pv 6))) (pss_one (ps_set (i := 4) sc_even_columns.nd rfl (Or.inl rfl) (pe_op (k_add (K := K) rfl) (pv 6) pe_int)))))))
      (pss_cons (ps_set (i := 7) sc_even_columns.nd rfl (Or.inl rfl) (pe_lst pa_nil))
      (pss_cons (ps_set (i := 8) sc_even_columns.nd rfl (Or.inl rfl) pe_int)
      (pss_cons (ps_for PassesOwn.never rfl (kpi_list (K := K) rfl (pe_cal c_ends_of (hr.mono (by decide)) (by rfl) (pa_cons (pv 0) (pa_cons (pv 1) (pa_cons (pv 4) (pa_cons (pv 2) (pa_cons (pv 3) pa_nil))))))) (pg_name (i := 9) sc_even_columns.nd rfl (Or.inl rfl)) (pss_cons (ps_if (pt_cmpR op_gt (pv 9) (pv 8) (nomark _)) (pss_one (ps_expr (pe_bm PySem.F.plainAttrs_list PySem.F.slot_list_append PySem.F.type_list_append mt_append (pv 7) (pa_cons (pe_tup (pa_cons (pv 8) (pa_cons (pv 9) pa_nil))) pa_nil)))) pss_nil)
      (pss_one (ps_set (i := 8) sc_even_columns.nd rfl (Or.inl rfl) (pv 9)))))
      (pss_one (ps_ret (pe_tup (pa_cons (pv 4) (pa_cons (pv 7) pa_nil)))))))))))))), ?_⟩
    try dsimp only [cxOf, Cx.nox, Cx.wish, Cx.blk]
    rw [show L2.start (["strips", "many", "feather", "rule", "low", "top", "middle", "columns", "begin", "end"] : List Str) [v, .int m, u, .int rule] = [some v, some (.int m), some u, some (.int rule), none, none, none, none, none, none] from rfl]
    wtm_at "n"
    refine n_lookstrips ww hv hx hl fun H1 ww => ?_
    wtm_at "n"
    refine n_lookmany (by omega) (by omega) ?_
    wtm_at "n"
    refine n_lookrest ww hu r0 r1 ?_
    wtm_at "n"
    refine n_used ww hv hu (by omega) b0 b1 fun H2 ww => ?_
    have ub := use_bd (b := b) (rule := rule) hx hl b0 b1 r0 r1
    wtm_at "s1"
    wtm_at "s1"
    refine n_whileG ww (fun μ σ' F' M' => ∃ (low top : Int) (x6 : Option V), σ' = [some v, some (.int m), some u, some (.int rule), some (.int low), some (.int top), x6, none, none, none] ∧ F = F' ∧ M = M' ∧ 0 ≤ low ∧ low ≤ top ∧ top ≤ 300000000000000 ∧ goes b rule top xs m ∧ (low = 0 ∨ ¬ goes b rule (low - 1) xs m) ∧ μ = (top - low).toNat) _ ⟨0, useI b rule xs, none, rfl, rfl, rfl, by omega, ub.1, ub.2, goes_all hx b0 r0 m1, .inl rfl, rfl⟩ ?_
    rintro μ σ' H' F' M' ⟨low, top, x6, rfl, rfl, rfl, l0, lt, t1, hg, hng, rfl⟩ ww
    wtm_at "n"
    wtm_at "fork"
    · rename_i hlt
      refine n_wG ?_
      wtm_at "no"
      have md : low ≤ (low + top) / 2 ∧ (low + top) / 2 < top := by omega
      generalize (low + top) / 2 = mid at *
      refine n_ends ww hv hu hm hl fun p H3 ww => ?_
      wtm_at "n"
      refine n_ixLi ww (by wtm_at "rk") (ends_last m1) ?_
      wtm_at "n"
      rw [List.length_map]
      wtm_at "fork"
      · rename_i he
        wtm_at "n"
        exact ⟨_, by omega, F, M, ⟨low, mid, _, rfl, rfl, rfl, l0, by omega, by omega, by unfold goes; omega, hng, rfl⟩, by wtm_at "wf"⟩
      · rename_i he
        wtm_at "n"
        exact ⟨_, by omega, F, M, ⟨mid + 1, top, _, rfl, rfl, rfl, by omega, by omega, by omega, hg, .inr (by rw [Int.add_sub_cancel]; unfold goes; omega), rfl⟩, by wtm_at "wf"⟩
    · rename_i hlt
      have e : low = top := by omega
      subst e
      wtm_at "n"
      rename_i pc H3 ww
      refine n_ends ww (by wtm_at "rk") (by wtm_at "rk") hm hl fun pe H4 ww => ?_
      wtm_at "n"
      refine n_forL ww (fun i σ' F' M' => ∃ x9, σ' = [some v, some (.int m), some u, some (.int rule), some (.int low), some (.int low), x6, some (.ref pc), some (.int (((endsN (farI b rule low xs) m).take i).getLastD 0 : Nat)), x9] ∧ F = F' ∧ M' = .ml pe ((endsN (farI b rule low xs) m).map natD) :: .ml pc (colW 0 ((endsN (farI b rule low xs) m).take i)) :: M) (by rintro i σ' F' M' ⟨_, rfl, rfl, rfl⟩; wtm_at "rk") ⟨_, rfl, rfl, rfl⟩ ?_ ?_
      · rintro i d y σ' H' F' M' hd ⟨x9, rfl, rfl, rfl⟩ ww
        obtain ⟨e, he, rfl⟩ := map_get hd
        obtain ⟨rfl, ww⟩ := ww.eq0 (n := (e : Nat))
        have hc := colW_snoc ((endsN (farI b rule low xs) m).take i) 0 e
        rw [← take_snoc he] at hc
        have hcl := colW_len ((endsN (farI b rule low xs) m).take i) 0
        rw [List.length_take, endsN_len] at hcl
        have hlt := last_take he
        generalize ((endsN (farI b rule low xs) m).take i).getLastD 0 = la at *
        wtm_at "n"
        wtm_at "fork"
        · rename_i h9
          rw [if_pos (by omega)] at hc
          wtm_at "n"
          refine ⟨_, _, ⟨some (.int (e : Nat)), ?_, rfl, rfl⟩, ?_⟩
          · rw [hlt]; rfl
          · rw [hc]
            wtm_at "wf"
        · rename_i h9
          rw [if_neg (by omega), List.append_nil] at hc
          wtm_at "n"
          refine ⟨_, _, ⟨some (.int (e : Nat)), ?_, rfl, rfl⟩, ?_⟩
          · rw [hlt]; rfl
          · rw [hc]
            wtm_at "wf"
      · rintro σ' H' F' M' ⟨x9, rfl, rfl, rfl⟩ ww
        rw [List.length_map, List.take_length] at *
        wtm_at "n"
        refine n_newT ww (ds := [.int low, .ref pc]) (by wtm_at "kna") (by simp) fun t H6 ww => ?_
        exact k _ pc _ low l0 t1 hg hng (by wtm_at "wf")
abbrev s__law_bag : Stmt := top 33
theorem sc__law_bag : FnScope ["_law_script", "_law_cell"] ["_law_script"] (defScope s__law_bag) := ⟨rfl, rfl, rfl, by decide +kernel, rfl, by decide +kernel, by decide +kernel⟩
def sp__law_bag (K : PySem.W.Frag) : Sp := fun vs H Q _ => ∃ I M a, ∃ ns : List Int, vs = [.ref a] ∧ W I H M ∧ SqL K H a (ns.map V.int) ∧ ∀ p c o J H', Same I J → W J H' ((p, o) :: M) → Bag J c o → Q (.ref p) H'
theorem use_bag {K : PySem.W.Frag} {H : Hp} {a : Addr} {ns : List Int} {Q : VK} {E : XK} (hS : SqL K H a (ns.map V.int)) (q : ∀ p c o J H', W J H' ((p, o) :: []) → Bag J c o → Q (.ref p) H') : sp__law_bag K ([.ref a] ++ []) H Q E :=
  ⟨_, _, a, ns, rfl, W.zero, hS, fun p c o J H' _ w b => q p c o J H' w b⟩
theorem n_bag {K : PySem.W.Frag} {H : Hp} {a : Addr} {ns : List Int} {Q : VK} {E : XK} (hS : SqL K H a (ns.map V.int)) (q : ∀ p H', Wf [] H' [.bag p] → Q (.ref p) H') : sp__law_bag K ([.ref a] ++ []) H Q E :=
  use_bag hS fun p c o J H' w hb => q p H' ⟨J, _, w, .cons (.bag hb) .nil, fun _ h => nomatch h⟩

theorem ok__law_bag {f : Addr} {fd : FuncData} (F : Fun K "_law_bag" "_law_bag" s__law_bag f fd) (B : Bn mg)  : FnOk P w K mg base CX0 1 f fd ["_law_script"] (sp__law_bag K) := by
  refine F.ok sc__law_bag (fun vs H Q E h => ?_) (fun cdv A outer s H vs Q E hr h => ?_)
  · obtain ⟨I, M, a, ns, rfl, w, hS, k⟩ := h
    all_goals rfl
  · obtain ⟨I, M, a, ns, rfl, w, hS, k⟩ := h
    refine ⟨_, (pss_one (ps_ret (pe_lst (pa_cons pe_int (pa_cons pe_int (pa_cons pe_int (pa_cons (pe_lc (own := [("_law_cell", 1)]) (by rfl) sc__law_bag.nd (kpi_list (K := K) rfl (pe_slice (k_sl (K := K) rfl) (pv 0) po_none (po_some pe_int))) (blkOk_by (own := [("_law_cell", 1)]) (N := ["_law_script", "_law_cell"]) (sc := defScope s__law_bag) (by decide +kernel)) (fun _ _ _ _ _ => (pg_name (i := 1) sc__law_bag.nd rfl (Or.inl rfl))) (fun _ _ _ _ _ => pts_nil) (fun _ _ _ _ _ => (pe_callB uc_abs (by rfl) B.abs_ (by decide +kernel) (pa_cons (pv 1) pa_nil)))) pa_nil))))))), ?_⟩
    try dsimp only [cxOf, Cx.nox, Cx.wish, Cx.blk]
    wtm_at "go"
    obtain ⟨ms, hm⟩ := cut63 ns none (some 63)
    refine s_slK hS fun p np => ?_
    rw [hm]
    have w1 := w.newI (o := .lst (ms.map V.int)) np
    have s1 : Same I (upd I p (.lst (ms.map V.int))) := w.same np
    refine s_iL' w1 (.lst upd_same (IsA.ints ms)) fun a' vs' ea ha hA => ?_
    cases ea
    rw [upd_same] at ha
    cases ha
    intro D nD
    have w2 := w1.newM (o := .lst []) nD
    refine lc_it (walk_list (xs := ms.map V.int)) (fun i H' => ∃ acc : List Int, W (upd I p (.lst (ms.map V.int))) H' ((D, .lst (acc.map V.int)) :: M) ∧ acc.length = i ∧ ∀ n ∈ acc, 0 ≤ n) ⟨[], w2, rfl, fun _ h => nomatch h⟩ (fun i H' _ ⟨acc, w3, _⟩ => .inl (.inl (w3.imm _ _ upd_same))) ?_ ?_
    · rintro i x H3 H4 hi ⟨acc, w3, hl, hp⟩ ⟨rfl, e⟩
      obtain ⟨z, rfl⟩ : ∃ z, x = V.int z := by
        rw [List.getElem?_map] at e
        cases q : ms[i]? with
        | none => rw [q] at e; cases e
        | some z => rw [q] at e; exact ⟨z, (Option.some.inj e).symm⟩
      refine s_gname ⟨rfl, ?_⟩
      wtm_at "go"
      have hlen : acc.length < 16777216 := by
        rw [hl]
        have := (List.getElem?_eq_some_iff.mp e).1
        have h5 : (ms.map V.int).length ≤ 64 := by
          rw [← hm]
          unfold cutV
          rw [List.length_take]
          have : HT.sIx (ns.map V.int).length (ns.map V.int).length (some 63) ≤ 63 := by
            show min (63 : Int).toNat _ ≤ 63
            exact Nat.min_le_left _ _
          omega
        omega
      refine ⟨_, w3.at0, (by rw [List.length_map]; exact Nat.lt_of_lt_of_le hlen (by decide)), acc ++ [if z < 0 then -z else z], ?_, by rw [List.length_append, hl]; rfl, fun n hn => ?_⟩
      · have q := w3.put0 (o' := .lst (acc.map V.int ++ [V.int (if z < 0 then -z else z)]))
        rw [List.map_append]
        exact q
      · rcases List.mem_append.mp hn with h | h
        · exact hp n h
        · rw [List.mem_singleton.mp h]
          split <;> omega
    · rintro H3 ⟨acc, w3, _, hp⟩
      obtain ⟨J, s2, w4, h4⟩ := w3.done0 (IsA.ints acc)
      wtm_at "go"
      refine s_newM w4 (by simp) fun q H5 w5 => ?_
      obtain ⟨_, vs, e, h6, a6⟩ := h4.lst_ex
      cases e
      exact k q D _ J H5 (s1.trans s2) w5 ⟨⟨acc, by rw [h6, a6.ints_eq], hp⟩, 0, 1234567891, 0, rfl, by decide, by decide, by decide, by decide⟩
abbrev s__law_take : Stmt := top 34
theorem sc__law_take : FnScope ["_law_bag_here", "_law_many", "_law_more", "_law_cell", "_law_value", "_law_first", "_law_second"] ["_law_bag_here", "_law_many"] (defScope s__law_take) := ⟨rfl, rfl, rfl, by decide +kernel, rfl, by decide +kernel, by decide +kernel⟩
def sp__law_take : Sp := fun vs H Q _ => ∃ I M b c o, ∃ m : Int, vs = [.ref b, .int m] ∧ W I H ((b, o) :: M) ∧ Bag I c o ∧ 0 < m ∧ Bd 4000 m ∧ ∀ v o' H', 0 ≤ v → v < m → Bag I c o' → W I H' ((b, o') :: M) → Q (.int v) H'
theorem use_take {I H : Hp} {M : List (Addr × HO)} {b c : Addr} {o : HO} {m : Int} {Q : VK} {E : XK} (w : W I H ((b, o) :: M)) (hb : Bag I c o) (h0 : 0 < m) (h1 : m < 10 ^ 200) (q : ∀ v o' H', 0 ≤ v → v < m → Bag I c o' → W I H' ((b, o') :: M) → Q (.int v) H') : sp__law_take ([.ref b, .int m] ++ []) H Q E :=
  ⟨I, M, b, c, o, m, rfl, w, hb, h0, Bd.of (10 ^ 200) (by omega) (by decide +kernel), q⟩
theorem take_end {I : Hp} {M : List (Addr × HO)} {b c : Addr} {ns : List Int} {x y z m : Int} {Q : VK} (cs : I c = some (.lst (ns.map V.int))) (nn : ∀ n ∈ ns, 0 ≤ n) (x0 : 0 ≤ x) (y0 : 0 ≤ y) (y1 : y < 2147483647) (z0 : 0 ≤ z)
    (k : ∀ v o' H', 0 ≤ v → v < m → Bag I c o' → W I H' ((b, o') :: M) → Q (.int v) H') : ∀ v H', 0 ≤ v → v < m → W I H' ((b, .lst [.int x, .int y, .int z, .ref c]) :: M) → Q (.int v) H' := fun v H' h1 h2 w => k v _ H' h1 h2 ⟨⟨ns, cs, nn⟩, x, y, z, rfl, x0, y0, y1, z0⟩ w
theorem n_take {F : List (V × D)} {H : Hp} {M : List ME} {b : Addr} {m : Int} {Q : VK} {E : XK} (w : Wf F H M) (hb : .bag b ∈ M) (h0 : 0 < m) (h1 : m < 10 ^ 200) (q : ∀ v H', 0 ≤ v → v < m → Wf F H' M → Q (.int v) H') : sp__law_take ([.ref b, .int m] ++ []) H Q E := by
  obtain ⟨I, Mc, c, o, w, hb, _, up, _⟩ := w.oldB hb
  exact use_take w hb h0 h1 fun v o' H' v0 v1 hb' w' => q v H' v0 v1 (up I H' o' (Same.refl _) w' hb')
local macro_rules | `(tactic| wtm_at "c1") => `(tactic| ((with_reducible refine' n_take (by assumption) ?b ?c ?d ?_); (case b => wtm_at "mem"); (case c => omega); (case d => omega); (intro v H' v0 v1 w')))

theorem ok__law_take {f : Addr} {fd : FuncData} (F : Fun K "_law_take" "_law_take" s__law_take f fd) (B : Bn mg)  : FnOk P w K mg base CX0 1 f fd ["_law_bag_here", "_law_many"] sp__law_take := by
  refine F.ok sc__law_take (fun vs H Q E h => ?_) (fun cdv A outer s H vs Q E hr h => ?_)
  · obtain ⟨I, M, b, c, o, m, rfl, w, ⟨⟨ns, cs, nn⟩, x, y, z, rfl, x0, y0, y1, z0⟩, h0, h1, k⟩ := h
    all_goals rfl
  · obtain ⟨I, M, b, c, o, m, rfl, w, ⟨⟨ns, cs, nn⟩, x, y, z, rfl, x0, y0, y1, z0⟩, h0, h1, k⟩ := h
    refine ⟨_, (pss_cons (ps_if (pt_cmpR (k_eq (K := K) rfl hr.units) (pe_ix (k_ix (K := K) rfl) (pv 0) pe_int (fun _ _ => rfl)) pe_int (nomark _)) (pss_cons (ps_set (i := 2) sc__law_take.nd rfl (Or.inl rfl) pe_int)
      (pss_cons (ps_if (pt_cmpR op_lt (pe_ix (k_ix (K := K) rfl) (pv 0) pe_int (fun _ _ => rfl)) (pe_callB (k_len (K := K) rfl) (by rfl) B.len_ (by decide +kernel) (pa_cons (pe_ix (k_ix (K := K) rfl) (pv 0) pe_int (fun _ _ => rfl)) pa_nil)) (nomark _)) (pss_cons (ps_set (i := 3) sc__law_take.nd rfl (Or.inl rfl) (pe_ix (k_ix (K := K) rfl) (pe_ix (k_ix (K := K) rfl) (pv 0) pe_int (fun _ _ => rfl)) (pe_ix (k_ix (K := K) rfl) (pv 0) pe_int (fun _ _ => rfl)) (fun _ _ => rfl)))
      (pss_cons (ps_augL (pv 0) pe_int pe_int)
      (pss_cons (ps_if (pt_cmpR op_ge (pv 3) pe_int (nomark _)) (pss_one (ps_asg (pv 3) (pg_sub (pv 0) pe_int set_list))) pss_nil)
      (pss_one (ps_set (i := 2) sc__law_take.nd rfl (Or.inl rfl) (pe_op (k_add (K := K) rfl) (pe_op op_mod (pv 3) pe_int) pe_int)))))) pss_nil)
      (pss_one (ps_asg (pe_op op_mod (pe_op (k_add (K := K) rfl) (pe_op uo_mul (pe_ix (k_ix (K := K) rfl) (pv 0) pe_int (fun _ _ => rfl)) pe_int) (pv 2)) pe_int) (pg_sub (pv 0) pe_int set_list))))) pss_nil)
      (pss_cons (ps_if (pt_cmpR op_gt (pe_ix (k_ix (K := K) rfl) (pv 0) pe_int (fun _ _ => rfl)) pe_int (nomark _)) (pss_cons (ps_set (i := 4) sc__law_take.nd rfl (Or.inl rfl) (pe_op op_mod (pe_ix (k_ix (K := K) rfl) (pv 0) pe_int (fun _ _ => rfl)) (pv 1)))
      (pss_cons (ps_asg (pe_op op_fdivW (pe_ix (k_ix (K := K) rfl) (pv 0) pe_int (fun _ _ => rfl)) (pv 1)) (pg_sub (pv 0) pe_int set_list))
      (pss_one (ps_ret (pv 4))))) pss_nil)
      (pss_cons (ps_set (i := 5) sc__law_take.nd rfl (Or.inl rfl) (pe_op op_mod (pe_op uo_mul (pe_ix (k_ix (K := K) rfl) (pv 0) pe_int (fun _ _ => rfl)) pe_int) pe_int))
      (pss_cons (ps_set (i := 6) sc__law_take.nd rfl (Or.inl rfl) (pe_op op_mod (pe_op uo_mul (pv 5) pe_int) pe_int))
      (pss_cons (ps_if (pt_cmpR op_gt (pv 1) pe_int (nomark _)) (pss_one (ps_ret (pe_op op_mod (pe_op (k_add (K := K) rfl) (pe_op uo_mul (pv 6) pe_int) (pv 5)) (pv 1)))) pss_nil)
      (pss_one (ps_ret (pe_op op_mod (pe_op op_fdivW (pv 6) pe_int) (pv 1))))))))), ?_⟩
    try dsimp only [cxOf, Cx.nox, Cx.wish, Cx.blk]
    have hc : Is I (.ref c) (.lst (ns.map D.int)) := .lst cs (IsA.ints ns)
    with_reducible refine s_mid (fun σ' H' => ∃ x y z v2 v3, σ' = [some (.ref b), some (.int m), v2, v3, none, none, none] ∧ 0 ≤ x ∧ 0 ≤ y ∧ y < 2147483647 ∧ 0 ≤ z ∧ W I H' ((b, .lst [.int x, .int y, .int z, .ref c]) :: M)) ?_ (fun N1 fin => ?_)
    · clear x0 y0 y1 z0 w
      rintro σ' H' ⟨x, y, z, v2, v3, rfl, x0, y0, y1, z0, w⟩
      wtm_at "go"
      wtm_at "fork"
      · wtm_at "go"
        refine s_I (show (0 : Int) < m from h0) ?_
        wtm_at "go"
        refine s_I (h1.cd h0) ?_
        wtm_at "go"
        refine take_end (x := x / m) (y := y) (z := z) cs nn (Int.ediv_nonneg x0 (by omega)) y0 y1 z0 k _ _ (Int.emod_nonneg _ (by omega)) (Int.emod_lt_of_pos _ h0) (by assumption)
      · wtm_at "go"
        wtm_at "goo"
        wtm_at "fork"
        · wtm_at "goo"
          exact take_end (x := x) (y := y) (z := z) cs nn x0 y0 y1 z0 k _ _ (Int.emod_nonneg _ (by omega)) (Int.emod_lt_of_pos _ h0) w
        · wtm_at "goo"
          exact take_end (x := x) (y := y) (z := z) cs nn x0 y0 y1 z0 k _ _ (Int.emod_nonneg _ (by omega)) (Int.emod_lt_of_pos _ h0) w
    · wtm_at "go"
      wtm_at "fork"
      · wtm_at "s1"; wtm_at "s1"; wtm_at "e1"; wtm_at "s1"
        with_reducible refine s_mid (fun σ' H' => ∃ x z v3, ∃ r : Int, σ' = [some (.ref b), some (.int m), some (.int r), v3, none, none, none] ∧ 0 ≤ r ∧ r ≤ 2147483647 ∧ 0 ≤ x ∧ 0 ≤ z ∧ W I H' ((b, .lst [.int x, .int y, .int z, .ref c]) :: M)) ?_ (fun N2 fin2 => ?_)
        · rintro σ' H' ⟨x', z', v3, r, rfl, r0, r1, x0', z0', w'⟩
          wtm_at "goo"
          exact fin _ _ ⟨x', (y * 48271 + r) % 2147483647, z', _, v3, rfl, x0', Int.emod_nonneg _ (by decide), Int.emod_lt_of_pos _ (by decide), z0', by assumption⟩
        · wtm_at "go"
          wtm_at "fork"
          · rename_i hz
            rw [List.length_map] at hz
            obtain ⟨n, hn, e⟩ := at_ints z0 hz
            have hn0 := nn n hn
            wtm_at "go"
            refine s_ixL w hc e ?_
            wtm_at "inv"
            wtm_at "go"
            wtm_at "fork"
            · wtm_at "goo"
              exact fin2 _ _ ⟨n, z + 1, _, _, rfl, by omega, by omega, by omega, by omega, by assumption⟩
            · wtm_at "goo"
              exact fin2 _ _ ⟨x, z + 1, _, _, rfl, by omega, by omega, by omega, by omega, by assumption⟩
          · wtm_at "go"
            exact fin2 _ _ ⟨x, z, none, 12345, rfl, by decide, by decide, x0, z0, w⟩
      · wtm_at "go"
        exact fin _ _ ⟨x, y, z, none, none, rfl, x0, y0, y1, z0, w⟩
abbrev s__law_length : Stmt := top 35
theorem sc__law_length : FnScope ["_law_bag_here", "_law_most", "_law_way"] ["_law_bag_here", "_law_most"] (defScope s__law_length) := ⟨rfl, rfl, rfl, by decide +kernel, rfl, by decide +kernel, by decide +kernel⟩
def sp__law_length : Sp := fun vs H Q _ => ∃ I M b c o, ∃ m : Int, vs = [.ref b, .int m] ∧ W I H ((b, o) :: M) ∧ Bag I c o ∧ 0 ≤ m ∧ m ≤ 1000000000000000000000000000000 ∧ ∀ v o' H', 0 ≤ v → v ≤ m → Bag I c o' → W I H' ((b, o') :: M) → Q (.int v) H'
theorem use_length {I H : Hp} {M : List (Addr × HO)} {b c : Addr} {o : HO} {m : Int} {Q : VK} {E : XK} (w : W I H ((b, o) :: M)) (hb : Bag I c o) (h0 : 0 ≤ m) (h1 : m ≤ 1000000000000) (q : ∀ v o' H', 0 ≤ v → v ≤ m → Bag I c o' → W I H' ((b, o') :: M) → Q (.int v) H') : sp__law_length ([.ref b, .int m] ++ []) H Q E :=
  ⟨I, M, b, c, o, m, rfl, w, hb, h0, by omega, q⟩
theorem n_length {F : List (V × D)} {H : Hp} {M : List ME} {b : Addr} {m : Int} {Q : VK} {E : XK} (w : Wf F H M) (hb : .bag b ∈ M) (h0 : 0 ≤ m) (h1 : m ≤ 1000000000000) (q : ∀ v H', 0 ≤ v → v ≤ m → Wf F H' M → Q (.int v) H') : sp__law_length ([.ref b, .int m] ++ []) H Q E := by
  obtain ⟨I, Mc, c, o, w, hb, _, up, _⟩ := w.oldB hb
  exact use_length w hb h0 h1 fun v o' H' v0 v1 hb' w' => q v H' v0 v1 (up I H' o' (Same.refl _) w' hb')
theorem n_lengthB {F : List (V × D)} {H : Hp} {M : List ME} {b : Addr} {m : Int} {Q : VK} {E : XK} (w : Wf F H M) (hb : .bag b ∈ M) (h0 : 0 ≤ m) (h1 : m ≤ 1000000000000000000000000000000) (q : ∀ v H', 0 ≤ v → v ≤ m → Wf F H' M → Q (.int v) H') : sp__law_length ([.ref b, .int m] ++ []) H Q E := by
  obtain ⟨I, Mc, c, o, w, hb, _, up, _⟩ := w.oldB hb
  exact ⟨I, Mc, b, c, o, m, rfl, w, hb, h0, h1, fun v o' H' v0 v1 hb' w' => q v H' v0 v1 (up I H' o' (Same.refl _) w' hb')⟩
local macro_rules | `(tactic| wtm_at "c1") => `(tactic| ((with_reducible refine' n_length (by assumption) ?b ?c ?d ?_); (case b => wtm_at "mem"); (case c => omega); (case d => omega); (intro v H' v0 v1 w')))

theorem ok__law_length {f : Addr} {fd : FuncData} (F : Fun K "_law_length" "_law_length" s__law_length f fd) (B : Bn mg) (c__law_take : Cal P w K mg base "_law_take" 1 ["_law_bag_here", "_law_many"] [] sp__law_take)  : FnOk P w K mg base CX0 2 f fd ["_law_bag_here", "_law_most"] sp__law_length := by
  refine F.ok sc__law_length (fun vs H Q E h => ?_) (fun cdv A outer s H vs Q E hr h => ?_)
  · obtain ⟨I, M, b, c, o, m, rfl, w, hb, h0, h1, k⟩ := h
    all_goals rfl
  · obtain ⟨I, M, b, c, o, m, rfl, w, hb, h0, h1, k⟩ := h
    refine ⟨_, (pss_cons (ps_set (i := 2) sc__law_length.nd rfl (Or.inl rfl) (pe_cal c__law_take (hr.mono (by decide)) (by rfl) (pa_cons (pv 0) (pa_cons pe_int pa_nil))))
      (pss_cons (ps_if (pt_cmpR (k_eq (K := K) rfl hr.units) (pv 2) pe_int (nomark _)) (pss_one (ps_ret (pe_cal c__law_take (hr.mono (by decide)) (by rfl) (pa_cons (pv 0) (pa_cons (pe_op (k_add (K := K) rfl) (pe_callB (k_min (K := K) rfl rfl) (by rfl) B.min_ (by decide +kernel) (pa_cons (pv 1) (pa_cons pe_int pa_nil))) pe_int) pa_nil))))) pss_nil)
      (pss_cons (ps_if (pt_cmpR (k_eq (K := K) rfl hr.units) (pv 2) pe_int (nomark _)) (pss_one (ps_ret (pe_cal c__law_take (hr.mono (by decide)) (by rfl) (pa_cons (pv 0) (pa_cons (pe_op (k_add (K := K) rfl) (pe_callB (k_min (K := K) rfl rfl) (by rfl) B.min_ (by decide +kernel) (pa_cons (pv 1) (pa_cons pe_int pa_nil))) pe_int) pa_nil))))) pss_nil)
      (pss_cons (ps_if (pt_cmpR (k_eq (K := K) rfl hr.units) (pv 2) pe_int (nomark _)) (pss_one (ps_ret (pe_op op_sub (pv 1) (pe_cal c__law_take (hr.mono (by decide)) (by rfl) (pa_cons (pv 0) (pa_cons (pe_op (k_add (K := K) rfl) (pe_callB (k_min (K := K) rfl rfl) (by rfl) B.min_ (by decide +kernel) (pa_cons (pv 1) (pa_cons pe_int pa_nil))) pe_int) pa_nil)))))) pss_nil)
      (pss_one (ps_ret (pe_cal c__law_take (hr.mono (by decide)) (by rfl) (pa_cons (pv 0) (pa_cons (pe_op (k_add (K := K) rfl) (pv 1) pe_int) pa_nil))))))))), ?_⟩
    try dsimp only [cxOf, Cx.nox, Cx.wish, Cx.blk]
    wtm_at "go"
    refine use_take w hb (by omega) (by omega) fun v o1 H1 v0 v1 hb1 w1 => ?_
    wtm_at "go"
    wtm_at "fork"
    · wtm_at "go"
      refine use_take w1 hb1 (by split <;> omega) (by split <;> omega) fun u o2 H2 u0 u1 hb2 w2 => ?_
      exact k u o2 H2 u0 (by split at u1 <;> omega) hb2 w2
    wtm_at "go"
    wtm_at "fork"
    · wtm_at "go"
      refine use_take w1 hb1 (by split <;> omega) (by split <;> omega) fun u o2 H2 u0 u1 hb2 w2 => ?_
      exact k u o2 H2 u0 (by split at u1 <;> omega) hb2 w2
    wtm_at "go"
    wtm_at "fork"
    · wtm_at "go"
      refine use_take w1 hb1 (by split <;> omega) (by split <;> omega) fun u o2 H2 u0 u1 hb2 w2 => ?_
      wtm_at "go"
      exact k _ o2 H2 (by split at u1 <;> omega) (by omega) hb2 w2
    wtm_at "go"
    refine use_take w1 hb1 (by omega) (by omega) fun u o2 H2 u0 u1 hb2 w2 => ?_
    exact k u o2 H2 u0 (by omega) hb2 w2
abbrev s__law_whole : Stmt := top 36
theorem sc__law_whole : FnScope ["_law_found"] ["_law_found"] (defScope s__law_whole) := ⟨rfl, rfl, rfl, by decide +kernel, rfl, by decide +kernel, by decide +kernel⟩
def sp__law_whole : Sp := fun vs H Q _ => ∃ I M v d a, vs = [v] ∧ W I H M ∧ Is I v d ∧ d.tn = some a ∧ Q (.bl d.whole) H
theorem use_wholeI {I H : Hp} {M : List (Addr × HO)} {n : Int} {Q : VK} {E : XK} (w : W I H M) (q : Q (.bl true) H) : sp__law_whole ([.int n] ++ []) H Q E := ⟨I, M, _, _, _, rfl, w, .int n, rfl, q⟩
theorem use_wholeN {I H : Hp} {M : List (Addr × HO)} {v : V} {d : D} {a : String} {Q : VK} {E : XK} (w : W I H M) (h : Is I v d) (ha : d.tn = some a) (hd : d.whole = false) (q : Q (.bl false) H) : sp__law_whole ([v] ++ []) H Q E := ⟨I, M, _, _, _, rfl, w, h, ha, by rw [hd]; exact q⟩
theorem n_wh {F : List (V × D)} {H : Hp} {M : List ME} {v : V} {d : D} {Q : VK} {E : XK} (w : Wf F H M) (hv : Rk F M v d) (ht : Ty d) (q : Q (.bl d.whole) H) : sp__law_whole ([v] ++ []) H Q E := by
  obtain ⟨a, ha⟩ := ht
  exact ⟨H, [], v, d, a, rfl, W.self, w.rd hv, ha, q⟩
theorem n_whI {n : Int} {H : Hp} {Q : VK} {E : XK} (q : Q (.bl true) H) : sp__law_whole ([.int n] ++ []) H Q E := ⟨H, [], .int n, .int n, _, rfl, W.self, .int n, rfl, q⟩
local macro_rules | `(tactic| wtm_at "c0") => `(tactic| with_reducible refine n_whI ?_)

theorem ok__law_whole {f : Addr} {fd : FuncData} (F : Fun K "_law_whole" "_law_whole" s__law_whole f fd) (B : Bn mg)  : FnOk P w K mg base CX0 1 f fd ["_law_found"] sp__law_whole := by
  refine F.ok sc__law_whole (fun vs H Q E h => ?_) (fun cdv A outer s H vs Q E hr h => ?_)
  · obtain ⟨I, M, v, d, a, rfl, w, hv, ha, k⟩ := h
    all_goals rfl
  · obtain ⟨I, M, v, d, a, rfl, w, hv, ha, k⟩ := h
    refine ⟨_, (pss_one (ps_ret (pe_and (pe_callB (k_isi (K := K) rfl) (by rfl) B.isinstance_ (by decide +kernel) (pa_cons (pv 0) (pa_cons (pe_bltn (v := .ty "int") (by rfl) B.int_ (by decide +kernel) rfl) pa_nil))) (pe_one (pe_not (pe_callB (k_isi (K := K) rfl) (by rfl) B.isinstance_ (by decide +kernel) (pa_cons (pv 0) (pa_cons (pe_bltn (v := .ty "bool") (by rfl) B.bool_ (by decide +kernel) rfl) pa_nil)))))))), ?_⟩
    try dsimp only [cxOf, Cx.nox, Cx.wish, Cx.blk]
    cases d with
    | int n => wtm_at "go"; exact k
    | bl n => wtm_at "go"; exact k
    | non => wtm_at "go"; exact k
    | str n => wtm_at "go"; exact k
    | tup n => wtm_at "go"; exact k
    | lst n => wtm_at "go"; exact k
    | ref n => cases ha
    | ty n => cases ha
    | obj n m => cases ha
    | dict => wtm_at "go"; exact k
abbrev s__law_weight : Stmt := top 40
theorem sc__law_weight : FnScope ["_law_bag_here", "_law_way"] ["_law_bag_here"] (defScope s__law_weight) := ⟨rfl, rfl, rfl, by decide +kernel, rfl, by decide +kernel, by decide +kernel⟩
def sp__law_weight : Sp := fun vs H Q _ => ∃ F M b, vs = [.ref b] ∧ Wf F H M ∧ .bag b ∈ M ∧ ∀ v H', 0 ≤ v → v ≤ 1000 → Wf F H' M → Q (.int v) H'
theorem n_lweight {F : List (V × D)} {H : Hp} {M : List ME} {b : Addr} {Q : VK} {E : XK} (w : Wf F H M) (hb : .bag b ∈ M) (q : ∀ v H', 0 ≤ v → v ≤ 1000 → Wf F H' M → Q (.int v) H') : sp__law_weight ([.ref b] ++ []) H Q E := ⟨F, M, b, rfl, w, hb, q⟩

theorem ok__law_weight {f : Addr} {fd : FuncData} (F : Fun K "_law_weight" "_law_weight" s__law_weight f fd) (B : Bn mg) (c__law_take : Cal P w K mg base "_law_take" 1 ["_law_bag_here", "_law_many"] [] sp__law_take)  : FnOk P w K mg base CX0 2 f fd ["_law_bag_here"] sp__law_weight := by
  refine F.ok sc__law_weight (fun vs H Q E h => ?_) (fun cdv A outer s H vs Q E hr h => ?_)
  · obtain ⟨F, M, b, rfl, w, hb, k⟩ := h
    all_goals rfl
  · obtain ⟨F, M, b, rfl, w, hb, k⟩ := h
    refine ⟨_, (pss_cons (ps_set (i := 1) sc__law_weight.nd rfl (Or.inl rfl) (pe_cal c__law_take (hr.mono (by decide)) (by rfl) (pa_cons (pv 0) (pa_cons pe_int pa_nil))))
      (pss_cons (ps_if (pt_cmpR (k_eq (K := K) rfl hr.units) (pv 1) pe_int (nomark _)) (pss_one (ps_ret pe_int)) pss_nil)
      (pss_cons (ps_if (pt_cmpR (k_eq (K := K) rfl hr.units) (pv 1) pe_int (nomark _)) (pss_one (ps_ret (pe_op (k_add (K := K) rfl) pe_int (pe_cal c__law_take (hr.mono (by decide)) (by rfl) (pa_cons (pv 0) (pa_cons pe_int pa_nil)))))) pss_nil)
      (pss_one (ps_ret (pe_cal c__law_take (hr.mono (by decide)) (by rfl) (pa_cons (pv 0) (pa_cons pe_int pa_nil)))))))), ?_⟩
    try dsimp only [cxOf, Cx.nox, Cx.wish, Cx.blk]
    wtm_at "n"
    refine n_take w hb (by omega) (by omega) fun x H1 x0 x1 w => ?_
    wtm_at "n"
    wtm_at "fork"
    · wtm_at "n"
      exact k _ _ (by omega) (by omega) w
    wtm_at "n"
    wtm_at "fork"
    · wtm_at "n"
      refine n_take w hb (by omega) (by omega) fun x H1 x0 x1 w => ?_
      wtm_at "n"
      exact k _ _ (by omega) (by omega) w
    wtm_at "n"
    refine n_take w hb (by omega) (by omega) fun x H1 x0 x1 w => ?_
    exact k _ _ (by omega) (by omega) w
abbrev s__law_part : Stmt := top 41
theorem sc__law_part : FnScope ["_law_bag_here", "_law_unit_here", "_law_base", "_law_least", "_law_greatest"] ["_law_bag_here", "_law_unit_here"] (defScope s__law_part) := ⟨rfl, rfl, rfl, by decide +kernel, rfl, by decide +kernel, by decide +kernel⟩
def sp__law_part : Sp := fun vs H Q _ => ∃ F M b, ∃ un : Int, vs = [.ref b, .int un] ∧ Wf F H M ∧ .bag b ∈ M ∧ 0 ≤ un ∧ un ≤ 250000000000 ∧ ∀ t H' a l g w s, PartOk a l g w s → Wf ((t, rowD a l g w s) :: F) H' M → Q t H'
theorem n_lpt {F : List (V × D)} {H : Hp} {M : List ME} {b : Addr} {un : Int} {Q : VK} {E : XK} (w : Wf F H M) (hb : .bag b ∈ M) (u0 : 0 ≤ un) (u1 : un ≤ 250000000000) (q : ∀ t H' a l g w s, PartOk a l g w s → Wf ((t, rowD a l g w s) :: F) H' M → Q t H') : sp__law_part ([.ref b, .int un] ++ []) H Q E := ⟨F, M, b, un, rfl, w, hb, u0, u1, q⟩

theorem ok__law_part {f : Addr} {fd : FuncData} (F : Fun K "_law_part" "_law_part" s__law_part f fd) (B : Bn mg) (c__law_length : Cal P w K mg base "_law_length" 2 ["_law_bag_here", "_law_most"] [] sp__law_length) (c__law_take : Cal P w K mg base "_law_take" 1 ["_law_bag_here", "_law_many"] [] sp__law_take) (c__law_weight : Cal P w K mg base "_law_weight" 2 ["_law_bag_here"] [] sp__law_weight)  : FnOk P w K mg base CX0 3 f fd ["_law_bag_here", "_law_unit_here"] sp__law_part := by
  refine F.ok sc__law_part (fun vs H Q E h => ?_) (fun cdv A outer s H vs Q E hr h => ?_)
  · obtain ⟨F, M, b, un, rfl, w, hb, u0, u1, k⟩ := h
    all_goals rfl
  · obtain ⟨F, M, b, un, rfl, w, hb, u0, u1, k⟩ := h
    refine ⟨_, (pss_cons (ps_set (i := 2) sc__law_part.nd rfl (Or.inl rfl) (pe_cal c__law_length (hr.mono (by decide)) (by rfl) (pa_cons (pv 0) (pa_cons (pv 1) pa_nil))))
      (pss_cons (ps_set (i := 3) sc__law_part.nd rfl (Or.inl rfl) (pe_op op_sub (pv 2) (pe_cal c__law_length (hr.mono (by decide)) (by rfl) (pa_cons (pv 0) (pa_cons (pv 2) pa_nil)))))
      (pss_cons (ps_set (i := 4) sc__law_part.nd rfl (Or.inl rfl) pe_non)
      (pss_cons (ps_if (pt_cmpR (k_eq (K := K) rfl hr.units) (pe_cal c__law_take (hr.mono (by decide)) (by rfl) (pa_cons (pv 0) (pa_cons pe_int pa_nil))) pe_int (nomark _)) (pss_one (ps_set (i := 4) sc__law_part.nd rfl (Or.inl rfl) (pe_op (k_add (K := K) rfl) (pv 2) (pe_cal c__law_length (hr.mono (by decide)) (by rfl) (pa_cons (pv 0) (pa_cons (pv 1) pa_nil)))))) pss_nil)
      (pss_one (ps_ret (pe_tup (pa_cons (pv 2) (pa_cons (pv 3) (pa_cons (pv 4) (pa_cons (pe_cal c__law_weight (hr.mono (by decide)) (by rfl) (pa_cons (pv 0) pa_nil)) (pa_cons (pe_cal c__law_weight (hr.mono (by decide)) (by rfl) (pa_cons (pv 0) pa_nil)) pa_nil)))))))))))), ?_⟩
    try dsimp only [cxOf, Cx.nox, Cx.wish, Cx.blk]
    wtm_at "n"
    refine n_length w hb u0 (by omega) fun a H1 a0 a1 w => ?_
    wtm_at "n"
    refine n_length w hb a0 (by omega) fun l H2 l0 l1 w => ?_
    wtm_at "e1"; wtm_at "s1"; wtm_at "s1"; wtm_at "s1"; wtm_at "e1"; wtm_at "s1"
    with_reducible refine s_mid (fun σ' H' => ∃ go : Option Int, σ' = [some (.ref b), some (.int un), some (.int a), some (.int (a - l)), some (oV go)] ∧ Gr a (oD go) ∧ Wf F H' M) ?_ (fun N fin => ?_)
    rotate_left
    · wtm_at "n"
      refine n_take w hb (by omega) (by omega) fun x H1 x0 x1 w => ?_
      wtm_at "n"
      wtm_at "fork"
      · wtm_at "n"
        refine n_length w hb u0 (by omega) fun y H2 y0 y1 w => ?_
        wtm_at "n"
        exact fin _ _ ⟨some (a + y), rfl, .inr ⟨_, rfl, by omega, by omega⟩, w⟩
      · wtm_at "n"
        exact fin _ _ ⟨none, rfl, .inl rfl, w⟩
    rintro σ' H' ⟨go, rfl, hg, w⟩
    wtm_at "n"
    refine n_lweight w hb fun w1 H3 w10 w11 w => ?_
    wtm_at "n"
    refine n_lweight w hb fun w2 H4 w20 w21 w => ?_
    wtm_at "n"
    refine n_newT (ds := [.int a, .int (a - l), oD go, .int w1, .int w2]) w (.cons (.int _) (.cons (.int _) (.cons (.oV go) (.cons (.int _) (.cons (.int _) .nil))))) (by simp) fun t H7 w => ?_
    exact k _ _ a (a - l) (oD go) w1 w2 ⟨by omega, by omega, by omega, hg, w10, w11, w20, w21⟩ w
abbrev s__law_strip : Stmt := top 42
theorem sc__law_strip : FnScope ["_law_bag_here", "_law_unit_here", "_law_stick", "_law_notes", "_law_k"] ["_law_bag_here", "_law_unit_here"] (defScope s__law_strip) := ⟨rfl, rfl, rfl, by decide +kernel, rfl, by decide +kernel, by decide +kernel⟩
def sp__law_strip : Sp := fun vs H Q _ => ∃ F M b, ∃ un : Int, vs = [.ref b, .int un] ∧ Wf F H M ∧ .bag b ∈ M ∧ 0 ≤ un ∧ un ≤ 1000000000000 ∧ ∀ t H' x, SpOk x → Wf ((t, spD x) :: F) H' M → Q t H'
theorem n_lstrip {F : List (V × D)} {H : Hp} {M : List ME} {b : Addr} {un : Int} {Q : VK} {E : XK} (w : Wf F H M) (hb : .bag b ∈ M) (u0 : 0 ≤ un) (u1 : un ≤ 1000000000000) (q : ∀ t H' x, SpOk x → Wf ((t, spD x) :: F) H' M → Q t H') : sp__law_strip ([.ref b, .int un] ++ []) H Q E := ⟨F, M, b, un, rfl, w, hb, u0, u1, q⟩
theorem notes_of {es : List D} {m : Int} (hP : ∀ (i : Nat) d, es[i]? = some d → ∃ n, d = .int n ∧ 0 ≤ n ∧ n ≤ m) : ∃ xs : List Int, es = xs.map D.int ∧ ∀ x ∈ xs, 0 ≤ x ∧ x ≤ m := by
  induction es with
  | nil => exact ⟨[], rfl, fun _ h => nomatch h⟩
  | cons d es ih =>
    obtain ⟨n, rfl, hn⟩ := hP 0 d rfl
    obtain ⟨xs, rfl, hx⟩ := ih fun i d hd => hP (i + 1) d (by simpa using hd)
    exact ⟨n :: xs, rfl, fun x hx' => by
      rcases List.mem_cons.mp hx' with rfl | h
      · exact hn
      · exact hx x h⟩

theorem ok__law_strip {f : Addr} {fd : FuncData} (F : Fun K "_law_strip" "_law_strip" s__law_strip f fd) (B : Bn mg) (c__law_take : Cal P w K mg base "_law_take" 1 ["_law_bag_here", "_law_many"] [] sp__law_take) (c__law_length : Cal P w K mg base "_law_length" 2 ["_law_bag_here", "_law_most"] [] sp__law_length)  : FnOk P w K mg base CX0 3 f fd ["_law_bag_here", "_law_unit_here"] sp__law_strip := by
  refine F.ok sc__law_strip (fun vs H Q E h => ?_) (fun cdv A outer s H vs Q E hr h => ?_)
  · obtain ⟨F, M, b, un, rfl, w, hb, u0, u1, k⟩ := h
    all_goals rfl
  · obtain ⟨F, M, b, un, rfl, w, hb, u0, u1, k⟩ := h
    refine ⟨_, (pss_cons (ps_set (i := 2) sc__law_strip.nd rfl (Or.inl rfl) pe_non)
      (pss_cons (ps_if (pt_cmpR op_gt (pe_cal c__law_take (hr.mono (by decide)) (by rfl) (pa_cons (pv 0) (pa_cons pe_int pa_nil))) pe_int (nomark _)) (pss_one (ps_set (i := 2) sc__law_strip.nd rfl (Or.inl rfl) (pe_op uo_mul (pe_cal c__law_length (hr.mono (by decide)) (by rfl) (pa_cons (pv 0) (pa_cons pe_int pa_nil))) (pe_cal c__law_take (hr.mono (by decide)) (by rfl) (pa_cons (pv 0) (pa_cons pe_int pa_nil)))))) pss_nil)
      (pss_cons (ps_set (i := 3) sc__law_strip.nd rfl (Or.inl rfl) (pe_lst pa_nil))
      (pss_cons (ps_if (pt_cmpR (k_eq (K := K) rfl hr.units) (pe_cal c__law_take (hr.mono (by decide)) (by rfl) (pa_cons (pv 0) (pa_cons pe_int pa_nil))) pe_int (nomark _)) (pss_one (ps_setLc (i := 3) (own := [("_law_k", 4)]) (by rfl) sc__law_strip.nd rfl rfl (sw_true rfl rfl rfl (by decide +kernel)) (pi_range1 (by rfl) B.range_ (pa_cons (pe_op (k_add (K := K) rfl) pe_int (pe_cal c__law_take (hr.mono (by decide)) (by rfl) (pa_cons (pv 0) (pa_cons pe_int pa_nil)))) pa_nil)) (blkOk_by (own := [("_law_k", 4)]) (N := ["_law_bag_here", "_law_unit_here", "_law_stick", "_law_notes", "_law_k"]) (sc := defScope s__law_strip) (by decide +kernel)) (fun _ _ _ _ _ => (pg_name (i := 4) sc__law_strip.nd rfl (Or.inl rfl))) (fun _ _ _ _ _ => pts_nil) (fun _ _ _ _ _ => (pe_cal c__law_length (hr.mono (by decide)) (by rfl) (pa_cons (pv 0) (pa_cons (pe_callB (k_min (K := K) rfl rfl) (by rfl) B.min_ (by decide +kernel) (pa_cons (pv 1) (pa_cons pe_int pa_nil))) pa_nil)))))) pss_nil)
      (pss_one (ps_ret (pe_tup (pa_cons (pe_cal c__law_length (hr.mono (by decide)) (by rfl) (pa_cons (pv 0) (pa_cons (pv 1) pa_nil))) (pa_cons (pv 2) (pa_cons (pv 3) pa_nil)))))))))), ?_⟩
    try dsimp only [cxOf, Cx.nox, Cx.wish, Cx.blk]
    wtm_at "s1"; wtm_at "s1"; wtm_at "e1"; wtm_at "s1"
    with_reducible refine s_mid (fun σ' H' => ∃ so : Option Int, σ' = [some (.ref b), some (.int un), some (oV so), none, none] ∧ (∀ s, so = some s → 0 ≤ s ∧ s ≤ 1000000) ∧ Wf F H' M) ?_ (fun N fin => ?_)
    rotate_left
    · wtm_at "n"
      refine n_take w hb (by omega) (by omega) fun x H1 x0 x1 w => ?_
      wtm_at "n"
      wtm_at "fork"
      · wtm_at "n"
        refine n_length w hb (by omega) (by omega) fun y H2 y0 y1 w => ?_
        wtm_at "n"
        refine n_take w hb (by omega) (by omega) fun z H1 z0 z1 w => ?_
        wtm_at "no"
        exact fin _ _ ⟨some (y * z), rfl, fun s hs => by
          cases hs
          have z2 : z = 0 ∨ z = 1 := by omega
          rcases z2 with rfl | rfl <;> omega, w⟩
      · wtm_at "n"
        exact fin _ _ ⟨none, rfl, (fun _ h => nomatch h), w⟩
    rintro σ' H' ⟨so, rfl, hso, w⟩
    wtm_at "s1"
    wtm_at "st2"
    rename_i p0 H1 w
    with_reducible refine s_mid (fun σ' H' => ∃ u, ∃ ns : List Int, σ' = [some (.ref b), some (.int un), some (oV so), some u, none] ∧ ns.length ≤ 60 ∧ (∀ n ∈ ns, 0 ≤ n ∧ n ≤ 1000000) ∧ Wf ((u, .lst (ns.map D.int)) :: F) H' M) ?_ (fun N fin => ?_)
    rotate_left
    · wtm_at "n"
      refine n_take w (by wtm_at "mem") (by omega) (by omega) fun x H1 x0 x1 w => ?_
      wtm_at "n"
      wtm_at "fork"
      · wtm_at "n"
        refine n_take w (by wtm_at "mem") (by omega) (by omega) fun z H1 z0 z1 w => ?_
        wtm_at "n"
        refine s_rng1' (by omega) (by omega) ?_
        refine n_lcR w (fun _ d => ∃ n, d = .int n ∧ 0 ≤ n ∧ n ≤ 1000000) (by omega) (fun v => rfl) ?_ ?_
        · intro i D acc H0 C hi w kc
          wtm_at "n"
          refine n_length w (by wtm_at "mem") (by split <;> omega) (by split <;> omega) fun y H6 y0 y1 w => ?_
          exact kc _ _ _ (w.add (.int _)) ⟨y, rfl, y0, by split at y1 <;> omega⟩
        intro pz es H6 hes hP w
        obtain ⟨ns, rfl, hn⟩ := notes_of hP
        rw [List.length_map] at hes
        wtm_at "n"
        exact fin _ _ ⟨_, ns, rfl, by omega, hn, (w.frzL .here).sub KS.refl (by wtm_at "sl")⟩
      · wtm_at "n"
        exact fin _ _ ⟨_, [], rfl, by simp, fun _ h => (nomatch h), w.frzL .here⟩
    rintro σ' H' ⟨u, ns, rfl, hl, hn, w⟩
    wtm_at "n"
    refine n_length w (by wtm_at "mem") (by omega) (by omega) fun y H6 y0 y1 w => ?_
    wtm_at "n"
    refine n_newT (ds := [.int y, oD so, .lst (ns.map D.int)]) w (.cons (.int _) (.cons (.oV so) (.cons (by wtm_at "kn") .nil))) (by simp) fun t H7 w => ?_
    refine k _ _ ⟨y, so, ns⟩ ⟨y0, by show y ≤ _; omega, hn, hl, hso⟩ ?_
    exact w.sub (KS.cons (.mem List.mem_cons_self) (by wtm_at "ks")) (.refl _)
abbrev s__law_strips : Stmt := top 43
theorem sc__law_strips : FnScope ["_law_bag_here", "_law_unit_here", "_law_many", "_law_strips_here", "_law_k", "_law_strip_here", "_law_at"] ["_law_bag_here", "_law_unit_here", "_law_many"] (defScope s__law_strips) := ⟨rfl, rfl, rfl, by decide +kernel, rfl, by decide +kernel, by decide +kernel⟩
def sp__law_strips : Sp := fun vs H Q _ => ∃ F M b, ∃ un m : Int, vs = [.ref b, .int un, .int m] ∧ Wf F H M ∧ .bag b ∈ M ∧ 0 ≤ un ∧ un ≤ 1000000000000 ∧ 0 ≤ m ∧ m ≤ 120 ∧ ∀ p H' (xs : List Sp3), (∀ x ∈ xs, SpOk x) → xs.length = m.toNat → Wf F H' (.ml p (xs.map spD) :: M) → Q (.ref p) H'
theorem n_lstrips {F : List (V × D)} {H : Hp} {M : List ME} {b : Addr} {un m : Int} {Q : VK} {E : XK} (w : Wf F H M) (hb : .bag b ∈ M) (u0 : 0 ≤ un) (u1 : un ≤ 1000000000000) (m0 : 0 ≤ m) (m1 : m ≤ 120) (q : ∀ p H' (xs : List Sp3), (∀ x ∈ xs, SpOk x) → xs.length = m.toNat → Wf F H' (.ml p (xs.map spD) :: M) → Q (.ref p) H') : sp__law_strips ([.ref b, .int un, .int m] ++ []) H Q E := ⟨F, M, b, un, m, rfl, w, hb, u0, u1, m0, m1, q⟩

theorem ok__law_strips {f : Addr} {fd : FuncData} (F : Fun K "_law_strips" "_law_strips" s__law_strips f fd) (B : Bn mg) (c__law_strip : Cal P w K mg base "_law_strip" 3 ["_law_bag_here", "_law_unit_here"] [] sp__law_strip) (c__law_take : Cal P w K mg base "_law_take" 1 ["_law_bag_here", "_law_many"] [] sp__law_take)  : FnOk P w K mg base CX0 4 f fd ["_law_bag_here", "_law_unit_here", "_law_many"] sp__law_strips := by
  refine F.ok sc__law_strips (fun vs H Q E h => ?_) (fun cdv A outer s H vs Q E hr h => ?_)
  · obtain ⟨F, M, b, un, m, rfl, w, hb, u0, u1, m0, m1, k⟩ := h
    all_goals rfl
  · obtain ⟨F, M, b, un, m, rfl, w, hb, u0, u1, m0, m1, k⟩ := h
    refine ⟨_, (pss_cons (ps_set (i := 3) sc__law_strips.nd rfl (Or.inl rfl) (pe_lst pa_nil))
      (pss_cons (ps_for PassesOwn.never rfl (pi_range1 (by rfl) B.range_ (pa_cons (pv 2) pa_nil)) (pg_name (i := 4) sc__law_strips.nd rfl (Or.inl rfl)) (pss_cons (ps_set (i := 5) sc__law_strips.nd rfl (Or.inl rfl) (pe_cal c__law_strip (hr.mono (by decide)) (by rfl) (pa_cons (pv 0) (pa_cons (pv 1) pa_nil))))
      (pss_cons (ps_if (pw_and (pt_cmpR op_gt (pe_callB (k_len (K := K) rfl) (by rfl) B.len_ (by decide +kernel) (pa_cons (pv 3) pa_nil)) pe_int (nomark _)) (pw_and1 (pt_cmpR (k_eq (K := K) rfl hr.units) (pe_cal c__law_take (hr.mono (by decide)) (by rfl) (pa_cons (pv 0) (pa_cons pe_int pa_nil))) pe_int (nomark _)))).pt (pss_one (ps_set (i := 5) sc__law_strips.nd rfl (Or.inl rfl) (pe_ix (k_ix (K := K) rfl) (pv 3) (pe_cal c__law_take (hr.mono (by decide)) (by rfl) (pa_cons (pv 0) (pa_cons (pe_callB (k_len (K := K) rfl) (by rfl) B.len_ (by decide +kernel) (pa_cons (pv 3) pa_nil)) pa_nil))) (fun _ _ => rfl)))) pss_nil)
      (pss_one (ps_expr (pe_bm PySem.F.plainAttrs_list PySem.F.slot_list_append PySem.F.type_list_append mt_append (pv 3) (pa_cons (pv 5) pa_nil)))))))
      (pss_cons (ps_if (pw_and (pt_cmpR op_gt (pv 2) pe_int (nomark _)) (pw_and1 (pt_cmpR (k_eq (K := K) rfl hr.units) (pe_cal c__law_take (hr.mono (by decide)) (by rfl) (pa_cons (pv 0) (pa_cons pe_int pa_nil))) pe_int (nomark _)))).pt (pss_cons (ps_set (i := 6) sc__law_strips.nd rfl (Or.inl rfl) (pe_cal c__law_take (hr.mono (by decide)) (by rfl) (pa_cons (pv 0) (pa_cons (pv 2) pa_nil))))
      (pss_one (ps_asg (pe_tup (pa_cons (pe_ix (k_ix (K := K) rfl) (pe_ix (k_ix (K := K) rfl) (pv 3) (pv 6) (fun _ _ => rfl)) pe_int (fun _ _ => rfl)) (pa_cons (pe_ix (k_ix (K := K) rfl) (pe_ix (k_ix (K := K) rfl) (pv 3) (pv 6) (fun _ _ => rfl)) pe_int (fun _ _ => rfl)) (pa_cons (pe_lc (own := [("_law_k", 4)]) (by rfl) sc__law_strips.nd (pi_range1 (by rfl) B.range_ (pa_cons pe_int pa_nil)) (blkOk_by (own := [("_law_k", 4)]) (N := ["_law_bag_here", "_law_unit_here", "_law_many", "_law_strips_here", "_law_k", "_law_strip_here", "_law_at"]) (sc := defScope s__law_strips) (by decide +kernel)) (fun _ _ _ _ _ => (pg_name (i := 4) sc__law_strips.nd rfl (Or.inl rfl))) (fun _ _ _ _ _ => pts_nil) (fun _ _ _ _ _ => (pe_op op_mod (pv 4) pe_int))) pa_nil)))) (pg_sub (pv 3) (pv 6) set_list)))) pss_nil)
      (pss_one (ps_ret (pv 3)))))), ?_⟩
    try dsimp only [cxOf, Cx.nox, Cx.wish, Cx.blk]
    wtm_at "n"
    rename_i p H1 w
    refine s_rng1' (by omega) (by omega) ?_
    refine n_forR w (fun i σ' F' M' => ∃ xs : List Sp3, ∃ x4 x5, σ' = [some (.ref b), some (.int un), some (.int m), some (.ref p), x4, x5, none] ∧ F = F' ∧ M' = .ml p (xs.map spD) :: M ∧ xs.length = i ∧ ∀ x ∈ xs, SpOk x) ⟨[], _, _, rfl, rfl, rfl, rfl, fun _ h => (nomatch h)⟩ ?_ ?_
    · rintro i σ' H' F' M' hi ⟨xs, x4, x5, rfl, rfl, rfl, hl, hx⟩ w
      have hi' : i < 120 := by omega
      wtm_at "n"
      refine n_lstrip w (by wtm_at "mem") u0 u1 fun t H2 x okx w => ?_
      wtm_at "s1"
      with_reducible refine s_mid (fun σ' H' => ∃ v x, σ' = [some (.ref b), some (.int un), some (.int m), some (.ref p), some (.int (0 + (i : Int))), some v, none] ∧ SpOk x ∧ Wf ((v, spD x) :: F) H' (.ml p (xs.map spD) :: M)) ?_ (fun N fin => ?_)
      rotate_left
      · wtm_at "n"
        rw [List.length_map]
        wtm_at "fork"
        · wtm_at "n"
          refine n_take w (by wtm_at "mem") (by omega) (by omega) fun y H3 y0 y1 w => ?_
          wtm_at "n"
          wtm_at "fork"
          · wtm_at "n"
            rw [List.length_map]
            refine n_take w (by wtm_at "mem") (by omega) (by omega) fun z H4 z0 z1 w => ?_
            refine n_ixAny w (by wtm_at "rk") z0 (by rw [List.length_map]; omega) fun d u hd w => ?_
            obtain ⟨x2, hx2, rfl⟩ := map_get hd
            wtm_at "n"
            exact fin _ _ ⟨u, x2, rfl, hx x2 (List.mem_of_getElem? hx2), by wtm_at "wf"⟩
          · wtm_at "n"
            exact fin _ _ ⟨t, x, rfl, okx, w⟩
        · wtm_at "n"
          exact fin _ _ ⟨t, x, rfl, okx, w⟩
      rintro σ' H' ⟨v, x, rfl, okx, w⟩
      wtm_at "n"
      refine ⟨_, _, ⟨xs ++ [x], _, _, rfl, rfl, rfl, by simp [hl], fun z hz => ?_⟩, ?_⟩
      · rcases List.mem_append.mp hz with h | h
        · exact hx z h
        · rw [List.mem_singleton.mp h]; exact okx
      · rw [List.map_append]
        change Wf _ _ (.ml p (xs.map spD ++ [spD x]) :: M)
        wtm_at "wf"
    · rintro σ' H' F' M' ⟨xs, x4, x5, rfl, rfl, rfl, hl, hx⟩ w
      wtm_at "n"
      wtm_at "fork"
      rotate_left
      · wtm_at "n"
        exact k p _ xs hx hl w
      wtm_at "n"
      refine n_take w (by wtm_at "mem") (by omega) (by omega) fun y H3 y0 y1 w => ?_
      wtm_at "n"
      wtm_at "fork"
      rotate_left
      · wtm_at "n"
        exact k p _ xs hx hl w
      wtm_at "n"
      refine n_take w (by wtm_at "mem") (by omega) (by omega) fun a H1 a0 a1 w => ?_
      obtain ⟨an, rfl⟩ := Int.eq_ofNat_of_zero_le a0
      have hxa : SpOk (xs.getD an ⟨0, none, []⟩) := by
        have h3 : xs[an]? = some xs[an] := List.getElem?_eq_getElem (by omega)
        rw [List.getD_eq_getElem?_getD, h3]
        exact hx _ (List.getElem_mem _)
      wtm_at "n"
      refine n_ixM (l := xs) (f := spD) (z := ⟨0, none, []⟩) w (by wtm_at "rk") rfl (by omega) fun u w => ?_
      wtm_at "n"
      refine n_ixM (l := xs) (f := spD) (z := ⟨0, none, []⟩) w (by wtm_at "rk") rfl (by omega) fun u2 w => ?_
      wtm_at "n"
      rename_i us w
      refine s_rng1' (by omega) (by omega) ?_
      refine n_lcR w (fun _ d => ∃ n, d = .int n ∧ 0 ≤ n ∧ n ≤ 1000000) (by decide) (fun v => rfl) ?_ ?_
      · intro i D acc H0 C hi w kc
        wtm_at "no"
        refine kc _ _ _ (w.add (.int _)) ⟨_, rfl, ?_, ?_⟩ <;> omega
      intro pz es H6 hes hP w
      obtain ⟨ns, rfl, hn⟩ := notes_of hP
      rw [List.length_map] at hes
      have w := w.frzL .here
      wtm_at "n"
      rename_i t H7 w
      refine n_set (d := spD ⟨(xs.getD an ⟨0, none, []⟩).h, (xs.getD an ⟨0, none, []⟩).st, ns⟩) w (by wtm_at "foc") (.mem List.mem_cons_self) (ixN_of (by rw [List.length_map]; omega)) fun H7 w => ?_
      rw [← List.map_set] at w
      wtm_at "n"
      refine k _ _ (xs.set an ⟨(xs.getD an ⟨0, none, []⟩).h, (xs.getD an ⟨0, none, []⟩).st, ns⟩) (fun x hx' => ?_) (by rw [List.length_set]; exact hl) (by wtm_at "wf")
      rcases List.mem_or_eq_of_mem_set hx' with h | rfl
      · exact hx x h
      · exact ⟨hxa.h0, hxa.h1, hn, by show ns.length ≤ 60; omega, hxa.s0⟩
/-! ### what was frozen is changed again: strips whose notes stand at known places -/
abbrev HS := Addr × Addr × Sp3
def exS (hs : List HS) : List (V × D) := hs.flatMap fun h => [(.ref h.1, .tup [.int h.2.2.h, oD h.2.2.st, .ref h.2.1]), (.ref h.2.1, .lst (h.2.2.ns.map D.int))]
abbrev hsR (hs : List HS) : List D := hs.map fun h => D.ref h.1
abbrev hsD (hs : List HS) : List D := hs.map fun h => spD h.2.2
theorem exS_mem {hs : List HS} {h : HS} (hm : h ∈ hs) : (V.ref h.1, D.tup [.int h.2.2.h, oD h.2.2.st, .ref h.2.1]) ∈ exS hs ∧ (V.ref h.2.1, D.lst (h.2.2.ns.map D.int)) ∈ exS hs :=
  ⟨List.mem_flatMap.mpr ⟨h, hm, List.mem_cons_self⟩, List.mem_flatMap.mpr ⟨h, hm, List.mem_cons_of_mem _ List.mem_cons_self⟩⟩
theorem exS_inv {hs : List HS} {f : V × D} (hf : f ∈ exS hs) : ∃ h ∈ hs, f = (V.ref h.1, D.tup [.int h.2.2.h, oD h.2.2.st, .ref h.2.1]) ∨ f = (V.ref h.2.1, D.lst (h.2.2.ns.map D.int)) := by
  obtain ⟨h, h1, h2⟩ := List.mem_flatMap.mp hf
  refine ⟨h, h1, ?_⟩
  simpa using h2
theorem exS_deep {I : Hp} {hs : List HS} (hF : ∀ f ∈ exS hs, Is I f.1 f.2) {h : HS} (hm : h ∈ hs) : Is I (.ref h.1) (spD h.2.2) := by
  have h1 := hF _ (exS_mem hm).1
  have h2 := hF _ (exS_mem hm).2
  cases h1 with
  | tup hp a =>
    cases a with | cons a0 a =>
    cases a with | cons a1 a =>
    cases a with | cons a2 a =>
    cases a
    cases a2
    exact .tup hp (.cons a0 (.cons a1 (.cons h2 .nil)))
theorem isA_hs {I : Hp} : ∀ {hs : List HS}, (∀ f ∈ exS hs, Is I f.1 f.2) → IsA I (hs.map fun h => V.ref h.1) (hsD hs)
  | [], _ => .nil
  | h :: r, hF => .cons (exS_deep hF List.mem_cons_self) (isA_hs fun f hf => hF f (by unfold exS at *; rw [List.flatMap_cons]; exact List.mem_append_right _ hf))
theorem isA_refV {I : Hp} : ∀ {hs : List HS} {vs : List V}, IsA I vs (hsR hs) → vs = hs.map fun h => V.ref h.1
  | [], _, h => by cases h; rfl
  | h :: r, _, a => by
    cases a with
    | cons h1 h2 =>
      cases h1
      rw [isA_refV h2]
      rfl
section
variable {I H : Hp} {F F' : List (V × D)} {M M' : List ME} {p q : Addr} {v : V} {hs : List HS} {xs : List Sp3}
theorem Wf.deepM (w : Wf F H (.ml p (hsR hs) :: M)) (hk : ∀ f ∈ exS hs, f ∈ F) : Wf F H (.ml p (hsD hs) :: M) := by
  obtain ⟨I, Mc, w, a, hF⟩ := w.ex
  cases a with
  | cons h a =>
    cases h with
    | ml b =>
      have e := isA_refV b
      subst e
      exact ⟨I, _, w, .cons (.ml (isA_hs fun f hf => hF f (hk f hf))) a, hF⟩
theorem Wf.deepF (w : Wf F H M) (h : (V.ref p, D.lst (hsR hs)) ∈ F) (hk : ∀ f ∈ exS hs, f ∈ F) : Wf ((.ref p, .lst (hsD hs)) :: F) H M := by
  obtain ⟨I, Mc, w, a, hF⟩ := w.ex
  refine ⟨I, Mc, w, a, fun f hf => ?_⟩
  rcases List.mem_cons.mp hf with rfl | hf
  · have := hF _ h
    cases this with
    | lst hp b =>
      have e := isA_refV b
      subst e
      exact .lst hp (isA_hs fun f hf => hF f (hk f hf))
  · exact hF f hf
/-- where the notes of known strips stand -/
theorem isA_find {I : Hp} : ∀ {xs : List Sp3} {vs : List V}, IsA I vs (xs.map spD) → ∃ hs : List HS, hs.map (·.2.2) = xs ∧ vs = hs.map (fun h => V.ref h.1) ∧ ∀ f ∈ exS hs, Is I f.1 f.2
  | [], _, h => by cases h; exact ⟨[], rfl, rfl, fun _ h => (nomatch h)⟩
  | x :: xs, _, h => by
    cases h with
    | cons h1 h2 =>
      obtain ⟨hs, e1, rfl, e3⟩ := isA_find h2
      cases h1 with
      | @tup t vs _ hp a =>
        cases a with | cons a0 a =>
        cases a with | cons a1 a =>
        cases a with | cons a2 a =>
        cases a
        obtain ⟨qa, us, rfl, hq, hu⟩ := a2.lst_ex
        refine ⟨(t, qa, x) :: hs, by rw [List.map_cons, e1], rfl, fun f hf => ?_⟩
        unfold exS at hf
        rw [List.flatMap_cons] at hf
        rcases List.mem_append.mp hf with hf | hf
        · simp only [List.mem_cons, List.not_mem_nil, or_false] at hf
          rcases hf with rfl | rfl
          · exact .tup hp (.cons a0 (.cons a1 (.cons (.ref qa) .nil)))
          · exact .lst hq hu
        · exact e3 f hf
theorem Wf.find (w : Wf F H M) (h : (V.ref p, D.lst (xs.map spD)) ∈ F) : ∃ hs : List HS, hs.map (·.2.2) = xs ∧ Wf ((.ref p, .lst (hsR hs)) :: (exS hs ++ F)) H M := by
  obtain ⟨I, Mc, w, a, hF⟩ := w.ex
  have := hF _ h
  cases this with
  | lst hp b =>
    obtain ⟨hs, e1, rfl, e3⟩ := isA_find b
    refine ⟨hs, e1, I, Mc, w, a, fun f hf => ?_⟩
    rcases List.mem_cons.mp hf with rfl | hf
    · refine .lst hp ?_
      have : ∀ hs : List HS, IsA I (hs.map fun h => V.ref h.1) (hsR hs) := fun hs => by
        induction hs with
        | nil => exact .nil
        | cons h r ih => exact .cons (.ref _) ih
      exact this hs
    · rcases List.mem_append.mp hf with hf | hf
      · exact e3 f hf
      · exact hF f hf
/-- what is known stands somewhere -/
theorem Wf.fresh {ds : List D} (w : Wf F H M) (hp : H p = none) : (V.ref p, D.lst ds) ∉ F := fun h => by
  obtain ⟨I, Mc, w, a, hF⟩ := w.ex
  have := hF _ h
  cases this with
  | lst h1 _ =>
    have := w.imm _ _ h1
    rw [hp] at this
    cases this
/-! known without q -/
def Off (q : Addr) (F : List (V × D)) (f : V × D) : Prop := ∀ (I : Hp) (vs : List V), (∀ f ∈ F, Is I f.1 f.2) → I q = some (.lst vs) → Is (del I q) f.1 f.2
def OffM (q : Addr) (F : List (V × D)) (e : ME) : Prop := ∀ (I : Hp) (vs : List V) (m : Addr × HO), (∀ f ∈ F, Is I f.1 f.2) → I q = some (.lst vs) → Cn I e m → Cn (del I q) e m
def flatD : D → Bool
  | .non => true | .bl _ => true | .int _ => true | .str _ => true | .ref _ => true | .ty _ => true
  | _ => false
theorem Is.flat {I J : Hp} {v : V} {d : D} (h : Is I v d) (e : flatD d = true) : Is J v d := by
  cases h <;> first | exact .non | exact .bl _ | exact .int _ | exact .str _ | exact .ref _ | exact .ty _ | cases e
theorem IsA.flat' {I J : Hp} : ∀ {ds : List D} {vs : List V}, IsA I vs ds → (∀ d ∈ ds, flatD d = true) → IsA J vs ds
  | [], _, h, _ => by cases h; exact .nil
  | d :: ds, _, h, e => by
    cases h with
    | cons h1 h2 => exact .cons (h1.flat (e d List.mem_cons_self)) (IsA.flat' h2 fun d hd => e d (List.mem_cons_of_mem _ hd))
theorem IsF.flat {I J : Hp} : ∀ {ds : List (Str × D)} {vs : List (Str × V)}, IsF I vs ds → (∀ d ∈ ds, flatD d.2 = true) → IsF J vs ds
  | [], _, h, _ => by cases h; exact .nil
  | d :: ds, _, h, e => by
    cases h with
    | cons h1 h2 => exact .cons (h1.flat (e _ List.mem_cons_self)) (IsF.flat h2 fun d hd => e d (List.mem_cons_of_mem _ hd))
theorem del_at {I : Hp} {o : HO} {vs : List V} (h : I p = some o) (hq : I q = some (.lst vs)) (ne : ∀ us, o ≠ .lst us) : del I q p = some o := by
  rw [del_ne]
  · exact h
  · rintro rfl
    rw [h] at hq
    cases hq
    exact ne _ rfl
theorem offT {ds : List D} (hf : (v, D.tup ds) ∈ F) (h : ∀ d ∈ ds, flatD d = true) : Off q F (v, .tup ds) := fun I vs hF hq => by
  have := hF _ hf
  cases this with
  | tup hp a => exact .tup (del_at hp hq fun _ e => nomatch e) (a.flat' h)
theorem offO {C : Addr} {fs : List (Str × D)} (hf : (v, D.obj C fs) ∈ F) (h : ∀ d ∈ fs, flatD d.2 = true) : Off q F (v, .obj C fs) := fun I vs hF hq => by
  have := hF _ hf
  cases this with
  | obj hp a => exact .obj (del_at hp hq fun _ e => nomatch e) (a.flat h)
theorem offL {ds : List D} (hf : (V.ref p, D.lst ds) ∈ F) (ne : p ≠ q) (h : ∀ d ∈ ds, flatD d = true) : Off q F (.ref p, .lst ds) := fun I vs hF hq => by
  have := hF _ hf
  cases this with
  | lst hp a => exact .lst (by rw [del_ne ne]; exact hp) (a.flat' h)
theorem off_hs (hf : (V.ref p, D.lst (hsR hs)) ∈ F) (hk : ∀ f ∈ exS hs, f ∈ F) (ne : p ≠ q) (hn : ∀ h ∈ hs, h.2.1 ≠ q) : Off q F (.ref p, .lst (hsD hs)) := fun I vs hF hq => by
  have h1 := offL (q := q) hf ne (fun d hd => by obtain ⟨h, _, rfl⟩ := List.mem_map.mp hd; rfl) I vs hF hq
  cases h1 with
  | lst hp a =>
    have e := isA_refV a
    subst e
    refine .lst hp (isA_hs fun f hf => ?_)
    obtain ⟨h, hh, rfl | rfl⟩ := exS_inv hf
    · refine offT (hk _ hf) (fun d hd => ?_) I vs hF hq
      simp only [List.mem_cons, List.not_mem_nil, or_false] at hd
      rcases hd with rfl | rfl | rfl
      · rfl
      · cases h.2.2.st <;> rfl
      · rfl
    · exact offL (hk _ hf) (hn h hh) (fun d hd => by obtain ⟨n, _, rfl⟩ := List.mem_map.mp hd; rfl) I vs hF hq
theorem IsA.offP {I : Hp} {vs0 : List V} (hq : I q = some (.lst vs0)) : ∀ {ds : List D} {vs : List V}, IsA I vs ds → (∀ d ∈ ds, flatD d = true ∨ ∃ es, d = .tup es ∧ ∀ e ∈ es, flatD e = true) → IsA (del I q) vs ds
  | [], _, h, _ => by cases h; exact .nil
  | d :: ds, _, h, e => by
    cases h with
    | cons h1 h2 =>
      refine .cons ?_ (IsA.offP hq h2 fun d hd => e d (List.mem_cons_of_mem _ hd))
      rcases e d List.mem_cons_self with e1 | ⟨es, rfl, e1⟩
      · exact h1.flat e1
      · cases h1 with
        | tup hp a => exact .tup (del_at hp hq fun _ e => nomatch e) (a.flat' e1)
theorem offML {ds : List D} (h : ∀ d ∈ ds, flatD d = true ∨ ∃ es, d = .tup es ∧ ∀ e ∈ es, flatD e = true) : OffM q F (.ml p ds) := fun I vs m hF hq c => by
  cases c with
  | ml a => exact .ml (a.offP hq h)
/-- what stood still is changed again -/
theorem Wf.thaw {ds : List D} (w : Wf F H M) (hq : (V.ref q, D.lst ds) ∈ F) (hd : ∀ d ∈ ds, flatD d = true) (hF' : ∀ f ∈ F', Off q F f) (s : List.Sublist M' M) (hM : ∀ e ∈ M', OffM q F e) : Wf F' H (.ml q ds :: M') := by
  obtain ⟨I, Mc, w, a, hF⟩ := (w.sub KS.refl s).ex
  have h0 := hF _ hq
  cases h0 with
  | @lst _ vs _ hp b =>
    have ia : ∀ p o, del I q p = some o → I p = some o := fun p o e => by
      by_cases hpq : p = q
      · subst hpq
        rw [del_same] at e
        cases e
      · rw [del_ne hpq] at e
        exact e
    refine ⟨del I q, (q, .lst vs) :: Mc, ⟨fun p o e => w.imm p o (ia p o e), fun m hm => ?_, ?_⟩, .cons (.ml (b.flat' hd)) ?_, fun f hf => hF' f hf I vs hF hp⟩
    · rcases List.mem_cons.mp hm with rfl | hm
      · exact ⟨w.imm _ _ hp, del_same⟩
      · refine ⟨(w.mu m hm).1, ?_⟩
        cases e : del I q m.1 with
        | none => rfl
        | some o =>
          have := ia _ _ e
          rw [(w.mu m hm).2] at this
          cases this
    · rw [List.map_cons, List.nodup_cons]
      refine ⟨fun hm => ?_, w.nd⟩
      obtain ⟨m, hm, e⟩ := List.mem_map.mp hm
      have := (w.mu m hm).2
      rw [e, hp] at this
      cases this
    · clear s
      induction a with
      | nil => exact .nil
      | cons h a ih => exact .cons (hM _ List.mem_cons_self I vs _ hF hp h) (ih (fun e he => hM e (List.mem_cons_of_mem _ he)) ⟨w.imm, fun x hx => w.mu x (List.mem_cons_of_mem _ hx), (List.nodup_cons.mp w.nd).2⟩)
end
theorem n_listN {K : PySem.W.Frag} {H : Hp} {F : List (V × D)} {M : List ME} {Q : VK} {x : V} {ds : List D} (w : Wf F H M) (h : Rk F M x (.lst ds)) (q : ∀ p H', H p = none → Wf F H' (.ml p ds :: M) → Q (.ref p) H') : rListOf K [x] H Q := by
  obtain ⟨I, Mc, w, a, hF⟩ := w.ex
  obtain ⟨p, vs, rfl, hp, b⟩ := h.lst w a hF
  exact ⟨p, vs, rfl, .inl (.inl (.inl hp)), fun l hl => q l _ hl ⟨I, _, w.newM hl, .cons (.ml b) a, hF⟩⟩
theorem Wf.apart {F : List (V × D)} {H : Hp} {M : List ME} {p q : Addr} {ds es : List D} (w : Wf F H M) (hp : .ml p ds ∈ M) (hq : (V.ref q, D.lst es) ∈ F) : q ≠ p := by
  rintro rfl
  obtain ⟨I, Mc, w, a, hF⟩ := w.ex
  obtain ⟨m, h1, h2⟩ := a.mem hp
  cases h2 with
  | ml _ =>
    have h3 := (w.mu _ h1).2
    have h4 := hF _ hq
    cases h4 with
    | lst h5 _ =>
      have h3 : I q = none := h3
      rw [h3] at h5
      cases h5
theorem off_exS {q : Addr} {F : List (V × D)} {hs : List HS} (hk : ∀ f ∈ exS hs, f ∈ F) (hn : ∀ h ∈ hs, h.2.1 ≠ q) : ∀ f ∈ exS hs, Off q F f := fun f hf => by
  obtain ⟨h, hh, rfl | rfl⟩ := exS_inv hf
  · refine offT (hk _ hf) fun d hd => ?_
    simp only [List.mem_cons, List.not_mem_nil, or_false] at hd
    rcases hd with rfl | rfl | rfl
    · rfl
    · cases h.2.2.st <;> rfl
    · rfl
  · exact offL (hk _ hf) (hn h hh) fun d hd => by obtain ⟨n, _, rfl⟩ := List.mem_map.mp hd; rfl
theorem hsR_flat {hs : List HS} : ∀ d ∈ hsR hs, flatD d = true := fun d hd => by obtain ⟨h, _, rfl⟩ := List.mem_map.mp hd; rfl

abbrev s__law_copied : Stmt := top 44
theorem sc__law_copied : FnScope ["_law_strips_here", "_law_high_here", "_law_stick", "_law_notes"] ["_law_strips_here"] (defScope s__law_copied) := ⟨rfl, rfl, rfl, by decide +kernel, rfl, by decide +kernel, by decide +kernel⟩
def sp__law_copied : Sp := fun vs H Q _ => ∃ F M v, ∃ (xs : List Sp3), vs = [v] ∧ Wf F H M ∧ Rk F M v (.lst (xs.map spD)) ∧ xs.length ≤ 1000 ∧ ∀ p H' (hs : List HS), hs.map (·.2.2) = xs → (∀ h ∈ hs, ∀ ds, (V.ref h.2.1, D.lst ds) ∉ F) → Wf (exS hs ++ F) H' (.ml p (hsR hs) :: M) → Q (.ref p) H'
theorem n_lcopied {F : List (V × D)} {H : Hp} {M : List ME} {v : V} {xs : List Sp3} {Q : VK} {E : XK} (w : Wf F H M) (hv : Rk F M v (.lst (xs.map spD))) (hl : xs.length ≤ 1000) (q : ∀ p H', Wf F H' (.ml p (xs.map spD) :: M) → Q (.ref p) H') : sp__law_copied ([v] ++ []) H Q E :=
  ⟨F, M, v, xs, rfl, w, hv, hl, fun p H' hs e _ w' => q p H' (by
    have w2 := w'.deepM fun f hf => List.mem_append_left _ hf
    have e2 : hsD hs = xs.map spD := by rw [← e, List.map_map]; rfl
    rw [e2] at w2
    exact w2.sub (fun f hf => .mem (List.mem_append_right _ hf)) (.refl _))⟩
theorem n_lcopiedX {F : List (V × D)} {H : Hp} {M : List ME} {v : V} {xs : List Sp3} {Q : VK} {E : XK} (w : Wf F H M) (hv : Rk F M v (.lst (xs.map spD))) (hl : xs.length ≤ 1000) (q : ∀ p H' (hs : List HS), hs.map (·.2.2) = xs → (∀ h ∈ hs, ∀ ds, (V.ref h.2.1, D.lst ds) ∉ F) → Wf (exS hs ++ F) H' (.ml p (hsR hs) :: M) → Q (.ref p) H') : sp__law_copied ([v] ++ []) H Q E := ⟨F, M, v, xs, rfl, w, hv, hl, q⟩

theorem ok__law_copied {f : Addr} {fd : FuncData} (F : Fun K "_law_copied" "_law_copied" s__law_copied f fd) (B : Bn mg)  : FnOk P w K mg base CX0 1 f fd ["_law_strips_here"] sp__law_copied := by
  refine F.ok sc__law_copied (fun vs H Q E h => ?_) (fun cdv A outer s H vs Q E hr h => ?_)
  · obtain ⟨F, M, v, xs, rfl, w, hv, hl, k⟩ := h
    all_goals rfl
  · obtain ⟨F, M, v, xs, rfl, w, hv, hl, k⟩ := h
    refine ⟨_, (pss_one (ps_ret (pe_lc (own := [("_law_high_here", 1), ("_law_stick", 2), ("_law_notes", 3)]) (by rfl) sc__law_copied.nd (kpi_list (K := K) rfl (pv 0)) (blkOk_by (own := [("_law_high_here", 1), ("_law_stick", 2), ("_law_notes", 3)]) (N := ["_law_strips_here", "_law_high_here", "_law_stick", "_law_notes"]) (sc := defScope s__law_copied) (by decide +kernel)) (fun _ _ _ _ _ => (kpg_tup (K := K) (n := 3) rfl rfl (pgs_cons (pg_name (i := 1) sc__law_copied.nd rfl (Or.inl rfl)) (pgs_cons (pg_name (i := 2) sc__law_copied.nd rfl (Or.inl rfl)) (pgs_cons (pg_name (i := 3) sc__law_copied.nd rfl (Or.inl rfl)) pgs_nil))))) (fun _ _ _ _ _ => pts_nil) (fun _ _ _ _ _ => (pe_tup (pa_cons (pv 1) (pa_cons (pv 2) (pa_cons (pe_callTy (k_list (K := K) rfl) (by rfl) B.list_ (by decide +kernel) (pa_cons (pv 3) pa_nil)) pa_nil)))))))), ?_⟩
    try dsimp only [cxOf, Cx.nox, Cx.wish, Cx.blk]
    wtm_at "n"
    have rk : ∀ (L : List (V × D)), Rk (L ++ F) M v (.lst (xs.map spD)) := fun L => by
      induction L with
      | nil => exact hv
      | cons f L ih => exact ih.moreF
    refine n_lcKL w (fun i acc F' M' => M' = M ∧ ∃ hs : List HS, hs.map (·.2.2) = xs.take i ∧ (∀ h ∈ hs, ∀ ds, (V.ref h.2.1, D.lst ds) ∉ F) ∧ acc = hsR hs ∧ F' = exS hs.reverse ++ F) (fun i acc F' M' ⟨e, hs, _, _, _, e2⟩ => by subst e; subst e2; exact rk _) ⟨rfl, [], rfl, fun _ h => (nomatch h), rfl, rfl⟩ (by rw [List.length_map]; omega) ?_ ?_
    · rintro i d y Dp acc H0 F' M' Ap Sk hd ⟨rfl, hs, e1, hfr, rfl, rfl⟩ w kA kS
      obtain ⟨x, hx, rfl⟩ := map_get hd
      refine n_gtup3 w (by wtm_at "rk") fun a b c w => ?_
      obtain ⟨rfl, w1⟩ := w.eq0
      wtm_at "n"
      refine ⟨rfl, ?_⟩
      repeat (first | wtm_at "f1" | wtm_at "e1" | wtm_at "s1" | wtm_at "b1")
      refine n_listN w (.mem (List.mem_cons_of_mem _ (List.mem_cons_of_mem _ List.mem_cons_self))) fun pl H3 hpl w3 => ?_
      have hn : ∀ ds, (V.ref pl, D.lst ds) ∉ F := fun ds hm => w.fresh (ds := ds) hpl (by simp [hm])
      have w := w3.frzL .here
      repeat (first | wtm_at "f1" | wtm_at "e1" | wtm_at "s1" | wtm_at "b1")
      refine n_newT (ds := [.int x.h, oD x.st, .ref pl]) w (.cons (.int _) (.cons (by wtm_at "kn") (.cons (.ref _) .nil))) (by simp) fun t H4 w => ?_
      refine kA _ (.ref t) _ (exS (hs ++ [(t, pl, x)]).reverse ++ F) M' (w.sub ?_ (.refl _)) ⟨rfl, hs ++ [(t, pl, x)], by rw [List.map_append, e1, take_snoc hx]; rfl, fun h hh ds => ?_, by simp [hsR], rfl⟩
      · rw [List.reverse_append]
        refine KS.cons (.ref t) (KS.cons (.mem List.mem_cons_self) (KS.cons (.mem (by simp)) fun f hf => .mem ?_))
        simp only [List.mem_cons]
        exact .inr (.inr (.inr (.inr (.inr (.inr hf)))))
      · rcases List.mem_append.mp hh with hh | hh
        · exact hfr h hh ds
        · rw [List.mem_singleton.mp hh]
          exact hn ds
    rintro p es H' F' M' ⟨rfl, hs, e1, hfr, rfl, rfl⟩ w
    rw [List.length_map, List.take_length] at e1
    refine k p _ hs e1 hfr (w.sub (fun f hf => .mem ?_) (.refl _))
    rcases List.mem_append.mp hf with hf | hf
    · obtain ⟨h, h1, h2⟩ := exS_inv hf
      refine List.mem_append_left _ ?_
      have h3 := exS_mem (List.mem_reverse.mpr h1)
      rcases h2 with rfl | rfl
      · exact h3.1
      · exact h3.2
    · exact List.mem_append_right _ hf
abbrev s__law_foot : Stmt := top 45
theorem sc__law_foot : FnScope ["_law_strips_here", "_law_rule", "_law_many", "_law_strip_here"] ["_law_strips_here", "_law_rule"] (defScope s__law_foot) := ⟨rfl, rfl, rfl, by decide +kernel, rfl, by decide +kernel, by decide +kernel⟩
def sp__law_foot : Sp := fun vs H Q _ => ∃ F M v, ∃ (xs : List Sp3) (rule : Int), vs = [v, .int rule] ∧ Wf F H M ∧ Rk F M v (.lst (xs.map spD)) ∧ xs.length ≤ 1000 ∧ ∀ H', Wf F H' M → Q (.int (footI xs rule)) H'
theorem n_lfoot {F : List (V × D)} {H : Hp} {M : List ME} {v : V} {xs : List Sp3} {rule : Int} {Q : VK} {E : XK} (w : Wf F H M) (hv : Rk F M v (.lst (xs.map spD))) (hl : xs.length ≤ 1000) (q : ∀ H', Wf F H' M → Q (.int (footI xs rule)) H') : sp__law_foot ([v, .int rule] ++ []) H Q E := ⟨F, M, v, xs, rule, rfl, w, hv, hl, q⟩

theorem ok__law_foot {f : Addr} {fd : FuncData} (F : Fun K "_law_foot" "_law_foot" s__law_foot f fd) (B : Bn mg)  : FnOk P w K mg base CX0 1 f fd ["_law_strips_here", "_law_rule"] sp__law_foot := by
  refine F.ok sc__law_foot (fun vs H Q E h => ?_) (fun cdv A outer s H vs Q E hr h => ?_)
  · obtain ⟨F, M, v, xs, rule, rfl, w, hv, hl, k⟩ := h
    all_goals rfl
  · obtain ⟨F, M, v, xs, rule, rfl, w, hv, hl, k⟩ := h
    refine ⟨_, (pss_cons (ps_set (i := 2) sc__law_foot.nd rfl (Or.inl rfl) (pe_callB (k_sum (K := K) rfl rfl) (by rfl) B.sum_ (by decide +kernel) (pa_cons (pe_lc (own := [("_law_strip_here", 3)]) (by rfl) sc__law_foot.nd (kpi_list (K := K) rfl (pv 0)) (blkOk_by (own := [("_law_strip_here", 3)]) (N := ["_law_strips_here", "_law_rule", "_law_many", "_law_strip_here"]) (sc := defScope s__law_foot) (by decide +kernel)) (fun _ _ _ _ _ => (pg_name (i := 3) sc__law_foot.nd rfl (Or.inl rfl))) (fun _ _ _ _ _ => pts_nil) (fun _ _ _ _ _ => (pe_callB (k_len (K := K) rfl) (by rfl) B.len_ (by decide +kernel) (pa_cons (pe_ix (k_ix (K := K) rfl) (pv 3) pe_int (fun _ _ => rfl)) pa_nil)))) pa_nil)))
      (pss_cons (ps_if (pt_cmpR (k_eq (K := K) rfl hr.units) (pv 2) pe_int (nomark _)) (pss_one (ps_ret pe_int)) pss_nil)
      (pss_one (ps_ret (pe_op (k_add (K := K) rfl) (pv 1) (pe_callB (k_sum (K := K) rfl rfl) (by rfl) B.sum_ (by decide +kernel) (pa_cons (pe_lc (own := [("_law_strip_here", 3)]) (by rfl) sc__law_foot.nd (kpi_list (K := K) rfl (pv 0)) (blkOk_by (own := [("_law_strip_here", 3)]) (N := ["_law_strips_here", "_law_rule", "_law_many", "_law_strip_here"]) (sc := defScope s__law_foot) (by decide +kernel)) (fun _ _ _ _ _ => (pg_name (i := 3) sc__law_foot.nd rfl (Or.inl rfl))) (fun _ _ _ _ _ => pts_nil) (fun _ _ _ _ _ => (pe_callB (k_sum (K := K) rfl rfl) (by rfl) B.sum_ (by decide +kernel) (pa_cons (pe_ix (k_ix (K := K) rfl) (pv 3) pe_int (fun _ _ => rfl)) pa_nil)))) pa_nil))))))), ?_⟩
    try dsimp only [cxOf, Cx.nox, Cx.wish, Cx.blk]
    wtm_at "n"
    refine n_lcMapI (f := fun x : Sp3 => (x.ns.length : Int)) w hv (by omega) (fun v => rfl) ?_ ?_
    · intro x y D acc H0 C _ w kc
      wtm_at "n"
      rw [List.length_map]
      exact kc _ (by wtm_at "wf")
    intro p H1 w
    wtm_at "n"
    refine n_sum w (by wtm_at "rk") ?_
    wtm_at "n"
    wtm_at "fork"
    · rename_i e
      wtm_at "n"
      rw [show footI xs rule = 0 from if_pos e] at k
      exact k _ (by wtm_at "wf")
    rename_i e
    rw [show footI xs rule = rule + (xs.map fun x => x.ns.sum).sum from if_neg e] at k
    wtm_at "n"
    refine n_lcMapI (f := fun x : Sp3 => x.ns.sum) w (by wtm_at "rk") (by omega) (fun v => rfl) ?_ ?_
    · intro x y D acc H0 C _ w kc
      wtm_at "n"
      refine n_sum (by assumption) (by wtm_at "rk") ?_
      exact kc _ (by wtm_at "wf")
    intro p2 H2 w
    wtm_at "n"
    refine n_sum w (by wtm_at "rk") ?_
    wtm_at "n"
    exact k _ (by wtm_at "wf")
abbrev s__law_solid : Stmt := top 46
theorem sc__law_solid : FnScope ["_law_strips_here", "_law_rule", "_law_strip_here"] ["_law_strips_here", "_law_rule"] (defScope s__law_solid) := ⟨rfl, rfl, rfl, by decide +kernel, rfl, by decide +kernel, by decide +kernel⟩
def solI (xs : List Sp3) (rule : Int) : Int := (xs.map fun x => x.h).sum + footI xs rule
theorem sol_bd {xs : List Sp3} {rule : Int} (h : ∀ x ∈ xs, SpOk x) (hl : xs.length ≤ 120) (r0 : 0 ≤ rule) (r1 : rule ≤ 1000000) : 0 ≤ solI xs rule ∧ solI xs rule ≤ 200000000000000 := by
  have h1 := sum_bd (l := xs.map fun x => x.h) (m := 1000000000000) fun y hy => by
    obtain ⟨x, hx, rfl⟩ := List.mem_map.mp hy
    exact ⟨(h x hx).h0, (h x hx).h1⟩
  rw [List.length_map] at h1
  have h2 := foot_bd h hl r0 r1
  unfold solI
  omega
def sp__law_solid : Sp := fun vs H Q _ => ∃ F M v, ∃ (xs : List Sp3) (rule : Int), vs = [v, .int rule] ∧ Wf F H M ∧ Rk F M v (.lst (xs.map spD)) ∧ xs.length ≤ 1000 ∧ ∀ H', Wf F H' M → Q (.int (solI xs rule)) H'
theorem n_lsolid {F : List (V × D)} {H : Hp} {M : List ME} {v : V} {xs : List Sp3} {rule : Int} {Q : VK} {E : XK} (w : Wf F H M) (hv : Rk F M v (.lst (xs.map spD))) (hl : xs.length ≤ 1000) (q : ∀ H', Wf F H' M → Q (.int (solI xs rule)) H') : sp__law_solid ([v, .int rule] ++ []) H Q E := ⟨F, M, v, xs, rule, rfl, w, hv, hl, q⟩

theorem ok__law_solid {f : Addr} {fd : FuncData} (F : Fun K "_law_solid" "_law_solid" s__law_solid f fd) (B : Bn mg) (c__law_foot : Cal P w K mg base "_law_foot" 1 ["_law_strips_here", "_law_rule"] [] sp__law_foot)  : FnOk P w K mg base CX0 2 f fd ["_law_strips_here", "_law_rule"] sp__law_solid := by
  refine F.ok sc__law_solid (fun vs H Q E h => ?_) (fun cdv A outer s H vs Q E hr h => ?_)
  · obtain ⟨F, M, v, xs, rule, rfl, w, hv, hl, k⟩ := h
    all_goals rfl
  · obtain ⟨F, M, v, xs, rule, rfl, w, hv, hl, k⟩ := h
    refine ⟨_, (pss_one (ps_ret (pe_op (k_add (K := K) rfl) (pe_callB (k_sum (K := K) rfl rfl) (by rfl) B.sum_ (by decide +kernel) (pa_cons (pe_lc (own := [("_law_strip_here", 2)]) (by rfl) sc__law_solid.nd (kpi_list (K := K) rfl (pv 0)) (blkOk_by (own := [("_law_strip_here", 2)]) (N := ["_law_strips_here", "_law_rule", "_law_strip_here"]) (sc := defScope s__law_solid) (by decide +kernel)) (fun _ _ _ _ _ => (pg_name (i := 2) sc__law_solid.nd rfl (Or.inl rfl))) (fun _ _ _ _ _ => pts_nil) (fun _ _ _ _ _ => (pe_ix (k_ix (K := K) rfl) (pv 2) pe_int (fun _ _ => rfl)))) pa_nil)) (pe_cal c__law_foot (hr.mono (by decide)) (by rfl) (pa_cons (pv 0) (pa_cons (pv 1) pa_nil)))))), ?_⟩
    try dsimp only [cxOf, Cx.nox, Cx.wish, Cx.blk]
    wtm_at "n"
    refine n_lcMapI (f := fun x : Sp3 => x.h) w hv (by omega) (fun v => rfl) ?_ ?_
    · intro x y D acc H0 C _ w kc
      wtm_at "n"
      exact kc _ (by wtm_at "wf")
    intro p H1 w
    wtm_at "n"
    refine n_sum w (by wtm_at "rk") ?_
    wtm_at "n"
    refine n_lfoot w (by wtm_at "rk") hl fun H2 w => ?_
    wtm_at "n"
    exact k _ (by wtm_at "wf")
abbrev s__law_unit : Stmt := top 49
theorem sc__law_unit : FnScope ["_law_bag_here"] ["_law_bag_here"] (defScope s__law_unit) := ⟨rfl, rfl, rfl, by decide +kernel, rfl, by decide +kernel, by decide +kernel⟩
def sp__law_unit : Sp := fun vs H Q _ => ∃ F M b, vs = [.ref b] ∧ Wf F H M ∧ .bag b ∈ M ∧ ∀ v H', 12 ≤ v → v ≤ 1000000000000 → Wf F H' M → Q (.int v) H'
theorem n_lunit {F : List (V × D)} {H : Hp} {M : List ME} {b : Addr} {Q : VK} {E : XK} (w : Wf F H M) (hb : .bag b ∈ M) (q : ∀ v H', 12 ≤ v → v ≤ 1000000000000 → Wf F H' M → Q (.int v) H') : sp__law_unit ([.ref b] ++ []) H Q E := ⟨F, M, b, rfl, w, hb, q⟩

theorem ok__law_unit {f : Addr} {fd : FuncData} (F : Fun K "_law_unit" "_law_unit" s__law_unit f fd) (B : Bn mg) (c__law_take : Cal P w K mg base "_law_take" 1 ["_law_bag_here", "_law_many"] [] sp__law_take)  : FnOk P w K mg base CX0 2 f fd ["_law_bag_here"] sp__law_unit := by
  refine F.ok sc__law_unit (fun vs H Q E h => ?_) (fun cdv A outer s H vs Q E hr h => ?_)
  · obtain ⟨F, M, b, rfl, w, hb, k⟩ := h
    all_goals rfl
  · obtain ⟨F, M, b, rfl, w, hb, k⟩ := h
    refine ⟨_, (pss_one (ps_ret (pe_ix (k_ix (K := K) rfl) (pe_lst (pa_cons pe_int (pa_cons pe_int (pa_cons pe_int (pa_cons pe_int pa_nil))))) (pe_cal c__law_take (hr.mono (by decide)) (by rfl) (pa_cons (pv 0) (pa_cons pe_int pa_nil))) (fun _ _ => rfl)))), ?_⟩
    try dsimp only [cxOf, Cx.nox, Cx.wish, Cx.blk]
    wtm_at "n"
    refine n_take (by assumption) (by wtm_at "mem") (by omega) (by omega) fun x H1 x0 x1 w => ?_
    refine n_ixInts (ns := [12, 1000, 1000000, 1000000000000]) w (show Rk _ _ _ (.lst [.int 12, .int 1000, .int 1000000, .int 1000000000000]) by wtm_at "rk") x0 (by simp; omega) fun un hun => ?_
    have hu : 12 ≤ un ∧ un ≤ 1000000000000 := by
      have := List.mem_of_getElem? hun
      simp only [List.mem_cons, List.not_mem_nil, or_false] at this
      omega
    exact k _ _ hu.1 hu.2 (by wtm_at "wf")
abbrev s__law_feather : Stmt := top 50
theorem sc__law_feather : FnScope ["_law_told"] ["_law_told"] (defScope s__law_feather) := ⟨rfl, rfl, rfl, by decide +kernel, rfl, by decide +kernel, by decide +kernel⟩
def sp__law_feather (C : Addr) : Sp := fun vs H Q _ => ∃ F M u b l g w s, vs = [u] ∧ Wf F H M ∧ Rk F M u (rowD b l g w s) ∧ PartOk b l g w s ∧ ∀ r H', Wf ((r, prt C b l g w s) :: F) H' M → Q r H'
theorem n_lfeather {C : Addr} {F : List (V × D)} {H : Hp} {M : List ME} {u : V} {b l w s : Int} {g : D} {Q : VK} {E : XK} (ww : Wf F H M) (hu : Rk F M u (rowD b l g w s)) (ok : PartOk b l g w s) (q : ∀ r H', Wf ((r, prt C b l g w s) :: F) H' M → Q r H') : sp__law_feather C ([u] ++ []) H Q E := ⟨F, M, u, b, l, g, w, s, rfl, ww, hu, ok, q⟩

theorem ok__law_feather {f : Addr} {fd : FuncData} (F : Fun K "_law_feather" "_law_feather" s__law_feather f fd) (B : Bn mg) (m_Part : Mak P w K mg base "Part" C_Part 3 ["self", "base", "least", "greatest", "grow", "shrink"] [] (sp_Part___init__ C_Part))  : FnOk P w K mg base CX0 5 f fd ["_law_told"] (sp__law_feather C_Part) := by
  refine F.ok sc__law_feather (fun vs H Q E h => ?_) (fun cdv A outer s H vs Q E hr h => ?_)
  · obtain ⟨F, M, u, b, l, g, w, s, rfl, ww, hu, ok, k⟩ := h
    all_goals rfl
  · obtain ⟨F, M, u, b, l, g, w, s, rfl, ww, hu, ok, k⟩ := h
    refine ⟨_, (pss_one (ps_ret (pe_mk m_Part (hr.mono (by decide)) rfl (pa_cons (pe_ix (k_ix (K := K) rfl) (pv 0) pe_int (fun _ _ => rfl)) (pa_cons (pe_ix (k_ix (K := K) rfl) (pv 0) pe_int (fun _ _ => rfl)) (pa_cons (pe_ix (k_ix (K := K) rfl) (pv 0) pe_int (fun _ _ => rfl)) (pa_cons (pe_ix (k_ix (K := K) rfl) (pv 0) pe_int (fun _ _ => rfl)) (pa_cons (pe_ix (k_ix (K := K) rfl) (pv 0) pe_int (fun _ _ => rfl)) pa_nil)))))))), ?_⟩
    try dsimp only [cxOf, Cx.nox, Cx.wish, Cx.blk]
    wtm_at "n"
    refine n_mkPart (by assumption) (.mem List.mem_cons_self) ok fun r H1 ww => ?_
    exact k r _ (by wtm_at "wf")
abbrev s__law_used : Stmt := top 54
theorem sc__law_used : FnScope ["_law_strips_here", "_law_feather_here", "_law_rule"] ["_law_strips_here", "_law_feather_here", "_law_rule"] (defScope s__law_used) := ⟨rfl, rfl, rfl, by decide +kernel, rfl, by decide +kernel, by decide +kernel⟩
def sp__law_used : Sp := fun vs H Q _ => ∃ F M v u, ∃ (b l w s rule : Int) (g : D) (xs : List Sp3), vs = [v, u, .int rule] ∧ Wf F H M ∧ Rk F M v (.lst (xs.map spD)) ∧ Rk F M u (rowD b l g w s) ∧ xs.length ≤ 1000 ∧ 0 ≤ b ∧ b ≤ 1000000000000 ∧ ∀ H', Wf F H' M → Q (.int (useI b rule xs)) H'
theorem n_lused {F : List (V × D)} {H : Hp} {M : List ME} {v u : V} {b l w s rule : Int} {g : D} {xs : List Sp3} {Q : VK} {E : XK} (ww : Wf F H M) (hv : Rk F M v (.lst (xs.map spD))) (hu : Rk F M u (rowD b l g w s)) (hl : xs.length ≤ 1000) (b0 : 0 ≤ b) (b1 : b ≤ 1000000000000) (q : ∀ H', Wf F H' M → Q (.int (useI b rule xs)) H') : sp__law_used ([v, u, .int rule] ++ []) H Q E := ⟨F, M, v, u, b, l, w, s, rule, g, xs, rfl, ww, hv, hu, hl, b0, b1, q⟩

theorem ok__law_used {f : Addr} {fd : FuncData} (F : Fun K "_law_used" "_law_used" s__law_used f fd) (B : Bn mg) (c__law_solid : Cal P w K mg base "_law_solid" 2 ["_law_strips_here", "_law_rule"] [] sp__law_solid)  : FnOk P w K mg base CX0 3 f fd ["_law_strips_here", "_law_feather_here", "_law_rule"] sp__law_used := by
  refine F.ok sc__law_used (fun vs H Q E h => ?_) (fun cdv A outer s H vs Q E hr h => ?_)
  · obtain ⟨F, M, v, u, b, l, w, s, rule, g, xs, rfl, ww, hv, hu, hl, b0, b1, k⟩ := h
    all_goals rfl
  · obtain ⟨F, M, v, u, b, l, w, s, rule, g, xs, rfl, ww, hv, hu, hl, b0, b1, k⟩ := h
    refine ⟨_, (pss_one (ps_ret (pe_op (k_add (K := K) rfl) (pe_cal c__law_solid (hr.mono (by decide)) (by rfl) (pa_cons (pv 0) (pa_cons (pv 2) pa_nil))) (pe_op uo_mul (pe_callB (k_max (K := K) rfl rfl) (by rfl) B.max_ (by decide +kernel) (pa_cons (pe_op op_sub (pe_callB (k_len (K := K) rfl) (by rfl) B.len_ (by decide +kernel) (pa_cons (pv 0) pa_nil)) pe_int) (pa_cons pe_int pa_nil))) (pe_ix (k_ix (K := K) rfl) (pv 1) pe_int (fun _ _ => rfl)))))), ?_⟩
    try dsimp only [cxOf, Cx.nox, Cx.wish, Cx.blk]
    wtm_at "n"
    refine n_lsolid ww hv hl fun H1 ww => ?_
    wtm_at "n"
    rw [List.length_map]
    have e : (if (0 : Int) > (xs.length : Int) - 1 then (0 : Int) else (xs.length : Int) - 1) = ((xs.length - 1 : Nat) : Int) := by split <;> omega
    rw [e]
    wtm_at "no"
    rw [show solI xs rule + ((xs.length - 1 : Nat) : Int) * b = useI b rule xs by unfold solI useI; omega]
    exact k _ ww
/-! ### ways to break strips into columns -/
abbrev prD (p : Nat × Nat) : D := .tup [.int (p.1 : Nat), .int (p.2 : Nat)]
theorem colW_eq : ∀ (l : List Nat) (b : Nat), colW b l = (colP b l).map prD
  | [], _ => rfl
  | e :: r, b => by
    rw [colW, colP, List.map_append, colW_eq r e]
    split <;> rfl
def brkL (xs : List Sp3) : List Nat := (List.range' 1 xs.length).filter (brk xs)
theorem mem_brkL {xs : List Sp3} {e : Nat} : e ∈ brkL xs ↔ 1 ≤ e ∧ e ≤ xs.length ∧ brk xs e = true := by
  unfold brkL
  rw [List.mem_filter, List.mem_range'_1]
  constructor <;> intro h <;> refine ⟨?_, ?_⟩ <;> first | omega | exact h.2 | exact ⟨h.1, h.2.1⟩ | exact h.2.2 | (constructor <;> first | omega | exact h.2)
theorem cut_sl3 {xs : List Sp3} {lo hi : Nat} : cutD (xs.map spD) (some (lo : Int)) (some (hi : Int)) = (sl3 xs lo hi).map spD := by
  unfold cutD sl3
  rw [HT.sIx_nat, HT.sIx_nat, List.length_map, List.map_drop, List.map_take, List.drop_take]
  by_cases h : lo ≤ xs.length
  · rw [Nat.min_eq_left h]
    by_cases h2 : hi ≤ xs.length
    · rw [Nat.min_eq_left h2]
    · rw [Nat.min_eq_right (by omega), List.take_of_length_le (by simp), List.take_of_length_le (by simp; omega)]
  · rw [Nat.min_eq_right (show xs.length ≤ lo by omega), List.drop_eq_nil_of_le (by simp), List.drop_eq_nil_of_le (by simp; omega)]
    simp
/-- from one strip on to the last, at breaks -/
def wayF (xs : List Sp3) : Nat → List (Nat × Nat) → Prop
  | a, [] => a = xs.length
  | a, p :: r => p.1 = a ∧ p.1 < p.2 ∧ p.2 ≤ xs.length ∧ brk xs p.2 = true ∧ wayF xs p.2 r
theorem wayF_mem {xs : List Sp3} : ∀ {r : List (Nat × Nat)} {a : Nat}, wayF xs a r → ∀ p ∈ r, p.1 < p.2 ∧ p.2 ≤ xs.length
  | [], _, _, p, hp => nomatch hp
  | q :: r, a, ⟨_, h1, h2, _, h3⟩, p, hp => by
    rcases List.mem_cons.mp hp with rfl | hp
    · exact ⟨h1, h2⟩
    · exact wayF_mem h3 p hp
def endsF (f : Nat → Nat) : Nat → Nat → List Nat
  | 0, _ => []
  | m + 1, b => f b :: endsF f m (f b)
theorem endsF_eq (f : Nat → Nat) : ∀ (m k : Nat), (List.range m).map (fun i => itr f (k + i + 1)) = endsF f m (itr f k)
  | 0, _ => rfl
  | m + 1, k => by
    rw [List.range_succ_eq_map, List.map_cons, List.map_map, endsF]
    have := endsF_eq f m (k + 1)
    rw [show itr f (k + 1) = f (itr f k) from rfl] at this
    rw [← this]
    congr 1
    apply List.map_congr_left
    intro i _
    show itr f (k + (i + 1) + 1) = itr f (k + 1 + i + 1)
    congr 1
    omega
theorem endsN_F (f : Nat → Nat) (m : Nat) : endsN f m = endsF f m 0 := by
  have := endsF_eq f m 0
  rw [← show itr f 0 = 0 from rfl, ← this]
  unfold endsN
  apply List.map_congr_left
  intro i _
  congr 1
  omega
section
variable {b rule high : Int} {xs : List Sp3}
theorem colP_way : ∀ (m a : Nat), a ≤ xs.length → (endsF (farI b rule high xs) m a).getLastD a = xs.length → wayF xs a (colP a (endsF (farI b rule high xs) m a)) ∧ (∀ p ∈ colP a (endsF (farI b rule high xs) m a), useI b rule (sl3 xs p.1 p.2) ≤ high) ∧ (colP a (endsF (farI b rule high xs) m a)).length ≤ m
  | 0, a, _, h => ⟨h, fun _ h => (nomatch h), Nat.le_refl _⟩
  | m + 1, a, ha, h => by
    rw [endsF, List.getLastD_cons] at h
    have h1 := farI_ge (b := b) (rule := rule) (high := high) ha
    obtain ⟨i1, i2, i3⟩ := colP_way m (farI b rule high xs a) h1.2 h
    rw [endsF, colP]
    by_cases hlt : a < farI b rule high xs a
    · obtain ⟨j1, j2⟩ := farI_in hlt
      rw [if_pos hlt]
      refine ⟨⟨rfl, hlt, h1.2, j1, i1⟩, fun p hp => ?_, by simp; omega⟩
      rcases List.mem_cons.mp hp with rfl | hp
      · exact j2
      · exact i2 p hp
    · rw [if_neg hlt, List.nil_append]
      have e : farI b rule high xs a = a := by omega
      rw [e] at i1 i2 i3 ⊢
      exact ⟨i1, i2, by omega⟩
theorem last_endsF : ∀ (m k : Nat), (endsF (farI b rule high xs) m (itr (farI b rule high xs) k)).getLastD (itr (farI b rule high xs) k) = itr (farI b rule high xs) (k + m)
  | 0, k => rfl
  | m + 1, k => by
    rw [endsF, List.getLastD_cons]
    have := last_endsF m (k + 1)
    rw [show itr (farI b rule high xs) (k + 1) = farI b rule high xs (itr (farI b rule high xs) k) from rfl] at this
    rw [this]
    congr 1
    omega
/-- the told columns -/
theorem told_way {m : Nat} (h : goes b rule high xs m) : wayF xs 0 (colP 0 (endsN (farI b rule high xs) m)) ∧ (∀ p ∈ colP 0 (endsN (farI b rule high xs) m), useI b rule (sl3 xs p.1 p.2) ≤ high) ∧ (colP 0 (endsN (farI b rule high xs) m)).length ≤ m := by
  rw [endsN_F]
  have := last_endsF (b := b) (rule := rule) (high := high) (xs := xs) m 0
  rw [Nat.zero_add] at this
  exact colP_way m 0 (Nat.zero_le _) (this.trans h)
theorem greedyF (hx : ∀ x ∈ xs, SpOk x) (b0 : 0 ≤ b) (r0 : 0 ≤ rule) : ∀ {r : List (Nat × Nat)} {a k : Nat}, wayF xs a r → (∀ p ∈ r, useI b rule (sl3 xs p.1 p.2) ≤ high) → a ≤ itr (farI b rule high xs) k → xs.length ≤ itr (farI b rule high xs) (k + r.length)
  | [], a, k, h, _, h2 => by
    have h : a = xs.length := h
    rw [← h]
    exact h2
  | p :: r, a, k, ⟨g1, g2, g3, g4, g5⟩, hu, h2 => by
    have h3 := hu p List.mem_cons_self
    have h4 := itr_mono (b := b) (rule := rule) (high := high) (xs := xs) k
    have h5 : p.2 ≤ itr (farI b rule high xs) (k + 1) := by
      by_cases h6 : p.2 ≤ itr (farI b rule high xs) k
      · omega
      · refine farI_reach hx b0 r0 (by omega) g3 g4 ?_
        have := use_sub (b := b) (rule := rule) (sl3_sub (xs := xs) (b := itr (farI b rule high xs) k) (b' := p.1) (by omega) (Nat.le_refl p.2)) (fun x hx' => hx x (sl3_mem hx')) b0 r0
        omega
    have := greedyF hx b0 r0 g5 (fun p hp => hu p (List.mem_cons_of_mem _ hp)) h5
    rw [List.length_cons]
    rw [show k + (r.length + 1) = k + 1 + r.length by omega]
    exact this
theorem way_goes {m : Nat} {r : List (Nat × Nat)} (hx : ∀ x ∈ xs, SpOk x) (b0 : 0 ≤ b) (r0 : 0 ≤ rule) (h : wayF xs 0 r) (hm : r.length ≤ m) (hu : ∀ p ∈ r, useI b rule (sl3 xs p.1 p.2) ≤ high) : goes b rule high xs m := by
  have h1 := greedyF hx b0 r0 (k := 0) h hu (Nat.zero_le _)
  rw [Nat.zero_add] at h1
  have h2 := itr_mono' (b := b) (rule := rule) (high := high) (xs := xs) hm
  have h3 := itr_le (b := b) (rule := rule) (high := high) (xs := xs) m
  unfold goes
  omega
/-- no way takes less -/
theorem way_least {m : Nat} {r : List (Nat × Nat)} (hx : ∀ x ∈ xs, SpOk x) (b0 : 0 ≤ b) (r0 : 0 ≤ rule) (hn : high = 0 ∨ ¬ goes b rule (high - 1) xs m) (h : wayF xs 0 r) (hm : r.length ≤ m) (hr : r ≠ []) : ∃ p ∈ r, high ≤ useI b rule (sl3 xs p.1 p.2) := by
  rcases hn with rfl | hn
  · cases r with
    | nil => exact absurd rfl hr
    | cons p r => exact ⟨p, List.mem_cons_self, use_nn (fun x hx' => hx x (sl3_mem hx')) b0 r0⟩
  · apply Classical.byContradiction
    intro hc
    refine hn (way_goes hx b0 r0 h hm fun p hp => ?_)
    apply Classical.byContradiction
    intro hc2
    exact hc ⟨p, hp, by omega⟩
end
/-- a list of rising ends, as a way -/
theorem way_of_ends {xs : List Sp3} : ∀ {l : List Nat} {a : Nat}, (a :: l).Pairwise (· < ·) → (∀ e ∈ l, e ∈ brkL xs) → l.getLastD a = xs.length → wayF xs a (colP a l) ∧ (colP a l).length = l.length
  | [], a, _, _, h => ⟨h, rfl⟩
  | e :: l, a, hp, hm, h => by
    rw [List.getLastD_cons] at h
    have h1 := List.pairwise_cons.mp hp
    have h2 := h1.1 e List.mem_cons_self
    obtain ⟨i1, i2⟩ := way_of_ends h1.2 (fun x hx => hm x (List.mem_cons_of_mem _ hx)) h
    have h3 := mem_brkL.mp (hm e List.mem_cons_self)
    rw [colP, if_pos h2]
    exact ⟨⟨rfl, h2, h3.2.1, h3.2.2, i1⟩, by simp [i2]⟩
/-- the next break -/
theorem next_brk {xs : List Sp3} {n e : Nat} {r : List Nat} (h : (brkL xs).filter (fun h => decide (n < h)) = e :: r) : n < e ∧ e ≤ xs.length ∧ brk xs e = true ∧ ∀ e', n < e' → e' < e → brk xs e' = false := by
  have h1 : e ∈ (brkL xs).filter (fun h => decide (n < h)) := by rw [h]; exact List.mem_cons_self
  have h2 := List.mem_filter.mp h1
  have h3 := mem_brkL.mp h2.1
  have h4 : n < e := by simpa using h2.2
  refine ⟨h4, h3.2.1, h3.2.2, fun e' g1 g2 => ?_⟩
  cases hb : brk xs e' with
  | false => rfl
  | true =>
    have h5 : e' ∈ (brkL xs).filter (fun h => decide (n < h)) := List.mem_filter.mpr ⟨mem_brkL.mpr ⟨by omega, by omega, hb⟩, by simpa using g1⟩
    rw [h] at h5
    have h6 : (e :: r).Pairwise (· < ·) := by
      rw [← h]
      apply List.Pairwise.filter
      unfold brkL
      apply List.Pairwise.filter
      exact List.pairwise_lt_range' ..
    rcases List.mem_cons.mp h5 with h7 | h7
    · omega
    · have := (List.pairwise_cons.mp h6).1 e' h7
      omega
/-- keys of a dict put in one by one -/
def keyN (ks : List Nat) : List (Key × D) := ks.map fun e : Nat => ((.inl (e : Int) : Key), D.bl true)
theorem putNat {ks : List Nat} {e : Nat} : putP (keyN ks) (.inl (e : Int)) (.bl true) = keyN (if e ∈ ks then ks else ks ++ [e]) := by
  unfold putP keyN
  have h : ((ks.map fun e : Nat => ((.inl (e : Int) : Key), D.bl true)).any fun kv => decide (kv.1 = .inl (e : Int))) = decide (e ∈ ks) := by
    rw [List.any_map]
    induction ks with
    | nil => rfl
    | cons x l ih =>
      rw [List.any_cons, ih]
      by_cases hx : e = x
      · subst hx; simp
      · have : ¬ ((x : Int) = e) := fun z => hx (by omega)
        simp [hx, this, Function.comp]
  rw [h]
  by_cases hm : e ∈ ks
  · simp only [hm, decide_true, if_true]
    rw [List.map_map]
    apply List.map_congr_left
    intro x _
    simp
  · simp [hm]

abbrev s__law_filled : Stmt := top 55
theorem sc__law_filled : FnScope ["_law_strips_here", "_law_many", "_law_high_here", "_law_feather_here", "_law_rule", "_law_ends", "_law_end", "_law_k", "_law_begin", "_law_h"] ["_law_strips_here", "_law_many", "_law_high_here", "_law_feather_here", "_law_rule"] (defScope s__law_filled) := ⟨rfl, rfl, rfl, by decide +kernel, rfl, by decide +kernel, by decide +kernel⟩
def sp__law_filled : Sp := fun vs H Q _ => ∃ F M v u, ∃ (m : Nat) (high b l w s rule : Int) (g : D) (xs : List Sp3), vs = [v, .int m, .int high, u, .int rule] ∧ Wf F H M ∧ Rk F M v (.lst (xs.map spD)) ∧ Rk F M u (rowD b l g w s) ∧ m ≤ 24 ∧ xs.length ≤ 120 ∧ 0 ≤ b ∧ b ≤ 1000000000000 ∧ ∀ p H', Wf F H' (.ml p ((endsN (farI b rule high xs) m).map natD) :: M) → Q (.ref p) H'
theorem n_lfilled {F : List (V × D)} {H : Hp} {M : List ME} {v u : V} {m : Nat} {high b l w s rule : Int} {g : D} {xs : List Sp3} {Q : VK} {E : XK} (ww : Wf F H M) (hv : Rk F M v (.lst (xs.map spD))) (hu : Rk F M u (rowD b l g w s)) (hm : m ≤ 24) (hl : xs.length ≤ 120) (b0 : 0 ≤ b) (b1 : b ≤ 1000000000000) (q : ∀ p H', Wf F H' (.ml p ((endsN (farI b rule high xs) m).map natD) :: M) → Q (.ref p) H') : sp__law_filled ([v, .int m, .int high, u, .int rule] ++ []) H Q E := ⟨F, M, v, u, m, high, b, l, w, s, rule, g, xs, rfl, ww, hv, hu, hm, hl, b0, b1, q⟩

theorem ok__law_filled {f : Addr} {fd : FuncData} (F : Fun K "_law_filled" "_law_filled" s__law_filled f fd) (B : Bn mg) (c__law_used : Cal P w K mg base "_law_used" 3 ["_law_strips_here", "_law_feather_here", "_law_rule"] [] sp__law_used)  : FnOk P w K mg base CX0 4 f fd ["_law_strips_here", "_law_many", "_law_high_here", "_law_feather_here", "_law_rule"] sp__law_filled := by
  refine F.ok sc__law_filled (fun vs H Q E h => ?_) (fun cdv A outer s H vs Q E hr h => ?_)
  · obtain ⟨F, M, v, u, m, high, b, l, w, s, rule, g, xs, rfl, ww, hv, hu, hm, hl, b0, b1, k⟩ := h
    all_goals rfl
  · obtain ⟨F, M, v, u, m, high, b, l, w, s, rule, g, xs, rfl, ww, hv, hu, hm, hl, b0, b1, k⟩ := h
    refine ⟨_, (pss_cons (ps_set (i := 5) sc__law_filled.nd rfl (Or.inl rfl) (pe_lst pa_nil))
      (pss_cons (ps_set (i := 6) sc__law_filled.nd rfl (Or.inl rfl) pe_int)
      (pss_cons (ps_for PassesOwn.never rfl (pi_range1 (by rfl) B.range_ (pa_cons (pv 1) pa_nil)) (pg_name (i := 7) sc__law_filled.nd rfl (Or.inl rfl)) (pss_cons (ps_set (i := 8) sc__law_filled.nd rfl (Or.inl rfl) (pv 6))
      (pss_cons (ps_for PassesOwn.never rfl (pi_range2 (by rfl) B.range_ (pa_cons (pe_op (k_add (K := K) rfl) (pv 8) pe_int) (pa_cons (pe_op (k_add (K := K) rfl) (pe_callB (k_len (K := K) rfl) (by rfl) B.len_ (by decide +kernel) (pa_cons (pv 0) pa_nil)) pe_int) pa_nil))) (pg_name (i := 9) sc__law_filled.nd rfl (Or.inl rfl)) (pss_one (ps_if (pw_or (pt_cmp (pc_notN (pe_ix (k_ix (K := K) rfl) (pe_ix (k_ix (K := K) rfl) (pv 0) (pe_op op_sub (pv 9) pe_int) (fun _ _ => rfl)) pe_int (fun _ _ => rfl)))) (pw_or1 (pt_cmpR (k_eq (K := K) rfl hr.units) (pv 9) (pe_callB (k_len (K := K) rfl) (by rfl) B.len_ (by decide +kernel) (pa_cons (pv 0) pa_nil)) (nomark _)))).pt (pss_cons (ps_if (pt_cmpR op_gt (pe_cal c__law_used (hr.mono (by decide)) (by rfl) (pa_cons (pe_slice (k_sl (K := K) rfl) (pv 0) (po_some (pv 8)) (po_some (pv 9))) (pa_cons (pv 3) (pa_cons (pv 4) pa_nil)))) (pv 2) (nomark _)) (pss_one ps_break) pss_nil)
      (pss_one (ps_set (i := 6) sc__law_filled.nd rfl (Or.inl rfl) (pv 9)))) pss_nil)))
      (pss_one (ps_expr (pe_bm PySem.F.plainAttrs_list PySem.F.slot_list_append PySem.F.type_list_append mt_append (pv 5) (pa_cons (pv 6) pa_nil)))))))
      (pss_one (ps_ret (pv 5)))))), ?_⟩
    try dsimp only [cxOf, Cx.nox, Cx.wish, Cx.blk]
    rw [show L2.start (["_law_strips_here", "_law_many", "_law_high_here", "_law_feather_here", "_law_rule", "_law_ends", "_law_end", "_law_k", "_law_begin", "_law_h"] : List Str) [v, .int m, .int high, u, .int rule] = [some v, some (.int m), some (.int high), some u, some (.int rule), none, none, none, none, none] from rfl]
    wtm_at "n"
    rename_i p H1 ww
    refine s_rng1' (by omega) (by omega) ?_
    rw [Int.toNat_natCast]
    refine n_forR ww (fun i σ' F' M' => ∃ x7 x8 x9, σ' = [some v, some (.int m), some (.int high), some u, some (.int rule), some (.ref p), some (.int (itr (farI b rule high xs) i : Nat)), x7, x8, x9] ∧ F = F' ∧ M' = .ml p ((endsN (farI b rule high xs) i).map natD) :: M) ⟨_, _, _, rfl, rfl, rfl⟩ ?_ ?_
    · rintro i σ' H' F' M' hi ⟨x7, x8, x9, rfl, rfl, rfl⟩ ww
      have hbe : itr (farI b rule high xs) i ≤ xs.length := itr_le i
      have hsn := endsN_snoc (farI b rule high xs) i
      have hit : itr (farI b rule high xs) (i + 1) = farI b rule high xs (itr (farI b rule high xs) i) := rfl
      rw [hit] at hsn
      rw [hit, hsn]
      have hen : (endsN (farI b rule high xs) i).length ≤ 24 := by rw [endsN_len]; omega
      generalize itr (farI b rule high xs) i = beg at *
      generalize endsN (farI b rule high xs) i = es at *
      clear hit hsn
      wtm_at "s1"
      wtm_at "s1"
      wtm_at "st2"
      with_reducible refine s_mid (fun σ' H2 => ∃ x9, σ' = [some v, some (.int m), some (.int high), some u, some (.int rule), some (.ref p), some (.int (farI b rule high xs beg : Nat)), some (.int (0 + (i : Int))), some (.int (beg : Nat)), x9] ∧ Wf F H2 (.ml p (es.map natD) :: M)) ?_ (fun N fin => ?_)
      rotate_left
      · wtm_at "n"
        rw [List.length_map]
        refine s_rng2' (by omega) (by omega) (by omega) (by omega) ?_
        have en : ((xs.length : Int) + 1 - ((beg : Int) + 1)).toNat = xs.length - beg := by omega
        rw [en]
        refine n_forR ww (fun j σ' F' M' => ∃ (f : Nat) (x9 : Option V), σ' = [some v, some (.int m), some (.int high), some u, some (.int rule), some (.ref p), some (.int (f : Nat)), some (.int (0 + (i : Int))), some (.int (beg : Nat)), x9] ∧ F = F' ∧ M' = .ml p (es.map natD) :: M ∧ farI b rule high xs beg = farW (brk xs) (fits b rule high xs beg) f (List.range' (beg + 1 + j) (xs.length - beg - j))) ⟨beg, _, rfl, rfl, rfl, rfl⟩ ?_ ?_
        · clear ww
          rintro j σ' H' F' M' hj ⟨f, x9, rfl, rfl, rfl, hf⟩ ww
          have hlt : beg + j < xs.length := by omega
          have hxi : xs[beg + j]? = some xs[beg + j] := List.getElem?_eq_getElem hlt
          have hgd : xs.getD (beg + j) z3 = xs[beg + j] := by rw [List.getD_eq_getElem?_getD, hxi]; rfl
          obtain ⟨n, hn⟩ : ∃ n, xs.length - beg - j = n + 1 := ⟨xs.length - beg - j - 1, by omega⟩
          have hn2 : xs.length - beg - (j + 1) = n := by omega
          have ea : beg + 1 + j = beg + j + 1 := by omega
          have ea2 : beg + 1 + (j + 1) = beg + j + 1 + 1 := by omega
          have ej : (beg : Int) + 1 + (j : Int) = ((beg + j + 1 : Nat) : Int) := by omega
          rw [hn, ea] at hf
          rw [hn2, ea2, ej]
          have hbr : brk xs (beg + j + 1) = (xs[beg + j].st.isSome || beg + j + 1 == xs.length) := by
            unfold brk
            rw [Nat.add_sub_cancel, hgd]
          generalize hxe : xs[beg + j] = x at *
          wtm_at "n"
          refine n_ixM (l := xs) (f := spD) (z := z3) (j := beg + j) ww (by wtm_at "rk") (by omega) hlt fun t ww => ?_
          rw [hgd] at ww
          wtm_at "n"
          rename_i t2 ww
          have e7 : t2 = oV x.st := ww.o0
          have wz : Wf F H' (.ml p (es.map natD) :: M) := by wtm_at "wf"
          clear ww
          have yes : ∀ {σ4 : L2.St} {H4 : Hp} {A B : Prop}, brk xs (beg + j + 1) = true → (useI b rule (sl3 xs beg (beg + j + 1)) > high → farI b rule high xs beg = f → A) → (¬ useI b rule (sl3 xs beg (beg + j + 1)) > high → farI b rule high xs beg = farW (brk xs) (fits b rule high xs beg) (beg + j + 1) (List.range' (beg + j + 1 + 1) n) → B) → if decide (useI b rule (sl3 xs beg (beg + j + 1)) > high) = true then A else B := by
            intro σ4 H4 A B hB k1 k2
            refine s_iteD (fun h => k1 h ?_) (fun h => k2 h ?_)
            · exact far_stop hf hB (by simp [fits]; omega)
            · exact far_yes hf hB (by simp [fits]; omega)
          by_cases hB : x.st = none ∧ beg + j + 1 ≠ xs.length
          · obtain ⟨h1, h2⟩ := hB
            rw [h1] at e7
            change t2 = V.non at e7
            subst e7
            wtm_at "n"
            rw [List.length_map]
            refine s_iteIn (by omega) ?_
            wtm_at "n"
            exact ⟨_, _, ⟨f, _, rfl, rfl, rfl, far_no hf (by rw [hbr, h1]; simp [h2])⟩, wz⟩
          · have hB' : brk xs (beg + j + 1) = true := by
              rw [hbr]
              cases e8 : x.st with
              | none => simp [e8] at hB; simp [hB]
              | some s => rfl
            have hB2 : x.st = none → ((beg + j + 1 : Nat) : Int) = xs.length := fun e => by
              have : beg + j + 1 = xs.length := by simpa [e] using hB
              omega
            clear hB
            cases e8 : x.st with
            | none =>
              rw [e8] at e7
              change t2 = V.non at e7
              subst e7
              wtm_at "n"
              rw [List.length_map]
              refine s_iteIp (hB2 e8) ?_
              wtm_at "n"
              rename_i pl H3 w3
              rw [cut_sl3] at w3
              refine n_lused w3 (by wtm_at "rk") (by wtm_at "rk") (by unfold sl3; rw [List.length_drop, List.length_take]; omega) b0 b1 fun H4 ww => ?_
              wtm_at "n"
              refine yes (σ4 := []) (H4 := H4) hB' (fun _ e => ?_) (fun _ e => ?_)
              · wtm_at "n"
                exact fin _ _ ⟨some (.int ((beg + j + 1 : Nat) : Int)), by rw [e]; rfl, by wtm_at "wf"⟩
              · wtm_at "n"
                exact ⟨_, _, ⟨beg + j + 1, _, rfl, rfl, rfl, e⟩, by wtm_at "wf"⟩
            | some sv =>
              rw [e8] at e7
              change t2 = V.int sv at e7
              subst e7
              wtm_at "n"
              rename_i pl H3 w3
              rw [cut_sl3] at w3
              refine n_lused w3 (by wtm_at "rk") (by wtm_at "rk") (by unfold sl3; rw [List.length_drop, List.length_take]; omega) b0 b1 fun H4 ww => ?_
              wtm_at "n"
              refine yes (σ4 := []) (H4 := H4) hB' (fun _ e => ?_) (fun _ e => ?_)
              · wtm_at "n"
                exact fin _ _ ⟨some (.int ((beg + j + 1 : Nat) : Int)), by rw [e]; rfl, by wtm_at "wf"⟩
              · wtm_at "n"
                exact ⟨_, _, ⟨beg + j + 1, _, rfl, rfl, rfl, e⟩, by wtm_at "wf"⟩
        · clear ww
          rintro σ' H' F' M' ⟨f, x9, rfl, rfl, rfl, hf⟩ ww
          rw [show xs.length - beg - (xs.length - beg) = 0 by omega] at hf
          have e : farI b rule high xs beg = f := hf
          exact fin _ _ ⟨x9, by rw [e], ww⟩
      clear ww
      rintro σ' H' ⟨x9, rfl, ww⟩
      wtm_at "n"
      rename_i H3 ww
      refine ⟨_, _, ⟨_, _, _, rfl, rfl, ?_⟩, ww⟩
      rw [List.map_append]
      rfl
    · rintro σ' H' F' M' ⟨x7, x8, x9, rfl, rfl, rfl⟩ ww
      wtm_at "n"
      exact k _ _ ww
abbrev s__law_numbers_well : Stmt := top 56
theorem sc__law_numbers_well : FnScope ["_law_found", "_law_due", "_law_one"] ["_law_found", "_law_due"] (defScope s__law_numbers_well) := ⟨rfl, rfl, rfl, by decide +kernel, rfl, by decide +kernel, by decide +kernel⟩
def sp__law_numbers_well : Sp := fun vs H Q _ => ∃ F M u v, ∃ l : List Nat, vs = [u, v] ∧ Wf F H M ∧ Rk F M u (.lst (l.map natD)) ∧ Rk F M v (.lst (l.map natD)) ∧ ∀ H', Wf F H' M → Q (.bl true) H'
theorem n_lnumw {F : List (V × D)} {H : Hp} {M : List ME} {u v : V} {l : List Nat} {Q : VK} {E : XK} (ww : Wf F H M) (hu : Rk F M u (.lst (l.map natD))) (hv : Rk F M v (.lst (l.map natD))) (q : ∀ H', Wf F H' M → Q (.bl true) H') : sp__law_numbers_well ([u, v] ++ []) H Q E := ⟨F, M, u, v, l, rfl, ww, hu, hv, q⟩

theorem ok__law_numbers_well {f : Addr} {fd : FuncData} (F : Fun K "_law_numbers_well" "_law_numbers_well" s__law_numbers_well f fd) (B : Bn mg) (c__law_whole : Cal P w K mg base "_law_whole" 1 ["_law_found"] [] sp__law_whole)  : FnOk P w K mg base CX0 2 f fd ["_law_found", "_law_due"] sp__law_numbers_well := by
  refine F.ok sc__law_numbers_well (fun vs H Q E h => ?_) (fun cdv A outer s H vs Q E hr h => ?_)
  · obtain ⟨F, M, u, v, l, rfl, ww, hu, hv, k⟩ := h
    all_goals rfl
  · obtain ⟨F, M, u, v, l, rfl, ww, hu, hv, k⟩ := h
    refine ⟨_, (pss_cons (ps_if (pw_or (pt_not (pt_val (pe_callB (k_isi (K := K) rfl) (by rfl) B.isinstance_ (by decide +kernel) (pa_cons (pv 0) (pa_cons (pe_bltn (v := .ty "list") (by rfl) B.list_ (by decide +kernel) rfl) pa_nil))))) (pw_or1 (pt_cmpR (k_ne (K := K) rfl hr.units) (pv 0) (pv 1) (nomark _)))).pt (pss_one (ps_ret pe_bl)) pss_nil)
      (pss_cons (ps_for PassesOwn.never rfl (kpi_list (K := K) rfl (pv 0)) (pg_name (i := 2) sc__law_numbers_well.nd rfl (Or.inl rfl)) (pss_one (ps_if (pt_not (pt_val (pe_cal c__law_whole (hr.mono (by decide)) (by rfl) (pa_cons (pv 2) pa_nil)))) (pss_one (ps_ret pe_bl)) pss_nil)))
      (pss_one (ps_ret pe_bl)))), ?_⟩
    try dsimp only [cxOf, Cx.nox, Cx.wish, Cx.blk]
    have nb : NB 60 (.lst (l.map natD)) := (NB.lst (k := 1) fun d hd => by
      obtain ⟨x, _, rfl⟩ := List.mem_map.mp hd
      exact .int _).mono (by decide)
    wtm_at "n"
    refine n_neT ww hu hv nb ?_
    wtm_at "n"
    refine n_forL ww (fun i σ' F' M' => (∃ x2, σ' = [some u, some v, x2]) ∧ F = F' ∧ M = M') (by rintro i σ' F' M' ⟨_, rfl, rfl⟩; exact hu) ⟨⟨_, rfl⟩, rfl, rfl⟩ ?_ ?_
    · rintro i d y σ' H' F' M' hd ⟨⟨x2, rfl⟩, rfl, rfl⟩ ww
      obtain ⟨e, he, rfl⟩ := map_get hd
      obtain ⟨rfl, ww⟩ := ww.eq0 (n := (e : Nat))
      wtm_at "n"
      exact ⟨_, _, ⟨⟨_, rfl⟩, rfl, rfl⟩, ww.tail⟩
    · rintro σ' H' F' M' ⟨⟨x2, rfl⟩, rfl, rfl⟩ ww
      wtm_at "n"
      exact k _ ww
abbrev s__law_columns : Stmt := top 57
theorem sc__law_columns : FnScope ["_law_ends", "_law_columns_here", "_law_begin", "_law_end"] ["_law_ends"] (defScope s__law_columns) := ⟨rfl, rfl, rfl, by decide +kernel, rfl, by decide +kernel, by decide +kernel⟩
def sp__law_columns : Sp := fun vs H Q _ => ∃ F M v, ∃ l : List Nat, vs = [v] ∧ Wf F H M ∧ Rk F M v (.lst (l.map natD)) ∧ l.length ≤ 1000 ∧ ∀ p H', Wf F H' (.ml p (colW 0 l) :: M) → Q (.ref p) H'
theorem n_lcols {F : List (V × D)} {H : Hp} {M : List ME} {v : V} {l : List Nat} {Q : VK} {E : XK} (ww : Wf F H M) (hv : Rk F M v (.lst (l.map natD))) (hl : l.length ≤ 1000) (q : ∀ p H', Wf F H' (.ml p (colW 0 l) :: M) → Q (.ref p) H') : sp__law_columns ([v] ++ []) H Q E := ⟨F, M, v, l, rfl, ww, hv, hl, q⟩

theorem ok__law_columns {f : Addr} {fd : FuncData} (F : Fun K "_law_columns" "_law_columns" s__law_columns f fd) (B : Bn mg)  : FnOk P w K mg base CX0 1 f fd ["_law_ends"] sp__law_columns := by
  refine F.ok sc__law_columns (fun vs H Q E h => ?_) (fun cdv A outer s H vs Q E hr h => ?_)
  · obtain ⟨F, M, v, l, rfl, ww, hv, hl, k⟩ := h
    all_goals rfl
  · obtain ⟨F, M, v, l, rfl, ww, hv, hl, k⟩ := h
    refine ⟨_, (pss_cons (ps_set (i := 1) sc__law_columns.nd rfl (Or.inl rfl) (pe_lst pa_nil))
      (pss_cons (ps_set (i := 2) sc__law_columns.nd rfl (Or.inl rfl) pe_int)
      (pss_cons (ps_for PassesOwn.never rfl (kpi_list (K := K) rfl (pv 0)) (pg_name (i := 3) sc__law_columns.nd rfl (Or.inl rfl)) (pss_cons (ps_if (pt_cmpR op_gt (pv 3) (pv 2) (nomark _)) (pss_one (ps_expr (pe_bm PySem.F.plainAttrs_list PySem.F.slot_list_append PySem.F.type_list_append mt_append (pv 1) (pa_cons (pe_tup (pa_cons (pv 2) (pa_cons (pv 3) pa_nil))) pa_nil)))) pss_nil)
      (pss_one (ps_set (i := 2) sc__law_columns.nd rfl (Or.inl rfl) (pv 3)))))
      (pss_one (ps_ret (pv 1)))))), ?_⟩
    try dsimp only [cxOf, Cx.nox, Cx.wish, Cx.blk]
    wtm_at "n"
    rename_i pc H3 ww
    refine n_forL ww (fun i σ' F' M' => ∃ x3, σ' = [some v, some (.ref pc), some (.int ((l.take i).getLastD 0 : Nat)), x3] ∧ F = F' ∧ M' = .ml pc (colW 0 (l.take i)) :: M) (by rintro i σ' F' M' ⟨_, rfl, rfl, rfl⟩; exact hv.more) ⟨_, rfl, rfl, rfl⟩ ?_ ?_
    · rintro i d y σ' H' F' M' hd ⟨x3, rfl, rfl, rfl⟩ ww
      obtain ⟨e, he, rfl⟩ := map_get hd
      obtain ⟨rfl, ww⟩ := ww.eq0 (n := (e : Nat))
      have hc := colW_snoc (l.take i) 0 e
      rw [← take_snoc he] at hc
      have hcl := colW_len (l.take i) 0
      rw [List.length_take] at hcl
      have hlt := last_take he
      generalize (l.take i).getLastD 0 = la at *
      wtm_at "n"
      wtm_at "fork"
      · rename_i h9
        rw [if_pos (by omega)] at hc
        wtm_at "n"
        refine ⟨_, _, ⟨some (.int (e : Nat)), ?_, rfl, rfl⟩, ?_⟩
        · rw [hlt]; rfl
        · rw [hc]
          wtm_at "wf"
      · rename_i h9
        rw [if_neg (by omega), List.append_nil] at hc
        wtm_at "n"
        refine ⟨_, _, ⟨some (.int (e : Nat)), ?_, rfl, rfl⟩, ?_⟩
        · rw [hlt]; rfl
        · rw [hc]
          wtm_at "wf"
    · rintro σ' H' F' M' ⟨x3, rfl, rfl, rfl⟩ ww
      rw [List.length_map, List.take_length] at *
      wtm_at "n"
      exact k _ _ ww
abbrev s__law_high : Stmt := top 58
theorem sc__law_high : FnScope ["_law_bag_here", "_law_strips_here", "_law_feather_here", "_law_rule", "_law_unit_here", "_law_begin", "_law_some", "_law_used_here", "_law_more", "_law_great"] ["_law_bag_here", "_law_strips_here", "_law_feather_here", "_law_rule", "_law_unit_here"] (defScope s__law_high) := ⟨rfl, rfl, rfl, by decide +kernel, rfl, by decide +kernel, by decide +kernel⟩
def sp__law_high : Sp := fun vs H Q _ => ∃ F M p v u, ∃ (b l w s rule un : Int) (g : D) (xs : List Sp3), vs = [.ref p, v, u, .int rule, .int un] ∧ Wf F H M ∧ .bag p ∈ M ∧ Rk F M v (.lst (xs.map spD)) ∧ Rk F M u (rowD b l g w s) ∧ xs.length ≤ 120 ∧ (∀ x ∈ xs, SpOk x) ∧ 0 ≤ b ∧ b ≤ 1000000000000 ∧ 0 ≤ rule ∧ 0 ≤ un ∧ un ≤ 1000000000000 ∧ ∀ h H', 0 ≤ h → Wf F H' M → Q (.int h) H'
theorem n_lhigh {F : List (V × D)} {H : Hp} {M : List ME} {p : Addr} {v u : V} {b l w s rule un : Int} {g : D} {xs : List Sp3} {Q : VK} {E : XK} (ww : Wf F H M) (hb : .bag p ∈ M) (hv : Rk F M v (.lst (xs.map spD))) (hu : Rk F M u (rowD b l g w s)) (hl : xs.length ≤ 120) (hx : ∀ x ∈ xs, SpOk x) (b0 : 0 ≤ b) (b1 : b ≤ 1000000000000) (r0 : 0 ≤ rule) (u0 : 0 ≤ un) (u1 : un ≤ 1000000000000) (q : ∀ h H', 0 ≤ h → Wf F H' M → Q (.int h) H') : sp__law_high ([.ref p, v, u, .int rule, .int un] ++ []) H Q E := ⟨F, M, p, v, u, b, l, w, s, rule, un, g, xs, rfl, ww, hb, hv, hu, hl, hx, b0, b1, r0, u0, u1, q⟩

theorem ok__law_high {f : Addr} {fd : FuncData} (F : Fun K "_law_high" "_law_high" s__law_high f fd) (B : Bn mg) (c__law_take : Cal P w K mg base "_law_take" 1 ["_law_bag_here", "_law_many"] [] sp__law_take) (c__law_used : Cal P w K mg base "_law_used" 3 ["_law_strips_here", "_law_feather_here", "_law_rule"] [] sp__law_used) (c__law_length : Cal P w K mg base "_law_length" 2 ["_law_bag_here", "_law_most"] [] sp__law_length)  : FnOk P w K mg base CX0 4 f fd ["_law_bag_here", "_law_strips_here", "_law_feather_here", "_law_rule", "_law_unit_here"] sp__law_high := by
  refine F.ok sc__law_high (fun vs H Q E h => ?_) (fun cdv A outer s H vs Q E hr h => ?_)
  · obtain ⟨F, M, p, v, u, b, l, w, s, rule, un, g, xs, rfl, ww, hb, hv, hu, hl, hx, b0, b1, r0, u0, u1, k⟩ := h
    all_goals rfl
  · obtain ⟨F, M, p, v, u, b, l, w, s, rule, un, g, xs, rfl, ww, hb, hv, hu, hl, hx, b0, b1, r0, u0, u1, k⟩ := h
    refine ⟨_, (pss_cons (ps_set (i := 5) sc__law_high.nd rfl (Or.inl rfl) (pe_cal c__law_take (hr.mono (by decide)) (by rfl) (pa_cons (pv 0) (pa_cons (pe_op (k_add (K := K) rfl) (pe_callB (k_len (K := K) rfl) (by rfl) B.len_ (by decide +kernel) (pa_cons (pv 1) pa_nil)) pe_int) pa_nil))))
      (pss_cons (ps_set (i := 6) sc__law_high.nd rfl (Or.inl rfl) (pe_slice (k_sl (K := K) rfl) (pv 1) (po_some (pv 5)) (po_some (pe_op (k_add (K := K) rfl) (pe_op (k_add (K := K) rfl) (pv 5) pe_int) (pe_cal c__law_take (hr.mono (by decide)) (by rfl) (pa_cons (pv 0) (pa_cons pe_int pa_nil)))))))
      (pss_cons (ps_set (i := 7) sc__law_high.nd rfl (Or.inl rfl) (pe_cal c__law_used (hr.mono (by decide)) (by rfl) (pa_cons (pv 6) (pa_cons (pv 2) (pa_cons (pv 3) pa_nil)))))
      (pss_cons (ps_set (i := 8) sc__law_high.nd rfl (Or.inl rfl) (pe_op (k_add (K := K) rfl) (pv 7) (pe_cal c__law_length (hr.mono (by decide)) (by rfl) (pa_cons (pv 0) (pa_cons (pv 4) pa_nil)))))
      (pss_cons (ps_set (i := 9) sc__law_high.nd rfl (Or.inl rfl) (pe_cal c__law_take (hr.mono (by decide)) (by rfl) (pa_cons (pv 0) (pa_cons (pe_op (op_powC 1000000000000000000000000000000) pe_int pe_int) pa_nil))))
      (pss_one (ps_ret (pe_ix (k_ix (K := K) rfl) (pe_lst (pa_cons (pv 7) (pa_cons (pe_callB (k_max (K := K) rfl rfl) (by rfl) B.max_ (by decide +kernel) (pa_cons (pe_op op_sub (pv 7) pe_int) (pa_cons pe_int pa_nil))) (pa_cons (pv 8) (pa_cons (pe_cal c__law_length (hr.mono (by decide)) (by rfl) (pa_cons (pv 0) (pa_cons (pv 4) pa_nil))) (pa_cons pe_int (pa_cons (pv 9) pa_nil))))))) (pe_cal c__law_take (hr.mono (by decide)) (by rfl) (pa_cons (pv 0) (pa_cons pe_int pa_nil))) (fun _ _ => rfl))))))))), ?_⟩
    try dsimp only [cxOf, Cx.nox, Cx.wish, Cx.blk]
    rw [show L2.start (["_law_bag_here", "_law_strips_here", "_law_feather_here", "_law_rule", "_law_unit_here", "_law_begin", "_law_some", "_law_used_here", "_law_more", "_law_great"] : List Str) [.ref p, v, u, .int rule, .int un] = [some (.ref p), some v, some u, some (.int rule), some (.int un), none, none, none, none, none] from rfl]
    wtm_at "n"
    rw [List.length_map]
    refine n_take ww hb (by omega) (by omega) fun be H1 be0 be1 ww => ?_
    wtm_at "n"
    refine n_take ww hb (by omega) (by omega) fun c6 H2 c60 c61 ww => ?_
    wtm_at "n"
    rename_i pl H3 w3
    obtain ⟨bn, rfl⟩ : ∃ bn : Nat, be = bn := ⟨be.toNat, by omega⟩
    obtain ⟨en, hen⟩ : ∃ en : Nat, (bn : Int) + 1 + c6 = en := ⟨((bn : Int) + 1 + c6).toNat, by omega⟩
    rw [hen, cut_sl3] at w3
    refine n_lused w3 (by wtm_at "rk") (by wtm_at "rk") (by unfold sl3; rw [List.length_drop, List.length_take]; omega) b0 b1 fun H4 ww => ?_
    have hun : 0 ≤ useI b rule (sl3 xs bn en) := use_nn (fun x hx' => hx x (sl3_mem hx')) b0 r0
    generalize useI b rule (sl3 xs bn en) = us at *
    wtm_at "n"
    refine n_length ww (by wtm_at "mem") u0 (by omega) fun c7 H5 c70 c71 ww => ?_
    wtm_at "n"
    refine n_take ww (by wtm_at "mem") (by omega) (by omega) fun c8 H6 c80 c81 ww => ?_
    wtm_at "n"
    refine n_length ww (by wtm_at "mem") u0 (by omega) fun c9 H7 c90 c91 ww => ?_
    wtm_at "n"
    rename_i pm Hm ww
    refine n_take ww (by wtm_at "mem") (by omega) (by omega) fun c10 H8 c100 c101 ww => ?_
    refine n_ixInts (ns := [us, if 0 > us - 1 then 0 else us - 1, us + c7, c9, 0, c8]) ww (show Rk _ _ _ (.lst [.int us, .int (if 0 > us - 1 then 0 else us - 1), .int (us + c7), .int c9, .int 0, .int c8]) by wtm_at "rk") c100 (by simp; omega) fun n hn => ?_
    have hn0 : 0 ≤ n := by
      have := List.mem_of_getElem? hn
      simp only [List.mem_cons, List.not_mem_nil, or_false] at this
      rcases this with rfl | rfl | rfl | rfl | rfl | rfl
      · exact hun
      · split <;> omega
      all_goals omega
    wtm_at "n"
    exact k _ _ hn0 (by wtm_at "wf")
abbrev s__law_even_well : Stmt := top 59
theorem sc__law_even_well : FnScope ["_law_strips_here", "_law_columns_here", "_law_feather_here", "_law_rule", "_law_told", "_law_high_here", "_law_ends", "_law_lower"] ["_law_strips_here", "_law_columns_here", "_law_feather_here", "_law_rule", "_law_told"] (defScope s__law_even_well) := ⟨rfl, rfl, rfl, by decide +kernel, rfl, by decide +kernel, by decide +kernel⟩
def sp__law_even_well : Sp := fun vs H Q _ => ∃ F M v u t p, ∃ (m : Nat) (high b l w s rule : Int) (g : D) (xs : List Sp3), vs = [v, .int m, u, .int rule, t] ∧ Wf F H M ∧ Rk F M v (.lst (xs.map spD)) ∧ Rk F M u (rowD b l g w s) ∧ Rk F M t (.tup [.int high, .ref p]) ∧ .ml p (colW 0 (endsN (farI b rule high xs) m)) ∈ M ∧ 1 ≤ m ∧ m ≤ 24 ∧ xs.length ≤ 120 ∧ 0 ≤ b ∧ b ≤ 1000000000000 ∧ 0 ≤ high ∧ goes b rule high xs m ∧ (high = 0 ∨ ¬ goes b rule (high - 1) xs m) ∧ ∀ H', Wf F H' M → Q (.bl true) H'
theorem n_levenw {F : List (V × D)} {H : Hp} {M : List ME} {v u t : V} {p : Addr} {m : Nat} {high b l w s rule : Int} {g : D} {xs : List Sp3} {Q : VK} {E : XK} (ww : Wf F H M) (hv : Rk F M v (.lst (xs.map spD))) (hu : Rk F M u (rowD b l g w s)) (ht : Rk F M t (.tup [.int high, .ref p])) (hp : .ml p (colW 0 (endsN (farI b rule high xs) m)) ∈ M) (m1 : 1 ≤ m) (hm : m ≤ 24) (hl : xs.length ≤ 120) (b0 : 0 ≤ b) (b1 : b ≤ 1000000000000) (h0 : 0 ≤ high) (hg : goes b rule high xs m) (hng : high = 0 ∨ ¬ goes b rule (high - 1) xs m) (q : ∀ H', Wf F H' M → Q (.bl true) H') : sp__law_even_well ([v, .int m, u, .int rule, t] ++ []) H Q E := ⟨F, M, v, u, t, p, m, high, b, l, w, s, rule, g, xs, rfl, ww, hv, hu, ht, hp, m1, hm, hl, b0, b1, h0, hg, hng, q⟩

theorem ok__law_even_well {f : Addr} {fd : FuncData} (F : Fun K "_law_even_well" "_law_even_well" s__law_even_well f fd) (B : Bn mg) (c__law_whole : Cal P w K mg base "_law_whole" 1 ["_law_found"] [] sp__law_whole) (c__law_filled : Cal P w K mg base "_law_filled" 4 ["_law_strips_here", "_law_many", "_law_high_here", "_law_feather_here", "_law_rule"] [] sp__law_filled) (c__law_columns : Cal P w K mg base "_law_columns" 1 ["_law_ends"] [] sp__law_columns)  : FnOk P w K mg base CX0 5 f fd ["_law_strips_here", "_law_columns_here", "_law_feather_here", "_law_rule", "_law_told"] sp__law_even_well := by
  refine F.ok sc__law_even_well (fun vs H Q E h => ?_) (fun cdv A outer s H vs Q E hr h => ?_)
  · obtain ⟨F, M, v, u, t, p, m, high, b, l, w, s, rule, g, xs, rfl, ww, hv, hu, ht, hp, m1, hm, hl, b0, b1, h0, hg, hng, k⟩ := h
    all_goals rfl
  · obtain ⟨F, M, v, u, t, p, m, high, b, l, w, s, rule, g, xs, rfl, ww, hv, hu, ht, hp, m1, hm, hl, b0, b1, h0, hg, hng, k⟩ := h
    refine ⟨_, (pss_cons (ps_if (pw_or (pt_not (pt_val (pe_callB (k_isi (K := K) rfl) (by rfl) B.isinstance_ (by decide +kernel) (pa_cons (pv 4) (pa_cons (pe_bltn (v := .ty "tuple") (by rfl) B.tuple_ (by decide +kernel) rfl) pa_nil))))) (pw_or (pt_cmpR (k_ne (K := K) rfl hr.units) (pe_callB (k_len (K := K) rfl) (by rfl) B.len_ (by decide +kernel) (pa_cons (pv 4) pa_nil)) pe_int (nomark _)) (pw_or1 (pt_not (pt_val (pe_callB (k_isi (K := K) rfl) (by rfl) B.isinstance_ (by decide +kernel) (pa_cons (pe_ix (k_ix (K := K) rfl) (pv 4) pe_int (fun _ _ => rfl)) (pa_cons (pe_bltn (v := .ty "list") (by rfl) B.list_ (by decide +kernel) rfl) pa_nil)))))))).pt (pss_one (ps_ret pe_bl)) pss_nil)
      (pss_cons (ps_set (i := 5) sc__law_even_well.nd rfl (Or.inl rfl) (pe_ix (k_ix (K := K) rfl) (pv 4) pe_int (fun _ _ => rfl)))
      (pss_cons (ps_if (pw_or (pt_not (pt_val (pe_cal c__law_whole (hr.mono (by decide)) (by rfl) (pa_cons (pv 5) pa_nil)))) (pw_or1 (pt_cmpR op_lt (pv 5) pe_int (nomark _)))).pt (pss_one (ps_ret pe_bl)) pss_nil)
      (pss_cons (ps_set (i := 6) sc__law_even_well.nd rfl (Or.inl rfl) (pe_cal c__law_filled (hr.mono (by decide)) (by rfl) (pa_cons (pv 0) (pa_cons (pv 1) (pa_cons (pv 5) (pa_cons (pv 2) (pa_cons (pv 3) pa_nil)))))))
      (pss_cons (ps_if (pw_or (pt_cmpR (k_ne (K := K) rfl hr.units) (pe_ix (k_ix (K := K) rfl) (pv 6) (pe_un un_neg pe_int) (fun _ _ => rfl)) (pe_callB (k_len (K := K) rfl) (by rfl) B.len_ (by decide +kernel) (pa_cons (pv 0) pa_nil)) (nomark _)) (pw_or1 (pt_cmpR (k_ne (K := K) rfl hr.units) (pe_ix (k_ix (K := K) rfl) (pv 4) pe_int (fun _ _ => rfl)) (pe_cal c__law_columns (hr.mono (by decide)) (by rfl) (pa_cons (pv 6) pa_nil)) (nomark _)))).pt (pss_one (ps_ret pe_bl)) pss_nil)
      (pss_cons (ps_if (pt_cmpR (k_eq (K := K) rfl hr.units) (pv 5) pe_int (nomark _)) (pss_one (ps_ret pe_bl)) pss_nil)
      (pss_cons (ps_set (i := 7) sc__law_even_well.nd rfl (Or.inl rfl) (pe_cal c__law_filled (hr.mono (by decide)) (by rfl) (pa_cons (pv 0) (pa_cons (pv 1) (pa_cons (pe_op op_sub (pv 5) pe_int) (pa_cons (pv 2) (pa_cons (pv 3) pa_nil)))))))
      (pss_one (ps_ret (pe_cmpR (k_ne (K := K) rfl hr.units) (pe_ix (k_ix (K := K) rfl) (pv 7) (pe_un un_neg pe_int) (fun _ _ => rfl)) (pe_callB (k_len (K := K) rfl) (by rfl) B.len_ (by decide +kernel) (pa_cons (pv 0) pa_nil)) (nomark _))))))))))), ?_⟩
    try dsimp only [cxOf, Cx.nox, Cx.wish, Cx.blk]
    wtm_at "n"
    refine s_iteDn (by omega) ?_
    wtm_at "n"
    refine n_lfilled ww hv hu hm hl b0 b1 fun pe H3 ww => ?_
    wtm_at "n"
    refine n_ixLi ww (by wtm_at "rk") (ends_last m1) ?_
    unfold goes at hg
    rw [hg]
    wtm_at "n"
    rw [List.length_map]
    refine s_iteIp rfl ?_
    wtm_at "n"
    refine n_lcols ww (by wtm_at "rk") (by rw [endsN_len]; omega) fun pc H4 ww => ?_
    wtm_at "n"
    refine n_neT ww (by wtm_at "rk") (by wtm_at "rk") (by rw [colW_eq]; exact (NB.list (k := 1) fun x _ => (NB.fr (k := 0) : NB 1 (fr _ _))).mono (by decide)) ?_
    wtm_at "n"
    wtm_at "fork"
    · wtm_at "n"
      exact k _ (by wtm_at "wf")
    rename_i hz
    have hng := hng.resolve_left hz
    wtm_at "n"
    refine n_lfilled ww (by wtm_at "rk") (by wtm_at "rk") hm hl b0 b1 fun pe2 H5 ww => ?_
    wtm_at "n"
    refine n_ixLi ww (by wtm_at "rk") (ends_last m1) ?_
    unfold goes at hng
    wtm_at "n"
    rw [List.length_map, decide_eq_false (fun e => hng (by have := V.int.inj e; omega))]
    exact k _ (by wtm_at "wf")
/-! ### runs: like blanks between things -/
theorem floor_uni {q : Rat} {n : Int} (h1 : (n : Rat) ≤ q) (h2 : q < (n : Rat) + 1) : q.floor = n := by
  have g1 := Rat.floor_le q
  have g2 := Rat.lt_floor_add_one q
  have e1 : ((q.floor : Int) : Rat) < ((n + 1 : Int) : Rat) := by rw [Rat.intCast_add]; grind
  have e2 : ((n : Int) : Rat) < ((q.floor + 1 : Int) : Rat) := by grind
  rw [Rat.intCast_lt_intCast] at e1 e2
  omega
theorem floor_dv {a b : Int} (hb : 0 < b) : (Rat.divInt a b).floor = a / b := by
  have h1 := Int.mul_ediv_add_emod a b
  have h2 := Int.emod_nonneg a (show b ≠ 0 by omega)
  have h3 := Int.emod_lt_of_pos a hb
  have h4 : a / b * b ≤ a := by rw [Int.mul_comm]; omega
  have h5 : a < (a / b + 1) * b := by rw [Int.add_mul, Int.mul_comm (a / b)]; omega
  refine floor_uni ?_ ?_
  · refine Rat.not_lt.mp fun z => ?_
    have := (dv_lt hb).mp z
    omega
  · rw [show ((a / b : Int) : Rat) + 1 = ((a / b + 1 : Int) : Rat) by rw [Rat.intCast_add]; rfl]
    exact (dv_lt hb).mpr h5
theorem floor_addI (n : Int) (q : Rat) : ((n : Rat) + q).floor = n + q.floor := by
  have g1 := Rat.floor_le q
  have g2 := Rat.lt_floor_add_one q
  refine floor_uni ?_ ?_
  · rw [Rat.intCast_add]; grind
  · rw [Rat.intCast_add]; grind
def leanI (b l s : Int) : Int := if s = 0 then b else l
def fatD (b : Int) (g : D) (w : Int) : D := if w = 0 then .int b else g
theorem fat_or {b l w s : Int} {g : D} (ok : PartOk b l g w s) : fatD b g w = .non ∨ ∃ f, fatD b g w = .int f ∧ 0 ≤ f ∧ f ≤ 1000000000000 := by
  have h1 := ok.l0; have h2 := ok.lb; have h3 := ok.bm
  unfold fatD
  by_cases hw : w = 0
  · rw [if_pos hw]; exact .inr ⟨b, rfl, by omega, h3⟩
  · rw [if_neg hw]
    rcases ok.gr with e | ⟨n, e, n1, n2⟩
    · exact .inl e
    · exact .inr ⟨n, e, by omega, n2⟩
theorem lean_bd {b l w s : Int} {g : D} (ok : PartOk b l g w s) : 0 ≤ leanI b l s ∧ leanI b l s ≤ 1000000000000 := by
  have h1 := ok.l0; have h2 := ok.lb; have h3 := ok.bm
  unfold leanI
  split <;> omega
/-- each of m blanks that share a space -/
def shQ (sp m : Int) (fat : D) : Rat := match fat with
  | .int f => if m * f < sp then (f : Rat) else Rat.divInt sp m
  | _ => Rat.divInt sp m
/-- the size of a blank -/
def blkQ (sp m : Int) (last : Bool) (b l : Int) (g : D) (w s : Int) : Rat :=
  if last = true ∧ m * b ≤ sp then (b : Rat) else if 0 < m ∧ m * leanI b l s ≤ sp then shQ sp m (fatD b g w) else (leanI b l s : Rat)
theorem shQ_sz {sp m : Int} {fat : D} (hm : 0 < m) (hm2 : m ≤ 200) (h0 : -1000000000000000 ≤ sp) (h1 : sp ≤ 1000000000000000) (hf : fat = .non ∨ ∃ f, fat = .int f ∧ 0 ≤ f ∧ f ≤ 1000000000000) : Sz2 60 8 (shQ sp m fat) := by
  have hs : Sz2 60 8 (Rat.divInt sp m) := ⟨Bd.le (Bd.of 1000000000000000 (by omega)) (num_le (by omega)), Bd.le (Bd.of 200 (by omega)) (den_le (by omega))⟩
  rcases hf with rfl | ⟨f, rfl, f0, f1⟩
  · exact hs
  · show Sz2 60 8 (if m * f < sp then (f : Rat) else Rat.divInt sp m)
    by_cases q : m * f < sp
    · rw [if_pos q]; exact ⟨by rw [Rat.num_intCast]; exact Bd.of 1000000000000 (by omega), by rw [Rat.den_intCast]; exact bd1⟩
    · rw [if_neg q]; exact hs
theorem int_sz2 {n : Int} (h0 : 0 ≤ n) (h1 : n ≤ 1000000000000) : Sz2 60 8 (n : Rat) := ⟨by rw [Rat.num_intCast]; exact Bd.of 1000000000000 (by omega), by rw [Rat.den_intCast]; exact bd1⟩
theorem blk_sz {sp m : Int} {last : Bool} {b l w s : Int} {g : D} (ok : PartOk b l g w s) (hm2 : m ≤ 200) (h0 : -1000000000000000 ≤ sp) (h1 : sp ≤ 1000000000000000) : Sz2 60 8 (blkQ sp m last b l g w s) := by
  have q1 := ok.l0; have q2 := ok.lb; have q3 := ok.bm
  have q4 := lean_bd ok
  unfold blkQ
  split
  · exact int_sz2 (by omega) q3
  · split
    · next h => exact shQ_sz h.1 hm2 h0 h1 (fat_or ok)
    · exact int_sz2 q4.1 q4.2
/-- things with q ahead of each -/
def alt (q : Rat) (xs : List Int) : List Rat := xs.flatMap fun x : Int => [q, (x : Rat)]
theorem alt_snoc (q : Rat) (xs : List Int) (x : Int) : alt q (xs ++ [x]) = alt q xs ++ [q, (x : Rat)] := by simp [alt, List.flatMap_append]
theorem alt_len (q : Rat) (xs : List Int) : (alt q xs).length = 2 * xs.length := by
  induction xs with
  | nil => rfl
  | cons x xs ih => show ([q, (x : Rat)] ++ alt q xs).length = _; rw [List.length_append, ih]; simp; omega
theorem alt_take (q : Rat) : ∀ (xs : List Int) (k : Nat), (alt q xs).take (2 * k) = alt q (xs.take k)
  | xs, 0 => by simp [alt]
  | [], k + 1 => by simp [alt]
  | x :: xs, k + 1 => by
    show (q :: (x : Rat) :: alt q xs).take (2 * (k + 1)) = q :: (x : Rat) :: alt q (xs.take k)
    rw [show 2 * (k + 1) = 2 * k + 1 + 1 by omega, List.take_succ_cons, List.take_succ_cons, alt_take q xs k]
theorem rs_alt (q : Rat) (xs : List Int) : rs (alt q xs) = (xs.sum : Rat) + (xs.length : Rat) * q := by
  induction xs with
  | nil => show (0 : Rat) = _; simp; grind
  | cons x xs ih =>
    show rs (q :: (x : Rat) :: alt q xs) = _
    rw [rs_cons, rs_cons, ih, List.sum_cons, List.length_cons, Rat.intCast_add]
    have : ((xs.length + 1 : Nat) : Rat) = (xs.length : Rat) + 1 := by simp
    rw [this]
    grind
def rowR (q : Rat) (xs : List Int) : List Rat := (alt q xs).tail
theorem rowR_snoc (q : Rat) (xs : List Int) (x : Int) : rowR q (xs ++ [x]) = if xs.length = 0 then [(x : Rat)] else rowR q xs ++ [q, (x : Rat)] := by
  unfold rowR
  rw [alt_snoc]
  cases xs with
  | nil => rfl
  | cons y ys => rfl
theorem rowR_len (q : Rat) (xs : List Int) : (rowR q xs).length = 2 * xs.length - 1 := by unfold rowR; rw [List.length_tail, alt_len]

theorem alt_cons {q : Rat} {xs : List Int} (h : 0 < xs.length) : alt q xs = q :: rowR q xs := by
  cases xs with
  | nil => cases h
  | cons x xs => rfl
/-- the k-th thing begins .. -/
theorem rs_even {q : Rat} {xs : List Int} {k : Nat} (h : k < xs.length) : rs ((rowR q xs).take (2 * k)) = ((xs.take k).sum : Rat) + (k : Rat) * q := by
  have e1 := alt_cons (q := q) (xs := xs) (by omega)
  have e2 : (alt q xs).take (2 * k + 1) = q :: (rowR q xs).take (2 * k) := by rw [e1, List.take_succ_cons]
  have e3 : (alt q xs).take (2 * k + 1) = alt q (xs.take k) ++ [q] := by
    have h1 := alt_take q xs k
    have h2 := alt_take q xs (k + 1)
    have h3 : xs[k]? = some xs[k] := List.getElem?_eq_getElem h
    rw [take_snoc h3, alt_snoc, show 2 * (k + 1) = 2 * k + 1 + 1 by omega] at h2
    have h4 : ((alt q xs).take (2 * k + 1 + 1)).take (2 * k + 1) = (alt q xs).take (2 * k + 1) := by rw [List.take_take]; congr 1; omega
    rw [← h4, h2, show alt q (xs.take k) ++ [q, (xs[k] : Rat)] = (alt q (xs.take k) ++ [q]) ++ [(xs[k] : Rat)] by simp]
    rw [List.take_left' (by rw [List.length_append, alt_len, List.length_take]; simp; omega)]
  have e4 : rs (q :: (rowR q xs).take (2 * k)) = ((xs.take k).sum : Rat) + ((xs.take k).length : Rat) * q + q := by rw [← e2, e3, rs_snoc, rs_alt]
  rw [rs_cons] at e4
  have e5 : (xs.take k).length = k := by rw [List.length_take]; omega
  rw [e5] at e4
  grind
theorem rs_odd {q : Rat} {xs : List Int} {k : Nat} (h : k < xs.length) : rs ((rowR q xs).take (2 * k + 1)) = ((xs.take (k + 1)).sum : Rat) + (k : Rat) * q := by
  have e1 := alt_cons (q := q) (xs := xs) (by omega)
  have e2 : (alt q xs).take (2 * (k + 1)) = q :: (rowR q xs).take (2 * k + 1) := by rw [e1, show 2 * (k + 1) = 2 * k + 1 + 1 by omega, List.take_succ_cons]
  have e4 : rs (q :: (rowR q xs).take (2 * k + 1)) = ((xs.take (k + 1)).sum : Rat) + ((xs.take (k + 1)).length : Rat) * q := by rw [← e2, alt_take, rs_alt]
  rw [rs_cons] at e4
  have e5 : (xs.take (k + 1)).length = k + 1 := by rw [List.length_take]; omega
  have e6 : ((k + 1 : Nat) : Rat) = (k : Rat) + 1 := by simp
  rw [e5, e6] at e4
  grind
theorem natR (k : Nat) : ((k : Nat) : Rat) = ((k : Int) : Rat) := rfl
/-- where things begin and end: told by a size that is worth t over d -/
def sprD (xs : List Int) (t d : Int) : List D := (List.range xs.length).map fun k => .tup [.int ((xs.take k).sum + (k : Int) * t / d), .int ((xs.take k).sum + (k : Int) * t / d + xs.getD k 0)]
theorem spr_at {q : Rat} {xs : List Int} {t d : Int} (hd : 0 < d) (hq : Rat.divInt t d = q) {k : Nat} (h : k < xs.length) :
    (rs ((rowR q xs).take (2 * k))).floor = (xs.take k).sum + (k : Int) * t / d ∧ (rs ((rowR q xs).take (2 * k + 1))).floor = (xs.take k).sum + (k : Int) * t / d + xs.getD k 0 := by
  have e : (k : Rat) * q = Rat.divInt ((k : Int) * t) d := by
    rw [← hq, natR, Rat.divInt_eq_div, Rat.divInt_eq_div, Rat.intCast_mul, Rat.div_def, Rat.div_def, Rat.mul_assoc]
  have h3 : xs[k]? = some xs[k] := List.getElem?_eq_getElem h
  have e2 : (xs.take (k + 1)).sum = (xs.take k).sum + xs.getD k 0 := by
    rw [take_snoc h3, List.sum_append, List.getD_eq_getElem?_getD, h3]; simp
  constructor
  · rw [rs_even h, e, floor_addI, floor_dv hd]
  · rw [rs_odd h, e, floor_addI, floor_dv hd, e2]; omega

structure EdgOk (qs : List Rat) : Prop where
  ln : qs.length ≤ 10000
  ok : ∀ (i : Nat) q, qs[i]? = some q → Sz 100000 (rs (qs.take i)) ∧ Sz 100000 q ∧ Bd 8000 ((rs (qs.take i)).den * q.den : Int) ∧ Bd 8000 ((rs (qs.take (i + 1))).den : Int)
def edg (qs : List Rat) : List Int := (List.range (qs.length + 1)).map fun i => (rs (qs.take i)).floor
theorem edg_len (qs : List Rat) : (edg qs).length = qs.length + 1 := by simp [edg]
theorem edg_at {qs : List Rat} {i : Nat} (h : i ≤ qs.length) : (edg qs)[i]? = some (rs (qs.take i)).floor := by
  unfold edg
  rw [List.getElem?_map, List.getElem?_range (by omega)]
  rfl
theorem EdgOk.of {j k : Nat} {qs : List Rat} (h : ∀ q ∈ qs, Sz2 j k q) (h1 : (k + 1) * (qs.length + 2) ≤ 7000) (h2 : j ≤ 5000) (hl : qs.length ≤ 6000) : EdgOk qs where
  ln := by omega
  ok := fun i q hq => by
    have hi : i < qs.length := (List.getElem?_eq_some_iff.mp hq).1
    have s1 := Sz2.rs h i (by omega)
    have s2 := Sz2.rs h (i + 1) (by omega)
    have s3 := h q (List.mem_of_getElem? hq)
    have e1 : (k + 1) * i + (k + 1) * 2 ≤ (k + 1) * (qs.length + 2) := by rw [← Nat.mul_add]; exact Nat.mul_le_mul_left _ (by omega)
    have e2 : k * i ≤ (k + 1) * i := Nat.mul_le_mul_right _ (by omega)
    have e3 : k * (i + 1) = k * i + k := by rw [Nat.mul_add]; omega
    exact ⟨s1.sz (by omega) (by omega), s3.sz (by omega) (by omega), (s1.d.mul s3.d).mono (by omega), s2.d.mono (by omega)⟩

theorem sum_take_le : ∀ (l : List Nat) (i : Nat), (l.take i).sum ≤ l.sum
  | [], i => by simp
  | x :: r, 0 => by simp
  | x :: r, i + 1 => by
    have := sum_take_le r i
    simp only [List.take_succ_cons, List.sum_cons]
    omega
theorem Sz2.rsK {J : Nat} {l : List (Rat × Nat)} (h : ∀ p ∈ l, Sz2 J p.2 p.1) : ∀ i, i ≤ l.length → Sz2 (J + ((l.map (·.2)).take i).sum + i + 1) (((l.map (·.2)).take i).sum + 1) (Fs.rs ((l.map (·.1)).take i))
  | 0, _ => ⟨Bd.of 0 (by simp [rs_nil]) (Nat.pow_pos (by decide)), Bd.of 1 (by simp [rs_nil]) (by simp)⟩
  | i + 1, hi => by
    have hi' : i < l.length := hi
    have e : (l.map (·.1))[i]? = some l[i].1 := by rw [List.getElem?_map, List.getElem?_eq_getElem hi']; rfl
    have e2 : (l.map (·.2))[i]? = some l[i].2 := by rw [List.getElem?_map, List.getElem?_eq_getElem hi']; rfl
    rw [rs_take e, List.take_add_one, e2, Option.toList_some, List.sum_append, List.sum_singleton]
    have ih := Sz2.rsK h i (by omega)
    have hq := h _ (List.getElem_mem hi')
    exact (ih.add hq (J + (((l.map (·.2)).take i).sum + l[i].2) + (i + 1) + 1) (by omega) (by omega)).mono (Nat.le_refl _) (by omega)
theorem EdgOk.ofK {J : Nat} {l : List (Rat × Nat)} (h : ∀ p ∈ l, Sz2 J p.2 p.1) (h1 : (l.map (·.2)).sum ≤ 7000) (h2 : J ≤ 5000) (hl : l.length ≤ 6000) : EdgOk (l.map (·.1)) where
  ln := by rw [List.length_map]; omega
  ok := fun i q hq => by
    have hi : i < l.length := by
      have := (List.getElem?_eq_some_iff.mp hq).1
      rw [List.length_map] at this
      exact this
    have e : (l.map (·.1))[i]? = some l[i].1 := by rw [List.getElem?_map, List.getElem?_eq_getElem hi]; rfl
    rw [e] at hq
    cases hq
    have s1 := Sz2.rsK h i (by omega)
    have s2 := Sz2.rsK h (i + 1) (by omega)
    have s3 := h _ (List.getElem_mem hi)
    have e2 : (l.map (·.2))[i]? = some l[i].2 := by rw [List.getElem?_map, List.getElem?_eq_getElem hi]; rfl
    have l1 := sum_take_le (l.map (·.2)) i
    have l2 := sum_take_le (l.map (·.2)) (i + 1)
    have e3 : ((l.map (·.2)).take (i + 1)).sum = ((l.map (·.2)).take i).sum + l[i].2 := by rw [List.take_add_one, e2, Option.toList_some, List.sum_append, List.sum_singleton]
    exact ⟨s1.sz (by omega) (by omega), s3.sz (by omega) (by omega), (s1.d.mul s3.d).mono (by omega), s2.d.mono (by omega)⟩

def sp_law (K : PySem.W.Frag) : Sp := fun vs H Q _ => ∃ a, ∃ ns : List Int, vs = [.ref a] ∧ SqL K H a (ns.map V.int) ∧ Only H ∧ ns.length ≤ 63 ∧ (∀ z ∈ ns, Builtin.Int.intBits z ≤ 1048576) ∧ ∀ H', Q (.bl true) H'

abbrev s_law : Stmt := top 60
theorem sc_law : FnScope ["_law_script", "_law_bag_here", "_law_unit_here", "_law_many", "_law_strips_here", "_law_feather_here", "_law_rule", "_law_columns_here", "_law_part_here", "_law_handed", "_law_k", "_law_high_here", "_law_found", "_law_due", "_law_told", "_law_kept", "_law_again"] ["_law_script"] (defScope s_law) := ⟨rfl, rfl, rfl, by decide +kernel, rfl, by decide +kernel, by decide +kernel⟩
theorem sp_nb (x : Sp3) : NB 2 (spD x) := .tup fun d hd => by
  simp only [List.mem_cons, List.not_mem_nil, or_false] at hd
  rcases hd with rfl | rfl | rfl
  · exact .int _
  · cases x.st with
    | none => exact .non
    | some n => exact .int n
  · exact NB.ints
theorem goes_mono {b rule h1 h2 : Int} {xs : List Sp3} {m : Nat} (hx : ∀ x ∈ xs, SpOk x) (b0 : 0 ≤ b) (r0 : 0 ≤ rule) (h : h1 ≤ h2) (g : goes b rule h1 xs m) : goes b rule h2 xs m := by
  obtain ⟨w1, w2, w3⟩ := told_way g
  exact way_goes hx b0 r0 w1 w3 fun p hp => Int.le_trans (w2 p hp) h
theorem goes_uniq {b rule h1 h2 : Int} {xs : List Sp3} {m : Nat} (hx : ∀ x ∈ xs, SpOk x) (b0 : 0 ≤ b) (r0 : 0 ≤ rule) (g1 : goes b rule h1 xs m) (g2 : goes b rule h2 xs m) (n1 : h1 = 0 ∨ ¬ goes b rule (h1 - 1) xs m) (n2 : h2 = 0 ∨ ¬ goes b rule (h2 - 1) xs m) (p1 : 0 ≤ h1) (p2 : 0 ≤ h2) : h1 = h2 := by
  apply Classical.byContradiction
  intro ne
  by_cases hlt : h1 < h2
  · rcases n2 with rfl | n2
    · omega
    · exact n2 (goes_mono hx b0 r0 (by omega) g1)
  · rcases n1 with rfl | n1
    · omega
    · exact n1 (goes_mono hx b0 r0 (by omega) g2)
theorem goes_nil {b rule h : Int} {m : Nat} : goes b rule h [] m := by
  have := itr_le (b := b) (rule := rule) (high := h) (xs := []) m
  unfold goes
  simp at this
  simpa using this
theorem colW_nil {b rule h : Int} {m : Nat} : colW 0 (endsN (farI b rule h []) m) = [] := by
  have e : ∀ e ∈ endsN (farI b rule h []) m, e = 0 := fun e he => by
    unfold endsN at he
    obtain ⟨i, _, rfl⟩ := List.mem_map.mp he
    have := itr_le (b := b) (rule := rule) (high := h) (xs := []) (i + 1)
    simpa using this
  generalize endsN (farI b rule h []) m = l at *
  induction l with
  | nil => rfl
  | cons x l ih =>
    have := e x List.mem_cons_self
    subst this
    rw [colW, if_neg (Nat.lt_irrefl 0), ih fun y hy => e y (List.mem_cons_of_mem _ hy)]
    rfl
theorem colW_flat {l : List Nat} : ∀ d ∈ colW 0 l, flatD d = true ∨ ∃ es, d = .tup es ∧ ∀ e ∈ es, flatD e = true := fun d hd => by
  rw [colW_eq] at hd
  obtain ⟨p, _, rfl⟩ := List.mem_map.mp hd
  exact .inr ⟨_, rfl, fun e he => by
    simp only [List.mem_cons, List.not_mem_nil, or_false] at he
    rcases he with rfl | rfl <;> rfl⟩
theorem prt_flat {C : Addr} {b l w s : Int} {g : D} (ok : PartOk b l g w s) : ∃ fs, prt C b l g w s = .obj C fs ∧ ∀ d ∈ fs, flatD d.2 = true := ⟨_, rfl, fun d hd => by
  simp only [List.mem_cons, List.not_mem_nil, or_false] at hd
  rcases ok.gr with rfl | ⟨n, rfl, _, _⟩ <;> rcases hd with rfl | rfl | rfl | rfl | rfl <;> rfl⟩
theorem row_flat {b l w s : Int} {g : D} (ok : PartOk b l g w s) : ∀ d ∈ [D.int b, .int l, g, .int w, .int s], flatD d = true := fun d hd => by
  simp only [List.mem_cons, List.not_mem_nil, or_false] at hd
  rcases ok.gr with rfl | ⟨n, rfl, _, _⟩ <;> rcases hd with rfl | rfl | rfl | rfl | rfl <;> rfl

theorem ok_law {f : Addr} {fd : FuncData} (F : Fun K "law" "law" s_law f fd) (B : Bn mg) (c__law_bag : Cal P w K mg base "_law_bag" 1 ["_law_script"] [] (sp__law_bag K)) (c__law_unit : Cal P w K mg base "_law_unit" 2 ["_law_bag_here"] [] sp__law_unit) (c__law_take : Cal P w K mg base "_law_take" 1 ["_law_bag_here", "_law_many"] [] sp__law_take) (c__law_strips : Cal P w K mg base "_law_strips" 4 ["_law_bag_here", "_law_unit_here", "_law_many"] [] sp__law_strips) (c__law_part : Cal P w K mg base "_law_part" 3 ["_law_bag_here", "_law_unit_here"] [] sp__law_part) (c__law_length : Cal P w K mg base "_law_length" 2 ["_law_bag_here", "_law_most"] [] sp__law_length) (c__law_feather : Cal P w K mg base "_law_feather" 5 ["_law_told"] [] (sp__law_feather C_Part)) (c__law_copied : Cal P w K mg base "_law_copied" 1 ["_law_strips_here"] [] sp__law_copied) (c__law_high : Cal P w K mg base "_law_high" 4 ["_law_bag_here", "_law_strips_here", "_law_feather_here", "_law_rule", "_law_unit_here"] [] sp__law_high) (c_reach : Cal P w K mg base "reach" 5 ["strips", "many", "high", "feather", "rule"] [] (sp_reach C_Part)) (c__law_filled : Cal P w K mg base "_law_filled" 4 ["_law_strips_here", "_law_many", "_law_high_here", "_law_feather_here", "_law_rule"] [] sp__law_filled) (c__law_numbers_well : Cal P w K mg base "_law_numbers_well" 2 ["_law_found", "_law_due"] [] sp__law_numbers_well) (c_even_columns : Cal P w K mg base "even_columns" 5 ["strips", "many", "feather", "rule"] [] (sp_even_columns C_Part)) (c__law_even_well : Cal P w K mg base "_law_even_well" 5 ["_law_strips_here", "_law_columns_here", "_law_feather_here", "_law_rule", "_law_told"] [] sp__law_even_well) (o_Part : OwnC K C_Part) (n_Part : ∀ f ∈ (["base", "least", "greatest", "grow", "shrink"] : List Str), NoAttr K C_Part f)  : FnOk P w K mg base CX0 6 f fd ["_law_script"] (sp_law K) := by
  refine F.ok sc_law (fun vs H Q E h => ?_) (fun cdv A outer s H vs Q E hr h => ?_)
  · obtain ⟨a, ns, rfl, hS, hO, hl, hbits, k⟩ := h
    all_goals rfl
  · obtain ⟨a, ns, rfl, hS, hO, hl, hbits, k⟩ := h
    refine ⟨_, (pss_cons (ps_set (i := 1) sc_law.nd rfl (Or.inl rfl) (pe_cal c__law_bag (hr.mono (by decide)) (by rfl) (pa_cons (pv 0) pa_nil)))
      (pss_cons (ps_set (i := 2) sc_law.nd rfl (Or.inl rfl) (pe_cal c__law_unit (hr.mono (by decide)) (by rfl) (pa_cons (pv 1) pa_nil)))
      (pss_cons (ps_set (i := 3) sc_law.nd rfl (Or.inl rfl) (pe_cal c__law_take (hr.mono (by decide)) (by rfl) (pa_cons (pv 1) (pa_cons pe_int pa_nil))))
      (pss_cons (ps_if (pt_cmpR (k_eq (K := K) rfl hr.units) (pe_cal c__law_take (hr.mono (by decide)) (by rfl) (pa_cons (pv 1) (pa_cons pe_int pa_nil))) pe_int (nomark _)) (pss_one (ps_set (i := 3) sc_law.nd rfl (Or.inl rfl) (pe_ix (k_ix (K := K) rfl) (pe_lst (pa_cons pe_int (pa_cons pe_int pa_nil))) (pe_cal c__law_take (hr.mono (by decide)) (by rfl) (pa_cons (pv 1) (pa_cons pe_int pa_nil))) (fun _ _ => rfl)))) pss_nil)
      (pss_cons (ps_set (i := 4) sc_law.nd rfl (Or.inl rfl) (pe_cal c__law_strips (hr.mono (by decide)) (by rfl) (pa_cons (pv 1) (pa_cons (pv 2) (pa_cons (pv 3) pa_nil)))))
      (pss_cons (ps_set (i := 5) sc_law.nd rfl (Or.inl rfl) (pe_cal c__law_part (hr.mono (by decide)) (by rfl) (pa_cons (pv 1) (pa_cons (pe_op op_fdivW (pv 2) pe_int) pa_nil))))
      (pss_cons (ps_set (i := 6) sc_law.nd rfl (Or.inl rfl) (pe_cal c__law_length (hr.mono (by decide)) (by rfl) (pa_cons (pv 1) (pa_cons (pe_callB (k_min (K := K) rfl rfl) (by rfl) B.min_ (by decide +kernel) (pa_cons (pv 2) (pa_cons pe_int pa_nil))) pa_nil))))
      (pss_cons (ps_set (i := 7) sc_law.nd rfl (Or.inl rfl) (pe_op (k_add (K := K) rfl) pe_int (pe_cal c__law_take (hr.mono (by decide)) (by rfl) (pa_cons (pv 1) (pa_cons pe_int pa_nil)))))
      (pss_cons (ps_if (pt_cmpR (k_eq (K := K) rfl hr.units) (pe_cal c__law_take (hr.mono (by decide)) (by rfl) (pa_cons (pv 1) (pa_cons pe_int pa_nil))) pe_int (nomark _)) (pss_one (ps_set (i := 7) sc_law.nd rfl (Or.inl rfl) pe_int)) pss_nil)
      (pss_cons (ps_set (i := 8) sc_law.nd rfl (Or.inl rfl) (pe_cal c__law_feather (hr.mono (by decide)) (by rfl) (pa_cons (pv 5) pa_nil)))
      (pss_cons (ps_set (i := 9) sc_law.nd rfl (Or.inl rfl) (pe_cal c__law_copied (hr.mono (by decide)) (by rfl) (pa_cons (pv 4) pa_nil)))
      (pss_cons (ps_for PassesOwn.never rfl (pi_range1 (by rfl) B.range_ (pa_cons pe_int pa_nil)) (pg_name (i := 10) sc_law.nd rfl (Or.inl rfl)) (pss_cons (ps_set (i := 11) sc_law.nd rfl (Or.inl rfl) (pe_cal c__law_high (hr.mono (by decide)) (by rfl) (pa_cons (pv 1) (pa_cons (pv 4) (pa_cons (pv 5) (pa_cons (pv 6) (pa_cons (pv 2) pa_nil)))))))
      (pss_cons (ps_set (i := 12) sc_law.nd rfl (Or.inl rfl) (pe_cal c_reach (hr.mono (by decide)) (by rfl) (pa_cons (pv 9) (pa_cons (pv 7) (pa_cons (pv 11) (pa_cons (pv 8) (pa_cons (pv 6) pa_nil)))))))
      (pss_cons (ps_set (i := 13) sc_law.nd rfl (Or.inl rfl) (pe_cal c__law_filled (hr.mono (by decide)) (by rfl) (pa_cons (pv 4) (pa_cons (pv 7) (pa_cons (pv 11) (pa_cons (pv 5) (pa_cons (pv 6) pa_nil)))))))
      (pss_cons (ps_if (pt_not (pt_val (pe_cal c__law_numbers_well (hr.mono (by decide)) (by rfl) (pa_cons (pv 12) (pa_cons (pv 13) pa_nil))))) (pss_one (ps_ret pe_bl)) pss_nil)
      (pss_one (ps_expr (pe_bm PySem.F.plainAttrs_list PySem.F.slot_list_append PySem.F.type_list_append mt_append (pv 12) (pa_cons pe_int pa_nil)))))))))
      (pss_cons (ps_set (i := 14) sc_law.nd rfl (Or.inl rfl) (pe_cal c_even_columns (hr.mono (by decide)) (by rfl) (pa_cons (pv 9) (pa_cons (pv 7) (pa_cons (pv 8) (pa_cons (pv 6) pa_nil))))))
      (pss_cons (ps_if (pw_or (pt_cmpR (k_ne (K := K) rfl hr.units) (pv 9) (pv 4) (nomark _)) (pw_or1 (pt_not (pt_val (pe_cal c__law_even_well (hr.mono (by decide)) (by rfl) (pa_cons (pv 4) (pa_cons (pv 7) (pa_cons (pv 5) (pa_cons (pv 6) (pa_cons (pv 14) pa_nil)))))))))).pt (pss_one (ps_ret pe_bl)) pss_nil)
      (pss_cons (ps_if (pt_cmpR (k_eq (K := K) rfl hr.units) (pv 3) pe_int (nomark _)) (pss_one (ps_ret (pe_cmpR (k_eq (K := K) rfl hr.units) (pv 14) (pe_tup (pa_cons pe_int (pa_cons (pe_lst pa_nil) pa_nil))) (nomark _)))) pss_nil)
      (pss_cons (ps_set (i := 15) sc_law.nd rfl (Or.inl rfl) (pe_callTy (k_list (K := K) rfl) (by rfl) B.list_ (by decide +kernel) (pa_cons (pe_ix (k_ix (K := K) rfl) (pv 14) pe_int (fun _ _ => rfl)) pa_nil)))
      (pss_cons (ps_expr (pe_bm0 PySem.F.plainAttrs_list PySem.F.slot_list_clear PySem.F.type_list_clear mt_clear (pe_ix (k_ix (K := K) rfl) (pv 14) pe_int (fun _ _ => rfl))))
      (pss_cons (ps_expr (pe_bm PySem.F.plainAttrs_list PySem.F.slot_list_append PySem.F.type_list_append mt_append (pe_ix (k_ix (K := K) rfl) (pe_ix (k_ix (K := K) rfl) (pv 9) pe_int (fun _ _ => rfl)) pe_int (fun _ _ => rfl)) (pa_cons pe_int pa_nil)))
      (pss_cons (ps_expr (pe_bm0 PySem.F.plainAttrs_list PySem.F.slot_list_pop PySem.F.type_list_pop mt_pop (pv 9)))
      (pss_cons (ps_set (i := 16) sc_law.nd rfl (Or.inl rfl) (pe_cal c_even_columns (hr.mono (by decide)) (by rfl) (pa_cons (pe_cal c__law_copied (hr.mono (by decide)) (by rfl) (pa_cons (pv 4) pa_nil)) (pa_cons (pv 7) (pa_cons (pv 8) (pa_cons (pv 6) pa_nil))))))
      (pss_one (ps_ret (pe_cmpR (k_eq (K := K) rfl hr.units) (pv 16) (pe_tup (pa_cons (pe_ix (k_ix (K := K) rfl) (pv 14) pe_int (fun _ _ => rfl)) (pa_cons (pv 15) pa_nil))) (nomark _)))))))))))))))))))))))), ?_⟩
    try dsimp only [cxOf, Cx.nox, Cx.wish, Cx.blk]
    rw [show L2.start (["_law_script", "_law_bag_here", "_law_unit_here", "_law_many", "_law_strips_here", "_law_feather_here", "_law_rule", "_law_columns_here", "_law_part_here", "_law_handed", "_law_k", "_law_high_here", "_law_found", "_law_due", "_law_told", "_law_kept", "_law_again"] : List Str) [.ref a] = [some (.ref a), none, none, none, none, none, none, none, none, none, none, none, none, none, none, none, none] from rfl]
    wtm_at "n"
    refine n_bag hS fun b H0 w => ?_
    wtm_at "n"
    refine n_lunit w (by wtm_at "mem") fun un H1 u0 u1 w => ?_
    wtm_at "n"
    refine n_take w (by wtm_at "mem") (by omega) (by omega) fun ma H1 ma0 ma1 w => ?_
    simp only [List.set_cons_succ, List.set_cons_zero]
    wtm_at "st2"
    with_reducible refine s_mid (fun σ' H' => ∃ many : Int, σ' = [some (.ref a), some (.ref b), some (.int un), some (.int many), none, none, none, none, none, none, none, none, none, none, none, none, none] ∧ 0 ≤ many ∧ many ≤ 120 ∧ Wf [] H' [.bag b]) ?_ (fun N fin => ?_)
    rotate_left
    · wtm_at "n"
      refine n_take w (by wtm_at "mem") (by omega) (by omega) fun m2 H2 m20 m21 w => ?_
      wtm_at "n"
      wtm_at "fork"
      · wtm_at "n"
        rename_i pm Hm w
        refine n_take w (by wtm_at "mem") (by omega) (by omega) fun x4 H4 x40 x41 w => ?_
        refine n_ixInts (ns := [40, 120]) w (show Rk _ _ _ (.lst [.int 40, .int 120]) by wtm_at "rk") x40 (by simp; omega) fun m hm => ?_
        have hm2 : 1 ≤ m ∧ m ≤ 120 := by
          have := List.mem_of_getElem? hm
          simp only [List.mem_cons, List.not_mem_nil, or_false] at this
          omega
        wtm_at "n"
        exact fin _ _ ⟨m, rfl, by omega, hm2.2, by wtm_at "wf"⟩
      · wtm_at "n"
        exact fin _ _ ⟨ma, rfl, by omega, by omega, w⟩
    clear w
    rintro σ' H' ⟨many, rfl, m0, m1, w⟩
    wtm_at "n"
    refine n_lstrips w (by wtm_at "mem") (by omega) u1 (by omega) m1 fun ps H2 xs hx hxl w => ?_
    have hl120 : xs.length ≤ 120 := by omega
    have w := w.frzL .here
    wtm_at "n"
    refine s_I (cd64 (by omega) (by omega)) ?_
    wtm_at "n"
    refine n_lpt w (by wtm_at "mem") (by omega) (by omega) fun ft H3 fb fl fg fw fs ok w => ?_
    have b0 : 0 ≤ fb := by have := ok.l0; have := ok.lb; omega
    have b1 := ok.bm
    wtm_at "n"
    refine n_length w (by wtm_at "mem") (by split <;> omega) (by split <;> omega) fun ru H4 ru0 ru1 w => ?_
    have ru1 : ru ≤ 1000000 := by split at ru1 <;> omega
    wtm_at "n"
    refine n_take w (by wtm_at "mem") (by omega) (by omega) fun x5 H5 x50 x51 w => ?_
    simp only [List.set_cons_succ, List.set_cons_zero]
    wtm_at "st2"
    with_reducible refine s_mid (fun σ' H' => ∃ m : Nat, σ' = [some (.ref a), some (.ref b), some (.int un), some (.int many), some (.ref ps), some ft, some (.int ru), some (.int m), none, none, none, none, none, none, none, none, none] ∧ 1 ≤ m ∧ m ≤ 24 ∧ Wf [(ft, rowD fb fl fg fw fs), (.ref ps, .lst (xs.map spD))] H' [.bag b]) ?_ (fun N fin => ?_)
    rotate_left
    · wtm_at "n"
      refine n_take w (by wtm_at "mem") (by omega) (by omega) fun x6 H6 x60 x61 w => ?_
      wtm_at "n"
      wtm_at "fork"
      · wtm_at "n"
        exact fin _ _ ⟨24, rfl, by decide, by decide, by wtm_at "wf"⟩
      · wtm_at "n"
        obtain ⟨m, hm⟩ : ∃ m : Nat, 1 + x5 = (m : Int) := ⟨(1 + x5).toNat, by omega⟩
        rw [hm]
        exact fin _ _ ⟨m, rfl, by omega, by omega, by wtm_at "wf"⟩
    clear w
    rintro σ' H' ⟨m, rfl, c0, c1, w⟩
    wtm_at "n"
    refine n_lfeather w (by wtm_at "rk") ok fun pt H6 w => ?_
    obtain ⟨os, eos, w⟩ := w.find (p := ps) (xs := xs) (by simp)
    wtm_at "n"
    refine n_lcopiedX w (xs := xs) (.mem (by simp)) (by omega) fun ph H7 hs ehs hfr w => ?_
    have ap : ∀ q es, (V.ref q, D.lst es) ∈ _ → q ≠ ph := fun q es hq => w.apart List.mem_cons_self hq
    have ap1 : ∀ h ∈ hs, h.2.1 ≠ ph := fun h hh => ap _ _ (List.mem_append_left _ (exS_mem hh).2)
    have ap2 : ∀ h ∈ os, h.2.1 ≠ ph := fun h hh => ap _ _ (List.mem_append_right _ (List.mem_cons_of_mem _ (List.mem_append_left _ (exS_mem hh).2)))
    have ap3 : ps ≠ ph := ap ps (hsR os) (List.mem_append_right _ List.mem_cons_self)
    have ap4 : ∀ h ∈ hs, ∀ o ∈ os, o.2.1 ≠ h.2.1 := fun h hh o ho e => hfr h hh _ (e ▸ List.mem_cons_of_mem _ (List.mem_append_left _ (exS_mem ho).2))
    have ap5 : ∀ h ∈ hs, ps ≠ h.2.1 := fun h hh e => hfr h hh (hsR os) (e ▸ List.mem_cons_self)
    clear hfr ap
    have w := w.frzL .here
    have w := w.deepF (p := ph) (hs := hs) List.mem_cons_self fun f hf => List.mem_cons_of_mem _ (List.mem_append_left _ hf)
    have ehd : hsD hs = xs.map spD := by rw [← ehs, List.map_map]; rfl
    have eod : hsD os = xs.map spD := by rw [← eos, List.map_map]; rfl
    rw [ehd] at w
    obtain ⟨EX, hE1, hE2, w⟩ : ∃ EX : List (V × D), (∀ f ∈ exS hs, f ∈ EX) ∧ (∀ f ∈ exS os, f ∈ EX) ∧ Wf ((V.ref ph, D.lst (xs.map spD)) :: (pt, prt C_Part fb fl fg fw fs) :: (ft, rowD fb fl fg fw fs) :: (V.ref ps, D.lst (xs.map spD)) :: (V.ref ph, D.lst (hsR hs)) :: (V.ref ps, D.lst (hsR os)) :: EX) _ [.bag b] := ⟨exS hs ++ exS os, fun f hf => List.mem_append_left _ hf, fun f hf => List.mem_append_right _ hf, w.sub (KS.cons (.mem (by simp)) (KS.cons (.mem (by simp)) (KS.cons (.mem (by simp)) (KS.cons (.mem (by simp)) (KS.cons (.mem (by simp)) (KS.cons (.mem (by simp)) fun f hf => .mem (by rcases List.mem_append.mp hf with h | h <;> simp [h]))))))) (.refl _)⟩
    wtm_at "n"
    refine s_rng1' (by omega) (by omega) ?_
    refine n_forR w (fun i σ' F' M' => ∃ x10 x11 x12 x13 : Option V, σ' = [some (.ref a), some (.ref b), some (.int un), some (.int many), some (.ref ps), some ft, some (.int ru), some (.int m), some pt, some (.ref ph), x10, x11, x12, x13, none, none, none] ∧ F' = ((V.ref ph, D.lst (xs.map spD)) :: (pt, prt C_Part fb fl fg fw fs) :: (ft, rowD fb fl fg fw fs) :: (V.ref ps, D.lst (xs.map spD)) :: (V.ref ph, D.lst (hsR hs)) :: (V.ref ps, D.lst (hsR os)) :: EX) ∧ M' = [.bag b]) ⟨_, _, _, _, rfl, rfl, rfl⟩ ?_ ?_
    · clear w
      rintro i σ' H' F' M' hi ⟨x10, x11, x12, x13, rfl, rfl, rfl⟩ w
      wtm_at "n"
      refine n_lhigh w (by wtm_at "mem") (by wtm_at "rk") (by wtm_at "rk") hl120 hx b0 b1 ru0 (by omega) u1 fun hg H8 hg0 w => ?_
      wtm_at "n"
      refine n_reach w (by wtm_at "rk") (by wtm_at "rk") c0 c1 hg0 ru0 ru1 hx hl120 fun pf H9 w => ?_
      wtm_at "n"
      refine n_lfilled w (by wtm_at "rk") (by wtm_at "rk") c1 hl120 b0 b1 fun pd H10 w => ?_
      wtm_at "n"
      refine n_lnumw (l := endsN (farI fb ru hg xs) m) w (by wtm_at "rk") (by wtm_at "rk") fun H11 w => ?_
      wtm_at "n"
      refine n_app (d := .int 0) w (by wtm_at "foc") (.int _) (by rw [List.length_map, endsN_len]; omega) fun H12 w => ?_
      wtm_at "n"
      exact ⟨_, _, ⟨_, _, _, _, rfl, rfl, rfl⟩, by wtm_at "wf"⟩
    clear w
    rintro σ' H' F' M' ⟨x10, x11, x12, x13, rfl, rfl, rfl⟩ w
    wtm_at "n"
    refine n_evens w (by wtm_at "rk") (by wtm_at "rk") c0 c1 b0 b1 ru0 ru1 hx hl120 fun t pc H8 high h0 h1 hg hng w => ?_
    wtm_at "n"
    refine n_neT (d := .lst (xs.map spD)) w (by wtm_at "rk") (by wtm_at "rk") ((NB.list fun x _ => sp_nb x).mono (by decide)) ?_
    wtm_at "n"
    refine n_levenw w (by wtm_at "rk") (by wtm_at "rk") (by wtm_at "rk") (by wtm_at "mem") c0 c1 hl120 b0 b1 h0 hg hng fun H9 w => ?_
    wtm_at "n"
    wtm_at "fork"
    · rename_i hz
      have e : xs = [] := List.eq_nil_of_length_eq_zero (by omega)
      subst e
      have e0 : high = 0 := hng.resolve_right fun h => h goes_nil
      subst e0
      rw [colW_nil] at w
      wtm_at "n"
      rename_i p0 Hp0 w
      refine n_newT (ds := [.int 0, .ref p0]) w (by wtm_at "kna") (by simp) fun t2 H10 w => ?_
      wtm_at "n"
      refine s_eqT (I := H10) (M := []) Fs.W.self (w.deep2 (l := 0) (p := pc) (ds := []) (.mem (by simp)) (by simp)) (w.deep2 (l := 0) (p := p0) (ds := []) (.mem (by simp)) (by simp)) ((NB.tup (k := 2) fun d hd => by
        simp only [List.mem_cons, List.not_mem_nil, or_false] at hd
        rcases hd with rfl | rfl
        · exact .int _
        · exact (NB.lst (k := 1) fun d hd => by cases hd)).mono (by decide)) ?_
      exact k _
    rename_i hz
    obtain ⟨h0', hr, rfl⟩ : ∃ h r, hs = h :: r := by
      cases hs with
      | nil => have : xs = [] := by rw [← ehs]; rfl
               subst this
               exact absurd (show many = 0 by simp at hxl; omega) hz
      | cons h r => exact ⟨h, r, rfl⟩
    wtm_at "n"
    rename_i pk Hk wk Hc w
    have apq : ph ≠ h0'.2.1 := fun e => ap1 h0' List.mem_cons_self e.symm
    obtain ⟨fsp, epr, hfsp⟩ := prt_flat (C := C_Part) ok
    have w1 : Wf ((V.ref ph, D.lst (hsR (h0' :: hr))) :: (V.ref h0'.1, D.tup [.int h0'.2.2.h, oD h0'.2.2.st, .ref h0'.2.1]) :: (t, D.tup [.int high, .ref pc]) :: (pt, prt C_Part fb fl fg fw fs) :: (ft, rowD fb fl fg fw fs) :: (V.ref ps, D.lst (xs.map spD)) :: (V.ref ps, D.lst (hsR os)) :: exS os) Hc (.ml h0'.2.1 (h0'.2.2.ns.map D.int) :: [.ml pk (colW 0 (endsN (farI fb ru high xs) m)), .ml pc []]) := by
      refine Wf.thaw w (q := h0'.2.1) (ds := h0'.2.2.ns.map D.int) ?_ (fun d hd => by obtain ⟨n, _, rfl⟩ := List.mem_map.mp hd; rfl) (fun f hf => ?_) (by wtm_at "sl") (fun e he => ?_)
      · simp [hE1 _ (exS_mem (h := h0') List.mem_cons_self).2]
      · simp only [List.mem_cons] at hf
        rcases hf with rfl | rfl | rfl | rfl | rfl | rfl | rfl | hf
        · exact offL (by simp) apq hsR_flat
        · refine offT (by simp [hE1 _ (exS_mem (h := h0') List.mem_cons_self).1]) fun d hd => ?_
          simp only [List.mem_cons, List.not_mem_nil, or_false] at hd
          rcases hd with rfl | rfl | rfl
          · rfl
          · cases h0'.2.2.st <;> rfl
          · rfl
        · exact offT (by simp) fun d hd => by
            simp only [List.mem_cons, List.not_mem_nil, or_false] at hd
            rcases hd with rfl | rfl <;> rfl
        · rw [epr]
          exact offO (by rw [← epr]; simp) hfsp
        · exact offT (by simp) (row_flat ok)
        · rw [← eod]
          exact off_hs (by simp) (fun f hf => by simp [hE2 f hf]) (ap5 _ List.mem_cons_self) (ap4 _ List.mem_cons_self)
        · exact offL (by simp) (ap5 _ List.mem_cons_self) hsR_flat
        · exact off_exS (hs := os) (fun f hf => by simp [hE2 f hf]) (ap4 _ List.mem_cons_self) f hf
      · simp only [List.mem_cons, List.not_mem_nil, or_false] at he
        rcases he with rfl | rfl
        · exact offML colW_flat
        · exact offML fun d hd => nomatch hd
    clear w wk
    have w : Wf ((V.ref h0'.1, D.tup [.int h0'.2.2.h, oD h0'.2.2.st, .ref h0'.2.1]) :: (t, D.tup [.int high, .ref pc]) :: (pt, prt C_Part fb fl fg fw fs) :: (ft, rowD fb fl fg fw fs) :: (V.ref ps, D.lst (xs.map spD)) :: []) Hc (.ml ph (hsR (h0' :: hr)) :: [.ml h0'.2.1 (h0'.2.2.ns.map D.int), .ml pk (colW 0 (endsN (farI fb ru high xs) m)), .ml pc []]) := by
      refine Wf.thaw w1 (q := ph) (ds := hsR (h0' :: hr)) List.mem_cons_self hsR_flat (fun f hf => ?_) (.refl _) (fun e he => ?_)
      · simp only [List.mem_cons, List.not_mem_nil, or_false] at hf
        rcases hf with rfl | rfl | rfl | rfl | rfl
        · refine offT (by simp) fun d hd => ?_
          simp only [List.mem_cons, List.not_mem_nil, or_false] at hd
          rcases hd with rfl | rfl | rfl
          · rfl
          · cases h0'.2.2.st <;> rfl
          · rfl
        · exact offT (by simp) fun d hd => by
            simp only [List.mem_cons, List.not_mem_nil, or_false] at hd
            rcases hd with rfl | rfl <;> rfl
        · rw [epr]
          exact offO (by rw [← epr]; simp) hfsp
        · exact offT (by simp) (row_flat ok)
        · rw [← eod]
          exact off_hs (by simp) (fun f hf => by simp [hf]) ap3 ap2
      · simp only [List.mem_cons, List.not_mem_nil, or_false] at he
        rcases he with rfl | rfl | rfl
        · exact offML fun d hd => .inl (by obtain ⟨n, _, rfl⟩ := List.mem_map.mp hd; rfl)
        · exact offML colW_flat
        · exact offML fun d hd => nomatch hd
    clear w1
    wtm_at "n"
    have hnl : (h0'.2.2.ns.map D.int).length ≤ 100000 := by
      rw [List.length_map]
      have := (hx h0'.2.2 (by rw [← ehs]; exact List.mem_map_of_mem List.mem_cons_self)).nl
      omega
    refine n_ixLr w (.ml List.mem_cons_self) (show atI (hsR (h0' :: hr)) 0 = some (D.ref h0'.1) from atI_head) ?_
    wtm_at "n"
    rename_i H10 w
    refine n_pop w (by wtm_at "foc") (by simp [hsR]) fun y H11 w => ?_
    wtm_at "n"
    refine n_lcopied w (by wtm_at "rk") (by omega) fun ph2 H12 w => ?_
    wtm_at "n"
    refine n_evens w (by wtm_at "rk") (by wtm_at "rk") c0 c1 b0 b1 ru0 ru1 hx hl120 fun t2 pc2 H13 high2 g0 g1 gg gng w => ?_
    have eh : high2 = high := goes_uniq hx b0 ru0 gg hg gng hng g0 h0
    subst eh
    wtm_at "n"
    refine n_newT (ds := [.int high2, .ref pk]) w (by wtm_at "kna") (by simp) fun t3 H14 w => ?_
    wtm_at "n"
    refine s_eqT (I := H14) (M := []) Fs.W.self (w.deep2 (l := high2) (p := pc2) (ds := colW 0 (endsN (farI fb ru high2 xs) m)) (.mem (by simp)) (by simp)) (w.deep2 (l := high2) (p := pk) (.mem (by simp)) (by simp)) ((NB.tup (k := 2) fun d hd => by
      simp only [List.mem_cons, List.not_mem_nil, or_false] at hd
      rcases hd with rfl | rfl
      · exact .int _
      · rw [colW_eq]
        exact NB.list (k := 1) fun x _ => (NB.fr (k := 0) : NB 1 (fr _ _))).mono (by decide)) ?_
    exact k _
end
theorem all_mk {l : PySem.W.OpenLaw} {w : World} {K : PySem.W.Frag} {h : Heap} {mg : Str → Option Value} {fa : Addr} (X : K.In h) (G : h.Ns mainGlobals mg) (hfa : mg "law" = some (.ref fa))
    {f_is_whole : Addr} {od_is_whole an_is_whole : Option Addr} {sl_is_whole : Array (Option Value)} {oc_is_whole kV_is_whole dc_is_whole pm_is_whole cd_is_whole ct_is_whole : Value}
    (a_is_whole : PySem.W.nsIn K mainGlobals "is_whole" = some (some (.ref f_is_whole)))
    (l_is_whole : K.lookup f_is_whole = some ⟨oc_is_whole, od_is_whole, .func (PySem.W.fnOf "is_whole" "is_whole" (defArgs s_is_whole) (defBody s_is_whole) (defScope s_is_whole) .none kV_is_whole dc_is_whole pm_is_whole an_is_whole cd_is_whole ct_is_whole), sl_is_whole⟩)
    (cc_is_whole : PySem.W.codeIn K cd_is_whole "is_whole" = true) (k_is_whole : PySem.W.keepIn K (.ref f_is_whole) = true)
    {f_is_length : Addr} {od_is_length an_is_length : Option Addr} {sl_is_length : Array (Option Value)} {oc_is_length kV_is_length dc_is_length pm_is_length cd_is_length ct_is_length : Value}
    (a_is_length : PySem.W.nsIn K mainGlobals "is_length" = some (some (.ref f_is_length)))
    (l_is_length : K.lookup f_is_length = some ⟨oc_is_length, od_is_length, .func (PySem.W.fnOf "is_length" "is_length" (defArgs s_is_length) (defBody s_is_length) (defScope s_is_length) .none kV_is_length dc_is_length pm_is_length an_is_length cd_is_length ct_is_length), sl_is_length⟩)
    (cc_is_length : PySem.W.codeIn K cd_is_length "is_length" = true) (k_is_length : PySem.W.keepIn K (.ref f_is_length) = true)
    {f_is_small : Addr} {od_is_small an_is_small : Option Addr} {sl_is_small : Array (Option Value)} {oc_is_small kV_is_small dc_is_small pm_is_small cd_is_small ct_is_small : Value}
    (a_is_small : PySem.W.nsIn K mainGlobals "is_small" = some (some (.ref f_is_small)))
    (l_is_small : K.lookup f_is_small = some ⟨oc_is_small, od_is_small, .func (PySem.W.fnOf "is_small" "is_small" (defArgs s_is_small) (defBody s_is_small) (defScope s_is_small) .none kV_is_small dc_is_small pm_is_small an_is_small cd_is_small ct_is_small), sl_is_small⟩)
    (cc_is_small : PySem.W.codeIn K cd_is_small "is_small" = true) (k_is_small : PySem.W.keepIn K (.ref f_is_small) = true)
    {f_is_weight : Addr} {od_is_weight an_is_weight : Option Addr} {sl_is_weight : Array (Option Value)} {oc_is_weight kV_is_weight dc_is_weight pm_is_weight cd_is_weight ct_is_weight : Value}
    (a_is_weight : PySem.W.nsIn K mainGlobals "is_weight" = some (some (.ref f_is_weight)))
    (l_is_weight : K.lookup f_is_weight = some ⟨oc_is_weight, od_is_weight, .func (PySem.W.fnOf "is_weight" "is_weight" (defArgs s_is_weight) (defBody s_is_weight) (defScope s_is_weight) .none kV_is_weight dc_is_weight pm_is_weight an_is_weight cd_is_weight ct_is_weight), sl_is_weight⟩)
    (cc_is_weight : PySem.W.codeIn K cd_is_weight "is_weight" = true) (k_is_weight : PySem.W.keepIn K (.ref f_is_weight) = true)
    {C_Part : Addr} (aC_Part : PySem.W.nsIn K mainGlobals "Part" = some (some (.ref C_Part)))
    (pg_Part : PySem.W.plainGet K C_Part Str.empty = true)
    (hd_Part : PySem.W.hasDictIn K C_Part = true)
    (po_Part : PySem.W.plainOver K C_Part = true)
    (sa_Part : PySem.W.findIn K (.ref C_Part) "__setattr__" = some (some (.builtin "object.__setattr__")))
    (mk_Part : PySem.W.makesIn K C_Part = true)
    (kc_Part : PySem.W.keepIn K (.ref C_Part) = true)
    (ha_Part : PySem.W.findIn K (.ref C_Part) "__class__" = some (some (.builtin "object.__class__")))
    (hn_Part : PySem.W.specialIn K (.builtin "object.__class__") "__get__" = some (some (.builtin "getset_descriptor.__get__")))
    (htk_Part : PySem.W.takesIn K (.builtin "object.__class__") = some true)
    (hm_Part : PySem.W.mroIn K C_Part (.type "object") = some true)
    (nf_Part_base : PySem.W.findIn K (.ref C_Part) "base" = some none)
    (nf_Part_least : PySem.W.findIn K (.ref C_Part) "least" = some none)
    (nf_Part_greatest : PySem.W.findIn K (.ref C_Part) "greatest" = some none)
    (nf_Part_grow : PySem.W.findIn K (.ref C_Part) "grow" = some none)
    (nf_Part_shrink : PySem.W.findIn K (.ref C_Part) "shrink" = some none)
    {T_Part___init__ : Addr} {to_Part___init__ : Value} {td_Part___init__ : Option Addr} {tn_Part___init__ : Nat} {ts_Part___init__ : Array (Option Value)} {tk_Part___init___0 tk_Part___init___2 tk_Part___init___3 : Tok}
    {f_Part___init__ : Addr} {od_Part___init__ an_Part___init__ : Option Addr} {sl_Part___init__ : Array (Option Value)} {oc_Part___init__ kV_Part___init__ dc_Part___init__ pm_Part___init__ cd_Part___init__ ct_Part___init__ : Value}
    (a_Part___init__ : PySem.W.findIn K (.ref C_Part) "__init__" = some (some (.ref f_Part___init__))) (i_Part___init__ : PySem.W.isFn K (.ref f_Part___init__) = true)
    (l_Part___init__ : K.lookup f_Part___init__ = some ⟨oc_Part___init__, od_Part___init__, .func (PySem.W.fnOf "__init__" "Part.__init__" (defArgs s_Part___init__) (defBody s_Part___init__) (defScope s_Part___init__) (.ref T_Part___init__) kV_Part___init__ dc_Part___init__ pm_Part___init__ an_Part___init__ cd_Part___init__ ct_Part___init__), sl_Part___init__⟩)
    (cc_Part___init__ : PySem.W.codeIn K cd_Part___init__ "Part.__init__" = true) (k_Part___init__ : PySem.W.keepIn K (.ref f_Part___init__) = true)
    (dt_Part___init__ : K.lookup T_Part___init__ = some ⟨to_Part___init__, td_Part___init__, .seq [Value.int 0 tk_Part___init___0, Value.none, Value.int 1 tk_Part___init___2, Value.int 1 tk_Part___init___3].toArray tn_Part___init__, ts_Part___init__⟩)
    {f_is_strip : Addr} {od_is_strip an_is_strip : Option Addr} {sl_is_strip : Array (Option Value)} {oc_is_strip kV_is_strip dc_is_strip pm_is_strip cd_is_strip ct_is_strip : Value}
    (a_is_strip : PySem.W.nsIn K mainGlobals "is_strip" = some (some (.ref f_is_strip)))
    (l_is_strip : K.lookup f_is_strip = some ⟨oc_is_strip, od_is_strip, .func (PySem.W.fnOf "is_strip" "is_strip" (defArgs s_is_strip) (defBody s_is_strip) (defScope s_is_strip) .none kV_is_strip dc_is_strip pm_is_strip an_is_strip cd_is_strip ct_is_strip), sl_is_strip⟩)
    (cc_is_strip : PySem.W.codeIn K cd_is_strip "is_strip" = true) (k_is_strip : PySem.W.keepIn K (.ref f_is_strip) = true)
    {f_look_at_strips : Addr} {od_look_at_strips an_look_at_strips : Option Addr} {sl_look_at_strips : Array (Option Value)} {oc_look_at_strips kV_look_at_strips dc_look_at_strips pm_look_at_strips cd_look_at_strips ct_look_at_strips : Value}
    (a_look_at_strips : PySem.W.nsIn K mainGlobals "look_at_strips" = some (some (.ref f_look_at_strips)))
    (l_look_at_strips : K.lookup f_look_at_strips = some ⟨oc_look_at_strips, od_look_at_strips, .func (PySem.W.fnOf "look_at_strips" "look_at_strips" (defArgs s_look_at_strips) (defBody s_look_at_strips) (defScope s_look_at_strips) .none kV_look_at_strips dc_look_at_strips pm_look_at_strips an_look_at_strips cd_look_at_strips ct_look_at_strips), sl_look_at_strips⟩)
    (cc_look_at_strips : PySem.W.codeIn K cd_look_at_strips "look_at_strips" = true) (k_look_at_strips : PySem.W.keepIn K (.ref f_look_at_strips) = true)
    {f_foot_by : Addr} {od_foot_by an_foot_by : Option Addr} {sl_foot_by : Array (Option Value)} {oc_foot_by kV_foot_by dc_foot_by pm_foot_by cd_foot_by ct_foot_by : Value}
    (a_foot_by : PySem.W.nsIn K mainGlobals "foot_by" = some (some (.ref f_foot_by)))
    (l_foot_by : K.lookup f_foot_by = some ⟨oc_foot_by, od_foot_by, .func (PySem.W.fnOf "foot_by" "foot_by" (defArgs s_foot_by) (defBody s_foot_by) (defScope s_foot_by) .none kV_foot_by dc_foot_by pm_foot_by an_foot_by cd_foot_by ct_foot_by), sl_foot_by⟩)
    (cc_foot_by : PySem.W.codeIn K cd_foot_by "foot_by" = true) (k_foot_by : PySem.W.keepIn K (.ref f_foot_by) = true)
    {f_foot_of : Addr} {od_foot_of an_foot_of : Option Addr} {sl_foot_of : Array (Option Value)} {oc_foot_of kV_foot_of dc_foot_of pm_foot_of cd_foot_of ct_foot_of : Value}
    (a_foot_of : PySem.W.nsIn K mainGlobals "foot_of" = some (some (.ref f_foot_of)))
    (l_foot_of : K.lookup f_foot_of = some ⟨oc_foot_of, od_foot_of, .func (PySem.W.fnOf "foot_of" "foot_of" (defArgs s_foot_of) (defBody s_foot_of) (defScope s_foot_of) .none kV_foot_of dc_foot_of pm_foot_of an_foot_of cd_foot_of ct_foot_of), sl_foot_of⟩)
    (cc_foot_of : PySem.W.codeIn K cd_foot_of "foot_of" = true) (k_foot_of : PySem.W.keepIn K (.ref f_foot_of) = true)
    {f_look_at_many : Addr} {od_look_at_many an_look_at_many : Option Addr} {sl_look_at_many : Array (Option Value)} {oc_look_at_many kV_look_at_many dc_look_at_many pm_look_at_many cd_look_at_many ct_look_at_many : Value}
    (a_look_at_many : PySem.W.nsIn K mainGlobals "look_at_many" = some (some (.ref f_look_at_many)))
    (l_look_at_many : K.lookup f_look_at_many = some ⟨oc_look_at_many, od_look_at_many, .func (PySem.W.fnOf "look_at_many" "look_at_many" (defArgs s_look_at_many) (defBody s_look_at_many) (defScope s_look_at_many) .none kV_look_at_many dc_look_at_many pm_look_at_many an_look_at_many cd_look_at_many ct_look_at_many), sl_look_at_many⟩)
    (cc_look_at_many : PySem.W.codeIn K cd_look_at_many "look_at_many" = true) (k_look_at_many : PySem.W.keepIn K (.ref f_look_at_many) = true)
    {f_look_at_rest : Addr} {od_look_at_rest an_look_at_rest : Option Addr} {sl_look_at_rest : Array (Option Value)} {oc_look_at_rest kV_look_at_rest dc_look_at_rest pm_look_at_rest cd_look_at_rest ct_look_at_rest : Value}
    (a_look_at_rest : PySem.W.nsIn K mainGlobals "look_at_rest" = some (some (.ref f_look_at_rest)))
    (l_look_at_rest : K.lookup f_look_at_rest = some ⟨oc_look_at_rest, od_look_at_rest, .func (PySem.W.fnOf "look_at_rest" "look_at_rest" (defArgs s_look_at_rest) (defBody s_look_at_rest) (defScope s_look_at_rest) .none kV_look_at_rest dc_look_at_rest pm_look_at_rest an_look_at_rest cd_look_at_rest ct_look_at_rest), sl_look_at_rest⟩)
    (cc_look_at_rest : PySem.W.codeIn K cd_look_at_rest "look_at_rest" = true) (k_look_at_rest : PySem.W.keepIn K (.ref f_look_at_rest) = true)
    {f_used_of : Addr} {od_used_of an_used_of : Option Addr} {sl_used_of : Array (Option Value)} {oc_used_of kV_used_of dc_used_of pm_used_of cd_used_of ct_used_of : Value}
    (a_used_of : PySem.W.nsIn K mainGlobals "used_of" = some (some (.ref f_used_of)))
    (l_used_of : K.lookup f_used_of = some ⟨oc_used_of, od_used_of, .func (PySem.W.fnOf "used_of" "used_of" (defArgs s_used_of) (defBody s_used_of) (defScope s_used_of) .none kV_used_of dc_used_of pm_used_of an_used_of cd_used_of ct_used_of), sl_used_of⟩)
    (cc_used_of : PySem.W.codeIn K cd_used_of "used_of" = true) (k_used_of : PySem.W.keepIn K (.ref f_used_of) = true)
    {f_filled : Addr} {od_filled an_filled : Option Addr} {sl_filled : Array (Option Value)} {oc_filled kV_filled dc_filled pm_filled cd_filled ct_filled : Value}
    (a_filled : PySem.W.nsIn K mainGlobals "filled" = some (some (.ref f_filled)))
    (l_filled : K.lookup f_filled = some ⟨oc_filled, od_filled, .func (PySem.W.fnOf "filled" "filled" (defArgs s_filled) (defBody s_filled) (defScope s_filled) .none kV_filled dc_filled pm_filled an_filled cd_filled ct_filled), sl_filled⟩)
    (cc_filled : PySem.W.codeIn K cd_filled "filled" = true) (k_filled : PySem.W.keepIn K (.ref f_filled) = true)
    {f_ends_of : Addr} {od_ends_of an_ends_of : Option Addr} {sl_ends_of : Array (Option Value)} {oc_ends_of kV_ends_of dc_ends_of pm_ends_of cd_ends_of ct_ends_of : Value}
    (a_ends_of : PySem.W.nsIn K mainGlobals "ends_of" = some (some (.ref f_ends_of)))
    (l_ends_of : K.lookup f_ends_of = some ⟨oc_ends_of, od_ends_of, .func (PySem.W.fnOf "ends_of" "ends_of" (defArgs s_ends_of) (defBody s_ends_of) (defScope s_ends_of) .none kV_ends_of dc_ends_of pm_ends_of an_ends_of cd_ends_of ct_ends_of), sl_ends_of⟩)
    (cc_ends_of : PySem.W.codeIn K cd_ends_of "ends_of" = true) (k_ends_of : PySem.W.keepIn K (.ref f_ends_of) = true)
    {f_reach : Addr} {od_reach an_reach : Option Addr} {sl_reach : Array (Option Value)} {oc_reach kV_reach dc_reach pm_reach cd_reach ct_reach : Value}
    (a_reach : PySem.W.nsIn K mainGlobals "reach" = some (some (.ref f_reach)))
    (l_reach : K.lookup f_reach = some ⟨oc_reach, od_reach, .func (PySem.W.fnOf "reach" "reach" (defArgs s_reach) (defBody s_reach) (defScope s_reach) .none kV_reach dc_reach pm_reach an_reach cd_reach ct_reach), sl_reach⟩)
    (cc_reach : PySem.W.codeIn K cd_reach "reach" = true) (k_reach : PySem.W.keepIn K (.ref f_reach) = true)
    {f_even_columns : Addr} {od_even_columns an_even_columns : Option Addr} {sl_even_columns : Array (Option Value)} {oc_even_columns kV_even_columns dc_even_columns pm_even_columns cd_even_columns ct_even_columns : Value}
    (a_even_columns : PySem.W.nsIn K mainGlobals "even_columns" = some (some (.ref f_even_columns)))
    (l_even_columns : K.lookup f_even_columns = some ⟨oc_even_columns, od_even_columns, .func (PySem.W.fnOf "even_columns" "even_columns" (defArgs s_even_columns) (defBody s_even_columns) (defScope s_even_columns) .none kV_even_columns dc_even_columns pm_even_columns an_even_columns cd_even_columns ct_even_columns), sl_even_columns⟩)
    (cc_even_columns : PySem.W.codeIn K cd_even_columns "even_columns" = true) (k_even_columns : PySem.W.keepIn K (.ref f_even_columns) = true)
    {f__law_bag : Addr} {od__law_bag an__law_bag : Option Addr} {sl__law_bag : Array (Option Value)} {oc__law_bag kV__law_bag dc__law_bag pm__law_bag cd__law_bag ct__law_bag : Value}
    (a__law_bag : PySem.W.nsIn K mainGlobals "_law_bag" = some (some (.ref f__law_bag)))
    (l__law_bag : K.lookup f__law_bag = some ⟨oc__law_bag, od__law_bag, .func (PySem.W.fnOf "_law_bag" "_law_bag" (defArgs s__law_bag) (defBody s__law_bag) (defScope s__law_bag) .none kV__law_bag dc__law_bag pm__law_bag an__law_bag cd__law_bag ct__law_bag), sl__law_bag⟩)
    (cc__law_bag : PySem.W.codeIn K cd__law_bag "_law_bag" = true) (k__law_bag : PySem.W.keepIn K (.ref f__law_bag) = true)
    {f__law_take : Addr} {od__law_take an__law_take : Option Addr} {sl__law_take : Array (Option Value)} {oc__law_take kV__law_take dc__law_take pm__law_take cd__law_take ct__law_take : Value}
    (a__law_take : PySem.W.nsIn K mainGlobals "_law_take" = some (some (.ref f__law_take)))
    (l__law_take : K.lookup f__law_take = some ⟨oc__law_take, od__law_take, .func (PySem.W.fnOf "_law_take" "_law_take" (defArgs s__law_take) (defBody s__law_take) (defScope s__law_take) .none kV__law_take dc__law_take pm__law_take an__law_take cd__law_take ct__law_take), sl__law_take⟩)
    (cc__law_take : PySem.W.codeIn K cd__law_take "_law_take" = true) (k__law_take : PySem.W.keepIn K (.ref f__law_take) = true)
    {f__law_length : Addr} {od__law_length an__law_length : Option Addr} {sl__law_length : Array (Option Value)} {oc__law_length kV__law_length dc__law_length pm__law_length cd__law_length ct__law_length : Value}
    (a__law_length : PySem.W.nsIn K mainGlobals "_law_length" = some (some (.ref f__law_length)))
    (l__law_length : K.lookup f__law_length = some ⟨oc__law_length, od__law_length, .func (PySem.W.fnOf "_law_length" "_law_length" (defArgs s__law_length) (defBody s__law_length) (defScope s__law_length) .none kV__law_length dc__law_length pm__law_length an__law_length cd__law_length ct__law_length), sl__law_length⟩)
    (cc__law_length : PySem.W.codeIn K cd__law_length "_law_length" = true) (k__law_length : PySem.W.keepIn K (.ref f__law_length) = true)
    {f__law_whole : Addr} {od__law_whole an__law_whole : Option Addr} {sl__law_whole : Array (Option Value)} {oc__law_whole kV__law_whole dc__law_whole pm__law_whole cd__law_whole ct__law_whole : Value}
    (a__law_whole : PySem.W.nsIn K mainGlobals "_law_whole" = some (some (.ref f__law_whole)))
    (l__law_whole : K.lookup f__law_whole = some ⟨oc__law_whole, od__law_whole, .func (PySem.W.fnOf "_law_whole" "_law_whole" (defArgs s__law_whole) (defBody s__law_whole) (defScope s__law_whole) .none kV__law_whole dc__law_whole pm__law_whole an__law_whole cd__law_whole ct__law_whole), sl__law_whole⟩)
    (cc__law_whole : PySem.W.codeIn K cd__law_whole "_law_whole" = true) (k__law_whole : PySem.W.keepIn K (.ref f__law_whole) = true)
    {f__law_weight : Addr} {od__law_weight an__law_weight : Option Addr} {sl__law_weight : Array (Option Value)} {oc__law_weight kV__law_weight dc__law_weight pm__law_weight cd__law_weight ct__law_weight : Value}
    (a__law_weight : PySem.W.nsIn K mainGlobals "_law_weight" = some (some (.ref f__law_weight)))
    (l__law_weight : K.lookup f__law_weight = some ⟨oc__law_weight, od__law_weight, .func (PySem.W.fnOf "_law_weight" "_law_weight" (defArgs s__law_weight) (defBody s__law_weight) (defScope s__law_weight) .none kV__law_weight dc__law_weight pm__law_weight an__law_weight cd__law_weight ct__law_weight), sl__law_weight⟩)
    (cc__law_weight : PySem.W.codeIn K cd__law_weight "_law_weight" = true) (k__law_weight : PySem.W.keepIn K (.ref f__law_weight) = true)
    {f__law_part : Addr} {od__law_part an__law_part : Option Addr} {sl__law_part : Array (Option Value)} {oc__law_part kV__law_part dc__law_part pm__law_part cd__law_part ct__law_part : Value}
    (a__law_part : PySem.W.nsIn K mainGlobals "_law_part" = some (some (.ref f__law_part)))
    (l__law_part : K.lookup f__law_part = some ⟨oc__law_part, od__law_part, .func (PySem.W.fnOf "_law_part" "_law_part" (defArgs s__law_part) (defBody s__law_part) (defScope s__law_part) .none kV__law_part dc__law_part pm__law_part an__law_part cd__law_part ct__law_part), sl__law_part⟩)
    (cc__law_part : PySem.W.codeIn K cd__law_part "_law_part" = true) (k__law_part : PySem.W.keepIn K (.ref f__law_part) = true)
    {f__law_strip : Addr} {od__law_strip an__law_strip : Option Addr} {sl__law_strip : Array (Option Value)} {oc__law_strip kV__law_strip dc__law_strip pm__law_strip cd__law_strip ct__law_strip : Value}
    (a__law_strip : PySem.W.nsIn K mainGlobals "_law_strip" = some (some (.ref f__law_strip)))
    (l__law_strip : K.lookup f__law_strip = some ⟨oc__law_strip, od__law_strip, .func (PySem.W.fnOf "_law_strip" "_law_strip" (defArgs s__law_strip) (defBody s__law_strip) (defScope s__law_strip) .none kV__law_strip dc__law_strip pm__law_strip an__law_strip cd__law_strip ct__law_strip), sl__law_strip⟩)
    (cc__law_strip : PySem.W.codeIn K cd__law_strip "_law_strip" = true) (k__law_strip : PySem.W.keepIn K (.ref f__law_strip) = true)
    {f__law_strips : Addr} {od__law_strips an__law_strips : Option Addr} {sl__law_strips : Array (Option Value)} {oc__law_strips kV__law_strips dc__law_strips pm__law_strips cd__law_strips ct__law_strips : Value}
    (a__law_strips : PySem.W.nsIn K mainGlobals "_law_strips" = some (some (.ref f__law_strips)))
    (l__law_strips : K.lookup f__law_strips = some ⟨oc__law_strips, od__law_strips, .func (PySem.W.fnOf "_law_strips" "_law_strips" (defArgs s__law_strips) (defBody s__law_strips) (defScope s__law_strips) .none kV__law_strips dc__law_strips pm__law_strips an__law_strips cd__law_strips ct__law_strips), sl__law_strips⟩)
    (cc__law_strips : PySem.W.codeIn K cd__law_strips "_law_strips" = true) (k__law_strips : PySem.W.keepIn K (.ref f__law_strips) = true)
    {f__law_copied : Addr} {od__law_copied an__law_copied : Option Addr} {sl__law_copied : Array (Option Value)} {oc__law_copied kV__law_copied dc__law_copied pm__law_copied cd__law_copied ct__law_copied : Value}
    (a__law_copied : PySem.W.nsIn K mainGlobals "_law_copied" = some (some (.ref f__law_copied)))
    (l__law_copied : K.lookup f__law_copied = some ⟨oc__law_copied, od__law_copied, .func (PySem.W.fnOf "_law_copied" "_law_copied" (defArgs s__law_copied) (defBody s__law_copied) (defScope s__law_copied) .none kV__law_copied dc__law_copied pm__law_copied an__law_copied cd__law_copied ct__law_copied), sl__law_copied⟩)
    (cc__law_copied : PySem.W.codeIn K cd__law_copied "_law_copied" = true) (k__law_copied : PySem.W.keepIn K (.ref f__law_copied) = true)
    {f__law_foot : Addr} {od__law_foot an__law_foot : Option Addr} {sl__law_foot : Array (Option Value)} {oc__law_foot kV__law_foot dc__law_foot pm__law_foot cd__law_foot ct__law_foot : Value}
    (a__law_foot : PySem.W.nsIn K mainGlobals "_law_foot" = some (some (.ref f__law_foot)))
    (l__law_foot : K.lookup f__law_foot = some ⟨oc__law_foot, od__law_foot, .func (PySem.W.fnOf "_law_foot" "_law_foot" (defArgs s__law_foot) (defBody s__law_foot) (defScope s__law_foot) .none kV__law_foot dc__law_foot pm__law_foot an__law_foot cd__law_foot ct__law_foot), sl__law_foot⟩)
    (cc__law_foot : PySem.W.codeIn K cd__law_foot "_law_foot" = true) (k__law_foot : PySem.W.keepIn K (.ref f__law_foot) = true)
    {f__law_solid : Addr} {od__law_solid an__law_solid : Option Addr} {sl__law_solid : Array (Option Value)} {oc__law_solid kV__law_solid dc__law_solid pm__law_solid cd__law_solid ct__law_solid : Value}
    (a__law_solid : PySem.W.nsIn K mainGlobals "_law_solid" = some (some (.ref f__law_solid)))
    (l__law_solid : K.lookup f__law_solid = some ⟨oc__law_solid, od__law_solid, .func (PySem.W.fnOf "_law_solid" "_law_solid" (defArgs s__law_solid) (defBody s__law_solid) (defScope s__law_solid) .none kV__law_solid dc__law_solid pm__law_solid an__law_solid cd__law_solid ct__law_solid), sl__law_solid⟩)
    (cc__law_solid : PySem.W.codeIn K cd__law_solid "_law_solid" = true) (k__law_solid : PySem.W.keepIn K (.ref f__law_solid) = true)
    {f__law_unit : Addr} {od__law_unit an__law_unit : Option Addr} {sl__law_unit : Array (Option Value)} {oc__law_unit kV__law_unit dc__law_unit pm__law_unit cd__law_unit ct__law_unit : Value}
    (a__law_unit : PySem.W.nsIn K mainGlobals "_law_unit" = some (some (.ref f__law_unit)))
    (l__law_unit : K.lookup f__law_unit = some ⟨oc__law_unit, od__law_unit, .func (PySem.W.fnOf "_law_unit" "_law_unit" (defArgs s__law_unit) (defBody s__law_unit) (defScope s__law_unit) .none kV__law_unit dc__law_unit pm__law_unit an__law_unit cd__law_unit ct__law_unit), sl__law_unit⟩)
    (cc__law_unit : PySem.W.codeIn K cd__law_unit "_law_unit" = true) (k__law_unit : PySem.W.keepIn K (.ref f__law_unit) = true)
    {f__law_feather : Addr} {od__law_feather an__law_feather : Option Addr} {sl__law_feather : Array (Option Value)} {oc__law_feather kV__law_feather dc__law_feather pm__law_feather cd__law_feather ct__law_feather : Value}
    (a__law_feather : PySem.W.nsIn K mainGlobals "_law_feather" = some (some (.ref f__law_feather)))
    (l__law_feather : K.lookup f__law_feather = some ⟨oc__law_feather, od__law_feather, .func (PySem.W.fnOf "_law_feather" "_law_feather" (defArgs s__law_feather) (defBody s__law_feather) (defScope s__law_feather) .none kV__law_feather dc__law_feather pm__law_feather an__law_feather cd__law_feather ct__law_feather), sl__law_feather⟩)
    (cc__law_feather : PySem.W.codeIn K cd__law_feather "_law_feather" = true) (k__law_feather : PySem.W.keepIn K (.ref f__law_feather) = true)
    {f__law_used : Addr} {od__law_used an__law_used : Option Addr} {sl__law_used : Array (Option Value)} {oc__law_used kV__law_used dc__law_used pm__law_used cd__law_used ct__law_used : Value}
    (a__law_used : PySem.W.nsIn K mainGlobals "_law_used" = some (some (.ref f__law_used)))
    (l__law_used : K.lookup f__law_used = some ⟨oc__law_used, od__law_used, .func (PySem.W.fnOf "_law_used" "_law_used" (defArgs s__law_used) (defBody s__law_used) (defScope s__law_used) .none kV__law_used dc__law_used pm__law_used an__law_used cd__law_used ct__law_used), sl__law_used⟩)
    (cc__law_used : PySem.W.codeIn K cd__law_used "_law_used" = true) (k__law_used : PySem.W.keepIn K (.ref f__law_used) = true)
    {f__law_filled : Addr} {od__law_filled an__law_filled : Option Addr} {sl__law_filled : Array (Option Value)} {oc__law_filled kV__law_filled dc__law_filled pm__law_filled cd__law_filled ct__law_filled : Value}
    (a__law_filled : PySem.W.nsIn K mainGlobals "_law_filled" = some (some (.ref f__law_filled)))
    (l__law_filled : K.lookup f__law_filled = some ⟨oc__law_filled, od__law_filled, .func (PySem.W.fnOf "_law_filled" "_law_filled" (defArgs s__law_filled) (defBody s__law_filled) (defScope s__law_filled) .none kV__law_filled dc__law_filled pm__law_filled an__law_filled cd__law_filled ct__law_filled), sl__law_filled⟩)
    (cc__law_filled : PySem.W.codeIn K cd__law_filled "_law_filled" = true) (k__law_filled : PySem.W.keepIn K (.ref f__law_filled) = true)
    {f__law_numbers_well : Addr} {od__law_numbers_well an__law_numbers_well : Option Addr} {sl__law_numbers_well : Array (Option Value)} {oc__law_numbers_well kV__law_numbers_well dc__law_numbers_well pm__law_numbers_well cd__law_numbers_well ct__law_numbers_well : Value}
    (a__law_numbers_well : PySem.W.nsIn K mainGlobals "_law_numbers_well" = some (some (.ref f__law_numbers_well)))
    (l__law_numbers_well : K.lookup f__law_numbers_well = some ⟨oc__law_numbers_well, od__law_numbers_well, .func (PySem.W.fnOf "_law_numbers_well" "_law_numbers_well" (defArgs s__law_numbers_well) (defBody s__law_numbers_well) (defScope s__law_numbers_well) .none kV__law_numbers_well dc__law_numbers_well pm__law_numbers_well an__law_numbers_well cd__law_numbers_well ct__law_numbers_well), sl__law_numbers_well⟩)
    (cc__law_numbers_well : PySem.W.codeIn K cd__law_numbers_well "_law_numbers_well" = true) (k__law_numbers_well : PySem.W.keepIn K (.ref f__law_numbers_well) = true)
    {f__law_columns : Addr} {od__law_columns an__law_columns : Option Addr} {sl__law_columns : Array (Option Value)} {oc__law_columns kV__law_columns dc__law_columns pm__law_columns cd__law_columns ct__law_columns : Value}
    (a__law_columns : PySem.W.nsIn K mainGlobals "_law_columns" = some (some (.ref f__law_columns)))
    (l__law_columns : K.lookup f__law_columns = some ⟨oc__law_columns, od__law_columns, .func (PySem.W.fnOf "_law_columns" "_law_columns" (defArgs s__law_columns) (defBody s__law_columns) (defScope s__law_columns) .none kV__law_columns dc__law_columns pm__law_columns an__law_columns cd__law_columns ct__law_columns), sl__law_columns⟩)
    (cc__law_columns : PySem.W.codeIn K cd__law_columns "_law_columns" = true) (k__law_columns : PySem.W.keepIn K (.ref f__law_columns) = true)
    {f__law_high : Addr} {od__law_high an__law_high : Option Addr} {sl__law_high : Array (Option Value)} {oc__law_high kV__law_high dc__law_high pm__law_high cd__law_high ct__law_high : Value}
    (a__law_high : PySem.W.nsIn K mainGlobals "_law_high" = some (some (.ref f__law_high)))
    (l__law_high : K.lookup f__law_high = some ⟨oc__law_high, od__law_high, .func (PySem.W.fnOf "_law_high" "_law_high" (defArgs s__law_high) (defBody s__law_high) (defScope s__law_high) .none kV__law_high dc__law_high pm__law_high an__law_high cd__law_high ct__law_high), sl__law_high⟩)
    (cc__law_high : PySem.W.codeIn K cd__law_high "_law_high" = true) (k__law_high : PySem.W.keepIn K (.ref f__law_high) = true)
    {f__law_even_well : Addr} {od__law_even_well an__law_even_well : Option Addr} {sl__law_even_well : Array (Option Value)} {oc__law_even_well kV__law_even_well dc__law_even_well pm__law_even_well cd__law_even_well ct__law_even_well : Value}
    (a__law_even_well : PySem.W.nsIn K mainGlobals "_law_even_well" = some (some (.ref f__law_even_well)))
    (l__law_even_well : K.lookup f__law_even_well = some ⟨oc__law_even_well, od__law_even_well, .func (PySem.W.fnOf "_law_even_well" "_law_even_well" (defArgs s__law_even_well) (defBody s__law_even_well) (defScope s__law_even_well) .none kV__law_even_well dc__law_even_well pm__law_even_well an__law_even_well cd__law_even_well ct__law_even_well), sl__law_even_well⟩)
    (cc__law_even_well : PySem.W.codeIn K cd__law_even_well "_law_even_well" = true) (k__law_even_well : PySem.W.keepIn K (.ref f__law_even_well) = true)
    {f_law : Addr} {od_law an_law : Option Addr} {sl_law : Array (Option Value)} {oc_law kV_law dc_law pm_law cd_law ct_law : Value}
    (a_law : PySem.W.nsIn K mainGlobals "law" = some (some (.ref f_law)))
    (l_law : K.lookup f_law = some ⟨oc_law, od_law, .func (PySem.W.fnOf "law" "law" (defArgs s_law) (defBody s_law) (defScope s_law) .none kV_law dc_law pm_law an_law cd_law ct_law), sl_law⟩)
    (cc_law : PySem.W.codeIn K cd_law "law" = true) (k_law : PySem.W.keepIn K (.ref f_law) = true)
    {C_Wrong : Addr} (aC_Wrong : PySem.W.nsIn K mainGlobals "Wrong" = some (some (.ref C_Wrong)))
    (ek_Wrong : PySem.W.keepIn K (.ref C_Wrong) = true)
    (eb_Wrong : PySem.W.subIn K (.ref C_Wrong) (.type "BaseException") = some true)
    (et_Wrong : PySem.W.typeIn K (.ref C_Wrong) = some (.type "type"))
    (ic_Wrong : PySem.W.isClsIn K C_Wrong = true)
    {C_FairError : Addr} (aC_FairError : PySem.W.nsIn K mainGlobals "FairError" = some (some (.ref C_FairError)))
    (ek_FairError : PySem.W.keepIn K (.ref C_FairError) = true)
    (eb_FairError : PySem.W.subIn K (.ref C_FairError) (.type "BaseException") = some true)
    (et_FairError : PySem.W.typeIn K (.ref C_FairError) = some (.type "type"))
    (ic_FairError : PySem.W.isClsIn K C_FairError = true)
    (bsp : PySem.W.specialIn K (.ref C_FairError) "__getattribute__" = some (some (.builtin "type.__getattribute__"))) (brd : PySem.W.readsIn K C_FairError (.type "type") = true) (bat : PySem.W.findCls K (.ref C_FairError) (.type "type") "__init__" = some (.val (.builtin "ValueError.__init__")))
    {nm_Wrong qn_Wrong : Str} {N_Wrong : Addr} {bs_Wrong : List Value} {sn_Wrong : List Str} {sub_Wrong : List Value} {ab_Wrong : Bool} {col_Wrong : Option Bool} {dd_Wrong : Option Addr} {m0_Wrong m1_Wrong m2_Wrong m3_Wrong m5_Wrong : Option Value}
    (xL_Wrong : K.lookup C_Wrong = some (excClassObj nm_Wrong qn_Wrong C_Wrong N_Wrong bs_Wrong [.ref C_FairError, .type "ValueError", .type "Exception", .type "BaseException", .type "object"] true sn_Wrong sub_Wrong ab_Wrong col_Wrong dd_Wrong m0_Wrong m1_Wrong m2_Wrong m3_Wrong m5_Wrong "ValueError.__new__"))
    (xs_Wrong : PySem.W.findIn K (.ref C_Wrong) "__setattr__" = some (some (.builtin "object.__setattr__")))
    (nb_Wrong : PySem.W.findIn K (.ref C_Wrong) "at" = some none)
    {f_Wrong___init__ : Addr} {od_Wrong___init__ an_Wrong___init__ : Option Addr} {sl_Wrong___init__ : Array (Option Value)} {oc_Wrong___init__ kV_Wrong___init__ dc_Wrong___init__ pm_Wrong___init__ cd_Wrong___init__ ct_Wrong___init__ : Value}
    (a_Wrong___init__ : PySem.W.findIn K (.ref C_Wrong) "__init__" = some (some (.ref f_Wrong___init__))) (t1_Wrong : PySem.W.typeIn K (.ref f_Wrong___init__) = some (.type "function"))
    (l_Wrong___init__ : K.lookup f_Wrong___init__ = some ⟨oc_Wrong___init__, od_Wrong___init__, .func (PySem.W.fnOf "__init__" "Wrong.__init__" (defArgs s_Wrong___init__) (defBody s_Wrong___init__) (defScope s_Wrong___init__) .none kV_Wrong___init__ dc_Wrong___init__ pm_Wrong___init__ an_Wrong___init__ cd_Wrong___init__ ct_Wrong___init__), sl_Wrong___init__⟩)
    (cc_Wrong___init__ : PySem.W.codeIn K cd_Wrong___init__ "Wrong.__init__" = true) (k_Wrong___init__ : PySem.W.keepIn K (.ref f_Wrong___init__) = true)
    (z_len : PySem.W.nsIn K mainGlobals "len" = some none)
    (z_abs : PySem.W.nsIn K mainGlobals "abs" = some none)
    (z_isinstance : PySem.W.nsIn K mainGlobals "isinstance" = some none)
    (z_min : PySem.W.nsIn K mainGlobals "min" = some none)
    (z_max : PySem.W.nsIn K mainGlobals "max" = some none)
    (z_sum : PySem.W.nsIn K mainGlobals "sum" = some none)
    (z_sorted : PySem.W.nsIn K mainGlobals "sorted" = some none)
    (z_range : PySem.W.nsIn K mainGlobals "range" = some none)
    (z_zip : PySem.W.nsIn K mainGlobals "zip" = some none)
    (z_enumerate : PySem.W.nsIn K mainGlobals "enumerate" = some none)
    (z_reversed : PySem.W.nsIn K mainGlobals "reversed" = some none)
    (z_int : PySem.W.nsIn K mainGlobals "int" = some none)
    (z_bool : PySem.W.nsIn K mainGlobals "bool" = some none)
    (z_tuple : PySem.W.nsIn K mainGlobals "tuple" = some none)
    (z_list : PySem.W.nsIn K mainGlobals "list" = some none)
    (z_str : PySem.W.nsIn K mainGlobals "str" = some none)
    (z_dict : PySem.W.nsIn K mainGlobals "dict" = some none)
    (z_ValueError : PySem.W.nsIn K mainGlobals "ValueError" = some none)
    (z_set : PySem.W.nsIn K mainGlobals "set" = some none)
    (z_any : PySem.W.nsIn K mainGlobals "any" = some none)
    (z_all : PySem.W.nsIn K mainGlobals "all" = some none)
    {t_LENGTH : Tok} (n_LENGTH : PySem.W.nsIn K mainGlobals "LENGTH" = some (some (.int 1000000000000 t_LENGTH)))
    {t_SMALL : Tok} (n_SMALL : PySem.W.nsIn K mainGlobals "SMALL" = some (some (.int 1000000 t_SMALL)))
    {t_WEIGHT : Tok} (n_WEIGHT : PySem.W.nsIn K mainGlobals "WEIGHT" = some (some (.int 1000 t_WEIGHT)))
    {t_MOST_STRIPS : Tok} (n_MOST_STRIPS : PySem.W.nsIn K mainGlobals "MOST_STRIPS" = some (some (.int 120 t_MOST_STRIPS)))
    {t_MOST_NOTES : Tok} (n_MOST_NOTES : PySem.W.nsIn K mainGlobals "MOST_NOTES" = some (some (.int 60 t_MOST_NOTES)))
    {t_MOST : Tok} (n_MOST : PySem.W.nsIn K mainGlobals "MOST" = some (some (.int 24 t_MOST)))
    : ∃ fd : FuncData, (∀ (s : Shared) (v : Value), BindsTo s fd ⟨[v], []⟩ [("_law_script", v)]) ∧ ∀ base : Heap, K.In base → base.Ns mainGlobals mg → FnOk l.prog w K mg base CX0 6 fa fd ["_law_script"] (sp_law K) := by
  have e := hfa.symm.trans (PySem.W.mg_of X G a_law)
  cases e
  have B : Bn mg := ⟨PySem.W.mg_none_of X G z_len, PySem.W.mg_none_of X G z_abs, PySem.W.mg_none_of X G z_isinstance, PySem.W.mg_none_of X G z_min, PySem.W.mg_none_of X G z_max, PySem.W.mg_none_of X G z_sum, PySem.W.mg_none_of X G z_sorted, PySem.W.mg_none_of X G z_range, PySem.W.mg_none_of X G z_zip, PySem.W.mg_none_of X G z_enumerate, PySem.W.mg_none_of X G z_reversed, PySem.W.mg_none_of X G z_int, PySem.W.mg_none_of X G z_bool, PySem.W.mg_none_of X G z_tuple, PySem.W.mg_none_of X G z_list, PySem.W.mg_none_of X G z_str, PySem.W.mg_none_of X G z_dict, PySem.W.mg_none_of X G z_ValueError, PySem.W.mg_none_of X G z_set, PySem.W.mg_none_of X G z_any, PySem.W.mg_none_of X G z_all⟩
  have g_LENGTH : ∃ t, mg "LENGTH" = some (.int 1000000000000 t) := ⟨_, PySem.W.mg_of X G n_LENGTH⟩
  have g_SMALL : ∃ t, mg "SMALL" = some (.int 1000000 t) := ⟨_, PySem.W.mg_of X G n_SMALL⟩
  have g_WEIGHT : ∃ t, mg "WEIGHT" = some (.int 1000 t) := ⟨_, PySem.W.mg_of X G n_WEIGHT⟩
  have g_MOST_STRIPS : ∃ t, mg "MOST_STRIPS" = some (.int 120 t) := ⟨_, PySem.W.mg_of X G n_MOST_STRIPS⟩
  have g_MOST_NOTES : ∃ t, mg "MOST_NOTES" = some (.int 60 t) := ⟨_, PySem.W.mg_of X G n_MOST_NOTES⟩
  have g_MOST : ∃ t, mg "MOST" = some (.int 24 t) := ⟨_, PySem.W.mg_of X G n_MOST⟩
  have g_Wrong : mg "Wrong" = some (.ref C_Wrong) := PySem.W.mg_of X G aC_Wrong
  have g_FairError : mg "FairError" = some (.ref C_FairError) := PySem.W.mg_of X G aC_FairError
  have g_Part : mg "Part" = some (.ref C_Part) := PySem.W.mg_of X G aC_Part
  have bb_ : ErrB K mg "FairError" C_FairError := ⟨g_FairError, bsp, brd, bat⟩
  have T_Wrong : OexC K C_Wrong := ⟨⟨nm_Wrong, qn_Wrong, N_Wrong, bs_Wrong, _, sn_Wrong, sub_Wrong, ab_Wrong, col_Wrong, dd_Wrong, m0_Wrong, m1_Wrong, m2_Wrong, m3_Wrong, m5_Wrong, xL_Wrong, rfl⟩, xs_Wrong, eb_Wrong, et_Wrong, ek_Wrong⟩
  have F_Wrong___init__ := fun_mk (st := s_Wrong___init__) l_Wrong___init__ cc_Wrong___init__ k_Wrong___init__
  have o_Part : OwnC K C_Part := ⟨⟨pg_Part, hd_Part, po_Part, sa_Part⟩, ha_Part, hn_Part, htk_Part, hm_Part⟩
  have n_Part : ∀ f ∈ (["base", "least", "greatest", "grow", "shrink"] : List Str), NoAttr K C_Part f := (List.forall_mem_cons.2 ⟨nf_Part_base, (List.forall_mem_cons.2 ⟨nf_Part_least, (List.forall_mem_cons.2 ⟨nf_Part_greatest, (List.forall_mem_cons.2 ⟨nf_Part_grow, (List.forall_mem_cons.2 ⟨nf_Part_shrink, (fun _ z => nomatch z)⟩)⟩)⟩)⟩)⟩)
  have F_is_whole := fun_mk (st := s_is_whole) l_is_whole cc_is_whole k_is_whole
  have F_is_length := fun_mk (st := s_is_length) l_is_length cc_is_length k_is_length
  have F_is_small := fun_mk (st := s_is_small) l_is_small cc_is_small k_is_small
  have F_is_weight := fun_mk (st := s_is_weight) l_is_weight cc_is_weight k_is_weight
  have F_Part___init__ := funD_mk (st := s_Part___init__) (dvs := [.int 0, .non, .int 1, .int 1]) l_Part___init__ cc_Part___init__ k_Part___init__ dt_Part___init__ (.cons ⟨_, rfl⟩ (.cons rfl (.cons ⟨_, rfl⟩ (.cons ⟨_, rfl⟩ .nil)))) (by simp)
  have F_is_strip := fun_mk (st := s_is_strip) l_is_strip cc_is_strip k_is_strip
  have F_look_at_strips := fun_mk (st := s_look_at_strips) l_look_at_strips cc_look_at_strips k_look_at_strips
  have F_foot_by := fun_mk (st := s_foot_by) l_foot_by cc_foot_by k_foot_by
  have F_foot_of := fun_mk (st := s_foot_of) l_foot_of cc_foot_of k_foot_of
  have F_look_at_many := fun_mk (st := s_look_at_many) l_look_at_many cc_look_at_many k_look_at_many
  have F_look_at_rest := fun_mk (st := s_look_at_rest) l_look_at_rest cc_look_at_rest k_look_at_rest
  have F_used_of := fun_mk (st := s_used_of) l_used_of cc_used_of k_used_of
  have F_filled := fun_mk (st := s_filled) l_filled cc_filled k_filled
  have F_ends_of := fun_mk (st := s_ends_of) l_ends_of cc_ends_of k_ends_of
  have F_reach := fun_mk (st := s_reach) l_reach cc_reach k_reach
  have F_even_columns := fun_mk (st := s_even_columns) l_even_columns cc_even_columns k_even_columns
  have F__law_bag := fun_mk (st := s__law_bag) l__law_bag cc__law_bag k__law_bag
  have F__law_take := fun_mk (st := s__law_take) l__law_take cc__law_take k__law_take
  have F__law_length := fun_mk (st := s__law_length) l__law_length cc__law_length k__law_length
  have F__law_whole := fun_mk (st := s__law_whole) l__law_whole cc__law_whole k__law_whole
  have F__law_weight := fun_mk (st := s__law_weight) l__law_weight cc__law_weight k__law_weight
  have F__law_part := fun_mk (st := s__law_part) l__law_part cc__law_part k__law_part
  have F__law_strip := fun_mk (st := s__law_strip) l__law_strip cc__law_strip k__law_strip
  have F__law_strips := fun_mk (st := s__law_strips) l__law_strips cc__law_strips k__law_strips
  have F__law_copied := fun_mk (st := s__law_copied) l__law_copied cc__law_copied k__law_copied
  have F__law_foot := fun_mk (st := s__law_foot) l__law_foot cc__law_foot k__law_foot
  have F__law_solid := fun_mk (st := s__law_solid) l__law_solid cc__law_solid k__law_solid
  have F__law_unit := fun_mk (st := s__law_unit) l__law_unit cc__law_unit k__law_unit
  have F__law_feather := fun_mk (st := s__law_feather) l__law_feather cc__law_feather k__law_feather
  have F__law_used := fun_mk (st := s__law_used) l__law_used cc__law_used k__law_used
  have F__law_filled := fun_mk (st := s__law_filled) l__law_filled cc__law_filled k__law_filled
  have F__law_numbers_well := fun_mk (st := s__law_numbers_well) l__law_numbers_well cc__law_numbers_well k__law_numbers_well
  have F__law_columns := fun_mk (st := s__law_columns) l__law_columns cc__law_columns k__law_columns
  have F__law_high := fun_mk (st := s__law_high) l__law_high cc__law_high k__law_high
  have F__law_even_well := fun_mk (st := s__law_even_well) l__law_even_well cc__law_even_well k__law_even_well
  have F_law := fun_mk (st := s_law) l_law cc_law k_law
  refine ⟨PySem.W.fnOf "law" "law" (defArgs s_law) (defBody s_law) (defScope s_law) .none kV_law dc_law pm_law an_law cd_law ct_law, fun s v => .of_eq rfl, fun base _ _ => ?_⟩
  have e_Wrong : ErrI l.prog w K mg base "Wrong" C_Wrong 1 ["self", "at"] "at" := ⟨T_Wrong, g_Wrong, _, _, a_Wrong___init__, t1_Wrong, okI_Wrong F_Wrong___init__ bb_ T_Wrong nb_Wrong, F_Wrong___init__.binds (ps := ["self", "at"]) fun _ _ _ _ _ _ us hl => match us, hl with | [_, _], _ => rfl⟩
  have c_is_whole : Cal l.prog w K mg base "is_whole" 1 ["thing"] [] (sp_is_whole K) := ⟨_, _, [], ok_is_whole F_is_whole B , PySem.W.mg_of X G a_is_whole, k_is_whole, F_is_whole.binds (ps := ["thing"]) fun _ _ _ _ _ _ us hl => match us, hl with | [_], _ => rfl, .nil⟩
  have c_is_length : Cal l.prog w K mg base "is_length" 2 ["thing"] [] (sp_is_length K) := ⟨_, _, [], ok_is_length F_is_length B c_is_whole g_LENGTH, PySem.W.mg_of X G a_is_length, k_is_length, F_is_length.binds (ps := ["thing"]) fun _ _ _ _ _ _ us hl => match us, hl with | [_], _ => rfl, .nil⟩
  have c_is_small : Cal l.prog w K mg base "is_small" 2 ["thing"] [] (sp_is_small K) := ⟨_, _, [], ok_is_small F_is_small B c_is_whole g_SMALL, PySem.W.mg_of X G a_is_small, k_is_small, F_is_small.binds (ps := ["thing"]) fun _ _ _ _ _ _ us hl => match us, hl with | [_], _ => rfl, .nil⟩
  have c_is_weight : Cal l.prog w K mg base "is_weight" 2 ["thing"] [] (sp_is_weight K) := ⟨_, _, [], ok_is_weight F_is_weight B c_is_whole g_WEIGHT, PySem.W.mg_of X G a_is_weight, k_is_weight, F_is_weight.binds (ps := ["thing"]) fun _ _ _ _ _ _ us hl => match us, hl with | [_], _ => rfl, .nil⟩
  have ok_Part___init___ := ok_Part___init__ F_Part___init__ B c_is_length c_is_weight o_Part n_Part
  have mx_Part : MakX l.prog w K mg base "Part" C_Part 3 ["self", "base", "least", "greatest", "grow", "shrink"] [] (spx_Part___init__ K C_Part C_Wrong) := by
    obtain ⟨ds, hv, hb⟩ := F_Part___init__.binds1 (ps := ["self", "base", "least", "greatest", "grow", "shrink"]) 6 4 (by simp) rfl (fun T kV doc pm an cdv ct us its h1 h2 => match us, its, h1, h2 with | [_, _, _, _, _, _], [_, _, _, _], _, _ => ⟨_, rfl, rfl⟩)
    exact ⟨_, _, ds, ⟨mk_Part, a_Part___init__, i_Part___init__, kc_Part⟩, okx_Part___init__ F_Part___init__ B c_is_length c_is_weight o_Part n_Part e_Wrong, PySem.W.mg_of X G aC_Part, hb, hv⟩
  have m_Part : Mak l.prog w K mg base "Part" C_Part 3 ["self", "base", "least", "greatest", "grow", "shrink"] [] (sp_Part___init__ C_Part) := by
    obtain ⟨ds, hv, hb⟩ := F_Part___init__.binds1 (ps := ["self", "base", "least", "greatest", "grow", "shrink"]) 6 4 (by simp) rfl (fun T kV doc pm an cdv ct us its h1 h2 => match us, its, h1, h2 with | [_, _, _, _, _, _], [_, _, _, _], _, _ => ⟨_, rfl, rfl⟩)
    exact ⟨_, _, ds, ⟨mk_Part, a_Part___init__, i_Part___init__, kc_Part⟩, ok_Part___init___, PySem.W.mg_of X G aC_Part, hb, hv⟩
  have c_is_strip : Cal l.prog w K mg base "is_strip" 3 ["thing"] [] sp_is_strip := ⟨_, _, [], ok_is_strip F_is_strip B c_is_length c_is_small g_MOST_NOTES, PySem.W.mg_of X G a_is_strip, k_is_strip, F_is_strip.binds (ps := ["thing"]) fun _ _ _ _ _ _ us hl => match us, hl with | [_], _ => rfl, .nil⟩
  have c_look_at_strips : Cal l.prog w K mg base "look_at_strips" 4 ["at", "strips"] [] sp_look_at_strips := ⟨_, _, [], ok_look_at_strips F_look_at_strips B c_is_strip g_MOST_STRIPS, PySem.W.mg_of X G a_look_at_strips, k_look_at_strips, F_look_at_strips.binds (ps := ["at", "strips"]) fun _ _ _ _ _ _ us hl => match us, hl with | [_, _], _ => rfl, .nil⟩
  have c_foot_by : Cal l.prog w K mg base "foot_by" 1 ["many", "high", "rule"] [] sp_foot_by := ⟨_, _, [], ok_foot_by F_foot_by B , PySem.W.mg_of X G a_foot_by, k_foot_by, F_foot_by.binds (ps := ["many", "high", "rule"]) fun _ _ _ _ _ _ us hl => match us, hl with | [_, _, _], _ => rfl, .nil⟩
  have c_foot_of : Cal l.prog w K mg base "foot_of" 2 ["strips", "rule"] [] sp_foot_of := ⟨_, _, [], ok_foot_of F_foot_of B c_foot_by, PySem.W.mg_of X G a_foot_of, k_foot_of, F_foot_of.binds (ps := ["strips", "rule"]) fun _ _ _ _ _ _ us hl => match us, hl with | [_, _], _ => rfl, .nil⟩
  have c_look_at_many : Cal l.prog w K mg base "look_at_many" 2 ["many"] [] sp_look_at_many := ⟨_, _, [], ok_look_at_many F_look_at_many B c_is_whole g_MOST, PySem.W.mg_of X G a_look_at_many, k_look_at_many, F_look_at_many.binds (ps := ["many"]) fun _ _ _ _ _ _ us hl => match us, hl with | [_], _ => rfl, .nil⟩
  have c_look_at_rest : Cal l.prog w K mg base "look_at_rest" 3 ["at", "feather", "rule"] [] (sp_look_at_rest C_Part) := ⟨_, _, [], ok_look_at_rest F_look_at_rest B c_is_small o_Part n_Part g_Part, PySem.W.mg_of X G a_look_at_rest, k_look_at_rest, F_look_at_rest.binds (ps := ["at", "feather", "rule"]) fun _ _ _ _ _ _ us hl => match us, hl with | [_, _, _], _ => rfl, .nil⟩
  have c_used_of : Cal l.prog w K mg base "used_of" 3 ["strips", "feather", "rule"] [] (sp_used_of C_Part) := ⟨_, _, [], ok_used_of F_used_of B c_foot_of o_Part n_Part, PySem.W.mg_of X G a_used_of, k_used_of, F_used_of.binds (ps := ["strips", "feather", "rule"]) fun _ _ _ _ _ _ us hl => match us, hl with | [_, _, _], _ => rfl, .nil⟩
  have c_filled : Cal l.prog w K mg base "filled" 2 ["strips", "begin", "high", "feather", "rule"] [] (sp_filled C_Part) := ⟨_, _, [], ok_filled F_filled B c_foot_by o_Part n_Part, PySem.W.mg_of X G a_filled, k_filled, F_filled.binds (ps := ["strips", "begin", "high", "feather", "rule"]) fun _ _ _ _ _ _ us hl => match us, hl with | [_, _, _, _, _], _ => rfl, .nil⟩
  have c_ends_of : Cal l.prog w K mg base "ends_of" 3 ["strips", "many", "high", "feather", "rule"] [] (sp_ends_of C_Part) := ⟨_, _, [], ok_ends_of F_ends_of B c_filled, PySem.W.mg_of X G a_ends_of, k_ends_of, F_ends_of.binds (ps := ["strips", "many", "high", "feather", "rule"]) fun _ _ _ _ _ _ us hl => match us, hl with | [_, _, _, _, _], _ => rfl, .nil⟩
  have c_reach : Cal l.prog w K mg base "reach" 5 ["strips", "many", "high", "feather", "rule"] [] (sp_reach C_Part) := ⟨_, _, [], ok_reach F_reach B c_look_at_strips c_look_at_many c_is_whole c_look_at_rest c_ends_of, PySem.W.mg_of X G a_reach, k_reach, F_reach.binds (ps := ["strips", "many", "high", "feather", "rule"]) fun _ _ _ _ _ _ us hl => match us, hl with | [_, _, _, _, _], _ => rfl, .nil⟩
  have c_even_columns : Cal l.prog w K mg base "even_columns" 5 ["strips", "many", "feather", "rule"] [] (sp_even_columns C_Part) := ⟨_, _, [], ok_even_columns F_even_columns B c_look_at_strips c_look_at_many c_look_at_rest c_used_of c_ends_of, PySem.W.mg_of X G a_even_columns, k_even_columns, F_even_columns.binds (ps := ["strips", "many", "feather", "rule"]) fun _ _ _ _ _ _ us hl => match us, hl with | [_, _, _, _], _ => rfl, .nil⟩
  have c__law_bag : Cal l.prog w K mg base "_law_bag" 1 ["_law_script"] [] (sp__law_bag K) := ⟨_, _, [], ok__law_bag F__law_bag B , PySem.W.mg_of X G a__law_bag, k__law_bag, F__law_bag.binds (ps := ["_law_script"]) fun _ _ _ _ _ _ us hl => match us, hl with | [_], _ => rfl, .nil⟩
  have c__law_take : Cal l.prog w K mg base "_law_take" 1 ["_law_bag_here", "_law_many"] [] sp__law_take := ⟨_, _, [], ok__law_take F__law_take B , PySem.W.mg_of X G a__law_take, k__law_take, F__law_take.binds (ps := ["_law_bag_here", "_law_many"]) fun _ _ _ _ _ _ us hl => match us, hl with | [_, _], _ => rfl, .nil⟩
  have c__law_length : Cal l.prog w K mg base "_law_length" 2 ["_law_bag_here", "_law_most"] [] sp__law_length := ⟨_, _, [], ok__law_length F__law_length B c__law_take, PySem.W.mg_of X G a__law_length, k__law_length, F__law_length.binds (ps := ["_law_bag_here", "_law_most"]) fun _ _ _ _ _ _ us hl => match us, hl with | [_, _], _ => rfl, .nil⟩
  have c__law_whole : Cal l.prog w K mg base "_law_whole" 1 ["_law_found"] [] sp__law_whole := ⟨_, _, [], ok__law_whole F__law_whole B , PySem.W.mg_of X G a__law_whole, k__law_whole, F__law_whole.binds (ps := ["_law_found"]) fun _ _ _ _ _ _ us hl => match us, hl with | [_], _ => rfl, .nil⟩
  have c__law_weight : Cal l.prog w K mg base "_law_weight" 2 ["_law_bag_here"] [] sp__law_weight := ⟨_, _, [], ok__law_weight F__law_weight B c__law_take, PySem.W.mg_of X G a__law_weight, k__law_weight, F__law_weight.binds (ps := ["_law_bag_here"]) fun _ _ _ _ _ _ us hl => match us, hl with | [_], _ => rfl, .nil⟩
  have c__law_part : Cal l.prog w K mg base "_law_part" 3 ["_law_bag_here", "_law_unit_here"] [] sp__law_part := ⟨_, _, [], ok__law_part F__law_part B c__law_length c__law_take c__law_weight, PySem.W.mg_of X G a__law_part, k__law_part, F__law_part.binds (ps := ["_law_bag_here", "_law_unit_here"]) fun _ _ _ _ _ _ us hl => match us, hl with | [_, _], _ => rfl, .nil⟩
  have c__law_strip : Cal l.prog w K mg base "_law_strip" 3 ["_law_bag_here", "_law_unit_here"] [] sp__law_strip := ⟨_, _, [], ok__law_strip F__law_strip B c__law_take c__law_length, PySem.W.mg_of X G a__law_strip, k__law_strip, F__law_strip.binds (ps := ["_law_bag_here", "_law_unit_here"]) fun _ _ _ _ _ _ us hl => match us, hl with | [_, _], _ => rfl, .nil⟩
  have c__law_strips : Cal l.prog w K mg base "_law_strips" 4 ["_law_bag_here", "_law_unit_here", "_law_many"] [] sp__law_strips := ⟨_, _, [], ok__law_strips F__law_strips B c__law_strip c__law_take, PySem.W.mg_of X G a__law_strips, k__law_strips, F__law_strips.binds (ps := ["_law_bag_here", "_law_unit_here", "_law_many"]) fun _ _ _ _ _ _ us hl => match us, hl with | [_, _, _], _ => rfl, .nil⟩
  have c__law_copied : Cal l.prog w K mg base "_law_copied" 1 ["_law_strips_here"] [] sp__law_copied := ⟨_, _, [], ok__law_copied F__law_copied B , PySem.W.mg_of X G a__law_copied, k__law_copied, F__law_copied.binds (ps := ["_law_strips_here"]) fun _ _ _ _ _ _ us hl => match us, hl with | [_], _ => rfl, .nil⟩
  have c__law_foot : Cal l.prog w K mg base "_law_foot" 1 ["_law_strips_here", "_law_rule"] [] sp__law_foot := ⟨_, _, [], ok__law_foot F__law_foot B , PySem.W.mg_of X G a__law_foot, k__law_foot, F__law_foot.binds (ps := ["_law_strips_here", "_law_rule"]) fun _ _ _ _ _ _ us hl => match us, hl with | [_, _], _ => rfl, .nil⟩
  have c__law_solid : Cal l.prog w K mg base "_law_solid" 2 ["_law_strips_here", "_law_rule"] [] sp__law_solid := ⟨_, _, [], ok__law_solid F__law_solid B c__law_foot, PySem.W.mg_of X G a__law_solid, k__law_solid, F__law_solid.binds (ps := ["_law_strips_here", "_law_rule"]) fun _ _ _ _ _ _ us hl => match us, hl with | [_, _], _ => rfl, .nil⟩
  have c__law_unit : Cal l.prog w K mg base "_law_unit" 2 ["_law_bag_here"] [] sp__law_unit := ⟨_, _, [], ok__law_unit F__law_unit B c__law_take, PySem.W.mg_of X G a__law_unit, k__law_unit, F__law_unit.binds (ps := ["_law_bag_here"]) fun _ _ _ _ _ _ us hl => match us, hl with | [_], _ => rfl, .nil⟩
  have c__law_feather : Cal l.prog w K mg base "_law_feather" 5 ["_law_told"] [] (sp__law_feather C_Part) := ⟨_, _, [], ok__law_feather F__law_feather B m_Part, PySem.W.mg_of X G a__law_feather, k__law_feather, F__law_feather.binds (ps := ["_law_told"]) fun _ _ _ _ _ _ us hl => match us, hl with | [_], _ => rfl, .nil⟩
  have c__law_used : Cal l.prog w K mg base "_law_used" 3 ["_law_strips_here", "_law_feather_here", "_law_rule"] [] sp__law_used := ⟨_, _, [], ok__law_used F__law_used B c__law_solid, PySem.W.mg_of X G a__law_used, k__law_used, F__law_used.binds (ps := ["_law_strips_here", "_law_feather_here", "_law_rule"]) fun _ _ _ _ _ _ us hl => match us, hl with | [_, _, _], _ => rfl, .nil⟩
  have c__law_filled : Cal l.prog w K mg base "_law_filled" 4 ["_law_strips_here", "_law_many", "_law_high_here", "_law_feather_here", "_law_rule"] [] sp__law_filled := ⟨_, _, [], ok__law_filled F__law_filled B c__law_used, PySem.W.mg_of X G a__law_filled, k__law_filled, F__law_filled.binds (ps := ["_law_strips_here", "_law_many", "_law_high_here", "_law_feather_here", "_law_rule"]) fun _ _ _ _ _ _ us hl => match us, hl with | [_, _, _, _, _], _ => rfl, .nil⟩
  have c__law_numbers_well : Cal l.prog w K mg base "_law_numbers_well" 2 ["_law_found", "_law_due"] [] sp__law_numbers_well := ⟨_, _, [], ok__law_numbers_well F__law_numbers_well B c__law_whole, PySem.W.mg_of X G a__law_numbers_well, k__law_numbers_well, F__law_numbers_well.binds (ps := ["_law_found", "_law_due"]) fun _ _ _ _ _ _ us hl => match us, hl with | [_, _], _ => rfl, .nil⟩
  have c__law_columns : Cal l.prog w K mg base "_law_columns" 1 ["_law_ends"] [] sp__law_columns := ⟨_, _, [], ok__law_columns F__law_columns B , PySem.W.mg_of X G a__law_columns, k__law_columns, F__law_columns.binds (ps := ["_law_ends"]) fun _ _ _ _ _ _ us hl => match us, hl with | [_], _ => rfl, .nil⟩
  have c__law_high : Cal l.prog w K mg base "_law_high" 4 ["_law_bag_here", "_law_strips_here", "_law_feather_here", "_law_rule", "_law_unit_here"] [] sp__law_high := ⟨_, _, [], ok__law_high F__law_high B c__law_take c__law_used c__law_length, PySem.W.mg_of X G a__law_high, k__law_high, F__law_high.binds (ps := ["_law_bag_here", "_law_strips_here", "_law_feather_here", "_law_rule", "_law_unit_here"]) fun _ _ _ _ _ _ us hl => match us, hl with | [_, _, _, _, _], _ => rfl, .nil⟩
  have c__law_even_well : Cal l.prog w K mg base "_law_even_well" 5 ["_law_strips_here", "_law_columns_here", "_law_feather_here", "_law_rule", "_law_told"] [] sp__law_even_well := ⟨_, _, [], ok__law_even_well F__law_even_well B c__law_whole c__law_filled c__law_columns, PySem.W.mg_of X G a__law_even_well, k__law_even_well, F__law_even_well.binds (ps := ["_law_strips_here", "_law_columns_here", "_law_feather_here", "_law_rule", "_law_told"]) fun _ _ _ _ _ _ us hl => match us, hl with | [_, _, _, _, _], _ => rfl, .nil⟩
  exact ok_law F_law B c__law_bag c__law_unit c__law_take c__law_strips c__law_part c__law_length c__law_feather c__law_copied c__law_high c_reach c__law_filled c__law_numbers_well c_even_columns c__law_even_well o_Part n_Part
theorem walk {l : PySem.W.OpenLaw} {q : Program} {loose : List Str} {XP : (Str → Option Value) → Heap → Prop} {YP : World → Heap → Prop} {d : DefRec} {K : Params → PySem.W.Frag} (hn : l.most = some 63) (hdf : d.params.defaults = [])
    (hY : ∀ (w : World) (h : Heap), YP w h → (K w.params).In h)
    (F : ∀ (w : World) (mg : Str → Option Value) (fa : Addr) (h : Heap), (K w.params).In h → h.Ns mainGlobals mg → mg d.name = some (.ref fa) →
      ∃ fd : FuncData, (∀ (s : Shared) (u : Value), BindsTo s fd ⟨[u], []⟩ [("_law_script", u)]) ∧ ∀ base : Heap, (K w.params).In base → base.Ns mainGlobals mg → FnOk l.prog w (K w.params) mg base CX0 6 fa fd ["_law_script"] (sp_law (K w.params))) :
    PySem.W.WalkO q loose XP YP l.row.toRowW d [] (fun f vs => PySem.call f vs) :=
  L2.walk_ofB (n := 63) (k := 6) (x := "_law_script") (CX := fun _ => CX0) (sp := fun w => sp_law (K w.params)) hn (by decide) hdf ⟨rfl, by decide, by decide⟩ hY F (fun _ _ a ns hl hb hO hS => ⟨a, ns, rfl, hS, hO, hl, hb, fun _ => rfl⟩) fun _ _ _ _ _ z => z
end Fs
open PySem PySem.W PyProof.Rows
set_option maxRecDepth 100000 in
set_option maxHeartbeats 0 in
theorem PySem.Challenge.cw_fairsheet_k85_reach_and_evens_holds : PySem.Challenge.rw_fairsheet_k85_reach_and_evens.Holds := by
  w_on; o_law; k_head; (case hw => w_witness2)
  k_fill
  refine Fs.walk (l := PySem.Challenge.rw_fairsheet_k85_reach_and_evens) rfl rfl (fun w h Y => PySem.W.kIn_of Y) ?F
  case F =>
    intro w mg fa h KX G hmg
    refine' Fs.all_mk KX G hmg ?a_is_whole ?l_is_whole ?cc_is_whole ?k_is_whole ?a_is_length ?l_is_length ?cc_is_length ?k_is_length ?a_is_small ?l_is_small ?cc_is_small ?k_is_small ?a_is_weight ?l_is_weight ?cc_is_weight ?k_is_weight ?aC_Part ?pg_Part ?hd_Part ?po_Part ?sa_Part ?mk_Part ?kc_Part ?ha_Part ?hn_Part ?htk_Part ?hm_Part ?nf_Part_base ?nf_Part_least ?nf_Part_greatest ?nf_Part_grow ?nf_Part_shrink ?a_Part___init__ ?i_Part___init__ ?l_Part___init__ ?cc_Part___init__ ?k_Part___init__ ?dt_Part___init__ ?a_is_strip ?l_is_strip ?cc_is_strip ?k_is_strip ?a_look_at_strips ?l_look_at_strips ?cc_look_at_strips ?k_look_at_strips ?a_foot_by ?l_foot_by ?cc_foot_by ?k_foot_by ?a_foot_of ?l_foot_of ?cc_foot_of ?k_foot_of ?a_look_at_many ?l_look_at_many ?cc_look_at_many ?k_look_at_many ?a_look_at_rest ?l_look_at_rest ?cc_look_at_rest ?k_look_at_rest ?a_used_of ?l_used_of ?cc_used_of ?k_used_of ?a_filled ?l_filled ?cc_filled ?k_filled ?a_ends_of ?l_ends_of ?cc_ends_of ?k_ends_of ?a_reach ?l_reach ?cc_reach ?k_reach ?a_even_columns ?l_even_columns ?cc_even_columns ?k_even_columns ?a__law_bag ?l__law_bag ?cc__law_bag ?k__law_bag ?a__law_take ?l__law_take ?cc__law_take ?k__law_take ?a__law_length ?l__law_length ?cc__law_length ?k__law_length ?a__law_whole ?l__law_whole ?cc__law_whole ?k__law_whole ?a__law_weight ?l__law_weight ?cc__law_weight ?k__law_weight ?a__law_part ?l__law_part ?cc__law_part ?k__law_part ?a__law_strip ?l__law_strip ?cc__law_strip ?k__law_strip ?a__law_strips ?l__law_strips ?cc__law_strips ?k__law_strips ?a__law_copied ?l__law_copied ?cc__law_copied ?k__law_copied ?a__law_foot ?l__law_foot ?cc__law_foot ?k__law_foot ?a__law_solid ?l__law_solid ?cc__law_solid ?k__law_solid ?a__law_unit ?l__law_unit ?cc__law_unit ?k__law_unit ?a__law_feather ?l__law_feather ?cc__law_feather ?k__law_feather ?a__law_used ?l__law_used ?cc__law_used ?k__law_used ?a__law_filled ?l__law_filled ?cc__law_filled ?k__law_filled ?a__law_numbers_well ?l__law_numbers_well ?cc__law_numbers_well ?k__law_numbers_well ?a__law_columns ?l__law_columns ?cc__law_columns ?k__law_columns ?a__law_high ?l__law_high ?cc__law_high ?k__law_high ?a__law_even_well ?l__law_even_well ?cc__law_even_well ?k__law_even_well ?a_law ?l_law ?cc_law ?k_law ?aC_Wrong ?ek_Wrong ?eb_Wrong ?et_Wrong ?ic_Wrong ?aC_FairError ?ek_FairError ?eb_FairError ?et_FairError ?ic_FairError ?bsp ?brd ?bat ?xL_Wrong ?xs_Wrong ?nb_Wrong ?a_Wrong___init__ ?t1_Wrong ?l_Wrong___init__ ?cc_Wrong___init__ ?k_Wrong___init__ ?z_len ?z_abs ?z_isinstance ?z_min ?z_max ?z_sum ?z_sorted ?z_range ?z_zip ?z_enumerate ?z_reversed ?z_int ?z_bool ?z_tuple ?z_list ?z_str ?z_dict ?z_ValueError ?z_set ?z_any ?z_all ?n_LENGTH ?n_SMALL ?n_WEIGHT ?n_MOST_STRIPS ?n_MOST_NOTES ?n_MOST
    (case a_is_whole => k_is)
    (case l_is_whole => k_is)
    (case cc_is_whole => k_is)
    (case k_is_whole => k_is)
    (case a_is_length => k_is)
    (case l_is_length => k_is)
    (case cc_is_length => k_is)
    (case k_is_length => k_is)
    (case a_is_small => k_is)
    (case l_is_small => k_is)
    (case cc_is_small => k_is)
    (case k_is_small => k_is)
    (case a_is_weight => k_is)
    (case l_is_weight => k_is)
    (case cc_is_weight => k_is)
    (case k_is_weight => k_is)
    (case aC_Part => k_is)
    (case pg_Part => k_is)
    (case hd_Part => k_is)
    (case po_Part => k_is)
    (case sa_Part => k_is)
    (case mk_Part => k_is)
    (case kc_Part => k_is)
    (case ha_Part => k_is)
    (case hn_Part => k_is)
    (case htk_Part => k_is)
    (case hm_Part => k_is)
    (case nf_Part_base => k_is)
    (case nf_Part_least => k_is)
    (case nf_Part_greatest => k_is)
    (case nf_Part_grow => k_is)
    (case nf_Part_shrink => k_is)
    (case a_Part___init__ => k_is)
    (case i_Part___init__ => k_is)
    (case l_Part___init__ => k_is)
    (case cc_Part___init__ => k_is)
    (case k_Part___init__ => k_is)
    (case dt_Part___init__ => k_is)
    (case a_is_strip => k_is)
    (case l_is_strip => k_is)
    (case cc_is_strip => k_is)
    (case k_is_strip => k_is)
    (case a_look_at_strips => k_is)
    (case l_look_at_strips => k_is)
    (case cc_look_at_strips => k_is)
    (case k_look_at_strips => k_is)
    (case a_foot_by => k_is)
    (case l_foot_by => k_is)
    (case cc_foot_by => k_is)
    (case k_foot_by => k_is)
    (case a_foot_of => k_is)
    (case l_foot_of => k_is)
    (case cc_foot_of => k_is)
    (case k_foot_of => k_is)
    (case a_look_at_many => k_is)
    (case l_look_at_many => k_is)
    (case cc_look_at_many => k_is)
    (case k_look_at_many => k_is)
    (case a_look_at_rest => k_is)
    (case l_look_at_rest => k_is)
    (case cc_look_at_rest => k_is)
    (case k_look_at_rest => k_is)
    (case a_used_of => k_is)
    (case l_used_of => k_is)
    (case cc_used_of => k_is)
    (case k_used_of => k_is)
    (case a_filled => k_is)
    (case l_filled => k_is)
    (case cc_filled => k_is)
    (case k_filled => k_is)
    (case a_ends_of => k_is)
    (case l_ends_of => k_is)
    (case cc_ends_of => k_is)
    (case k_ends_of => k_is)
    (case a_reach => k_is)
    (case l_reach => k_is)
    (case cc_reach => k_is)
    (case k_reach => k_is)
    (case a_even_columns => k_is)
    (case l_even_columns => k_is)
    (case cc_even_columns => k_is)
    (case k_even_columns => k_is)
    (case a__law_bag => k_is)
    (case l__law_bag => k_is)
    (case cc__law_bag => k_is)
    (case k__law_bag => k_is)
    (case a__law_take => k_is)
    (case l__law_take => k_is)
    (case cc__law_take => k_is)
    (case k__law_take => k_is)
    (case a__law_length => k_is)
    (case l__law_length => k_is)
    (case cc__law_length => k_is)
    (case k__law_length => k_is)
    (case a__law_whole => k_is)
    (case l__law_whole => k_is)
    (case cc__law_whole => k_is)
    (case k__law_whole => k_is)
    (case a__law_weight => k_is)
    (case l__law_weight => k_is)
    (case cc__law_weight => k_is)
    (case k__law_weight => k_is)
    (case a__law_part => k_is)
    (case l__law_part => k_is)
    (case cc__law_part => k_is)
    (case k__law_part => k_is)
    (case a__law_strip => k_is)
    (case l__law_strip => k_is)
    (case cc__law_strip => k_is)
    (case k__law_strip => k_is)
    (case a__law_strips => k_is)
    (case l__law_strips => k_is)
    (case cc__law_strips => k_is)
    (case k__law_strips => k_is)
    (case a__law_copied => k_is)
    (case l__law_copied => k_is)
    (case cc__law_copied => k_is)
    (case k__law_copied => k_is)
    (case a__law_foot => k_is)
    (case l__law_foot => k_is)
    (case cc__law_foot => k_is)
    (case k__law_foot => k_is)
    (case a__law_solid => k_is)
    (case l__law_solid => k_is)
    (case cc__law_solid => k_is)
    (case k__law_solid => k_is)
    (case a__law_unit => k_is)
    (case l__law_unit => k_is)
    (case cc__law_unit => k_is)
    (case k__law_unit => k_is)
    (case a__law_feather => k_is)
    (case l__law_feather => k_is)
    (case cc__law_feather => k_is)
    (case k__law_feather => k_is)
    (case a__law_used => k_is)
    (case l__law_used => k_is)
    (case cc__law_used => k_is)
    (case k__law_used => k_is)
    (case a__law_filled => k_is)
    (case l__law_filled => k_is)
    (case cc__law_filled => k_is)
    (case k__law_filled => k_is)
    (case a__law_numbers_well => k_is)
    (case l__law_numbers_well => k_is)
    (case cc__law_numbers_well => k_is)
    (case k__law_numbers_well => k_is)
    (case a__law_columns => k_is)
    (case l__law_columns => k_is)
    (case cc__law_columns => k_is)
    (case k__law_columns => k_is)
    (case a__law_high => k_is)
    (case l__law_high => k_is)
    (case cc__law_high => k_is)
    (case k__law_high => k_is)
    (case a__law_even_well => k_is)
    (case l__law_even_well => k_is)
    (case cc__law_even_well => k_is)
    (case k__law_even_well => k_is)
    (case a_law => k_is)
    (case l_law => k_is)
    (case cc_law => k_is)
    (case k_law => k_is)
    (case aC_Wrong => k_is)
    (case ek_Wrong => k_is)
    (case eb_Wrong => k_is)
    (case et_Wrong => k_is)
    (case ic_Wrong => k_is)
    (case aC_FairError => k_is)
    (case ek_FairError => k_is)
    (case eb_FairError => k_is)
    (case et_FairError => k_is)
    (case ic_FairError => k_is)
    (case bsp => k_is)
    (case brd => k_is)
    (case bat => k_is)
    (case xL_Wrong => k_is)
    (case xs_Wrong => k_is)
    (case nb_Wrong => k_is)
    (case a_Wrong___init__ => k_is)
    (case t1_Wrong => k_is)
    (case l_Wrong___init__ => k_is)
    (case cc_Wrong___init__ => k_is)
    (case k_Wrong___init__ => k_is)
    (case z_len => k_is)
    (case z_abs => k_is)
    (case z_isinstance => k_is)
    (case z_min => k_is)
    (case z_max => k_is)
    (case z_sum => k_is)
    (case z_sorted => k_is)
    (case z_range => k_is)
    (case z_zip => k_is)
    (case z_enumerate => k_is)
    (case z_reversed => k_is)
    (case z_int => k_is)
    (case z_bool => k_is)
    (case z_tuple => k_is)
    (case z_list => k_is)
    (case z_str => k_is)
    (case z_dict => k_is)
    (case z_ValueError => k_is)
    (case z_set => k_is)
    (case z_any => k_is)
    (case z_all => k_is)
    (case n_LENGTH => k_is)
    (case n_SMALL => k_is)
    (case n_WEIGHT => k_is)
    (case n_MOST_STRIPS => k_is)
    (case n_MOST_NOTES => k_is)
    (case n_MOST => k_is)
