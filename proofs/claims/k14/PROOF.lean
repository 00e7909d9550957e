import PyProof.Rows.All
import Wide.All
import OpenK.AllK
import Wide.FinOn
import HandS.ForMost
import HandS.Wide
import HandS.Walk
import HandS.IsInst
import HandS.Flow
import HandS.Style
import HandS.Zip
import HandS.EndBits
import HandS.Defaults
import HandS.More
import HandS.MakeKwOnly
import HandS.MakeKw
import PySem.Challenge.RW_fairsheet_k14_size_by_price
set_option Elab.async false
set_option linter.all false
set_option maxRecDepth 100000
set_option maxHeartbeats 4000000
set_option exponentiation.threshold 20000
namespace Fs
open PySem PySem.Spec PyProof.Rows L2

/-! ### data and what denotes it -/
inductive D where
  | non | bl (b : Bool) | int (i : Int) | str (x : Str) | ref (a : Addr) | ty (n : String)
  | tup (ds : List D) | lst (ds : List D) | obj (C : Addr) (fs : List (Str × D)) | dict

mutual
inductive Is (I : Hp) : V → D → Prop
  | non : Is I .non .non
  | bl (b : Bool) : Is I (.bl b) (.bl b)
  | int (i : Int) : Is I (.int i) (.int i)
  | str (x : Str) : Is I (.str x) (.str x)
  | ref (a : Addr) : Is I (.ref a) (.ref a)
  | ty (n : String) : Is I (.ty n) (.ty n)
  | tup {p : Addr} {vs : List V} {ds : List D} : I p = some (.tup vs) → IsA I vs ds → Is I (.ref p) (.tup ds)
  | lst {p : Addr} {vs : List V} {ds : List D} : I p = some (.lst vs) → IsA I vs ds → Is I (.ref p) (.lst ds)
  | obj {p C dx : Addr} {fs : List (Str × V)} {ds : List (Str × D)} : I p = some (.ins C dx fs) → IsF I fs ds → Is I (.ref p) (.obj C ds)
  | dct {p : Addr} {kvs : List (Key × V)} : I p = some (.dK kvs) → Is I (.ref p) .dict
inductive IsA (I : Hp) : List V → List D → Prop
  | nil : IsA I [] []
  | cons {v : V} {d : D} {vs : List V} {ds : List D} : Is I v d → IsA I vs ds → IsA I (v :: vs) (d :: ds)
inductive IsF (I : Hp) : List (Str × V) → List (Str × D) → Prop
  | nil : IsF I [] []
  | cons {f : Str} {v : V} {d : D} {vs : List (Str × V)} {ds : List (Str × D)} : Is I v d → IsF I vs ds → IsF I ((f, v) :: vs) ((f, d) :: ds)
end
mutual
theorem Is.mono {I J : Hp} (s : Same I J) : ∀ {v : V} {d : D}, Is I v d → Is J v d
  | _, _, .non => .non
  | _, _, .bl b => .bl b
  | _, _, .int i => .int i
  | _, _, .str x => .str x
  | _, _, .ref a => .ref a
  | _, _, .ty n => .ty n
  | _, _, .tup h a => .tup (s _ _ h) (IsA.mono s a)
  | _, _, .lst h a => .lst (s _ _ h) (IsA.mono s a)
  | _, _, .obj h a => .obj (s _ _ h) (IsF.mono s a)
  | _, _, .dct h => .dct (s _ _ h)
theorem IsA.mono {I J : Hp} (s : Same I J) : ∀ {vs : List V} {ds : List D}, IsA I vs ds → IsA J vs ds
  | _, _, .nil => .nil
  | _, _, .cons h a => .cons (Is.mono s h) (IsA.mono s a)
theorem IsF.mono {I J : Hp} (s : Same I J) : ∀ {vs : List (Str × V)} {ds : List (Str × D)}, IsF I vs ds → IsF J vs ds
  | _, _, .nil => .nil
  | _, _, .cons h a => .cons (Is.mono s h) (IsF.mono s a)
end
section
variable {I J : Hp} {v : V} {vs : List V} {ds es : List D} {d : D}
theorem Is.int_eq {n : Int} (h : Is I v (.int n)) : v = .int n := by cases h; rfl
theorem Is.bl_eq {n : Bool} (h : Is I v (.bl n)) : v = .bl n := by cases h; rfl
theorem Is.str_eq {n : Str} (h : Is I v (.str n)) : v = .str n := by cases h; rfl
theorem Is.non_eq (h : Is I v .non) : v = .non := by cases h; rfl
theorem Is.ref_eq {a : Addr} (h : Is I v (.ref a)) : v = .ref a := by cases h; rfl
theorem Is.tup_ex (h : Is I v (.tup ds)) : ∃ p vs, v = .ref p ∧ I p = some (.tup vs) ∧ IsA I vs ds := by
  cases h with | tup h a => exact ⟨_, _, rfl, h, a⟩
theorem Is.lst_ex (h : Is I v (.lst ds)) : ∃ p vs, v = .ref p ∧ I p = some (.lst vs) ∧ IsA I vs ds := by
  cases h with | lst h a => exact ⟨_, _, rfl, h, a⟩
theorem Is.obj_ex {C : Addr} {fs : List (Str × D)} (h : Is I v (.obj C fs)) : ∃ p dx vs, v = .ref p ∧ I p = some (.ins C dx vs) ∧ IsF I vs fs := by
  cases h with | obj h a => exact ⟨_, _, _, rfl, h, a⟩
theorem IsA.length : ∀ {vs : List V} {ds : List D}, IsA I vs ds → vs.length = ds.length
  | _, _, .nil => rfl
  | _, _, .cons _ a => by rw [List.length_cons, List.length_cons, a.length]
theorem IsA.get : ∀ {vs : List V} {ds : List D} {i : Nat} {d : D}, IsA I vs ds → ds[i]? = some d → ∃ v, vs[i]? = some v ∧ Is I v d
  | _, _, _, _, .nil, h => by simp at h
  | _, _, 0, _, .cons h _, e => by simp at e; subst e; exact ⟨_, rfl, h⟩
  | _, _, i + 1, d, .cons _ a, e => by
    obtain ⟨v, h1, h2⟩ := IsA.get (i := i) (d := d) a (by simpa using e)
    exact ⟨v, by simpa using h1, h2⟩
theorem IsA.of : ∀ {vs : List V} {ds : List D} {i : Nat} {v : V}, IsA I vs ds → vs[i]? = some v → ∃ d, ds[i]? = some d ∧ Is I v d
  | _, _, _, _, .nil, h => by simp at h
  | _, _, 0, _, .cons h _, e => by simp at e; subst e; exact ⟨_, rfl, h⟩
  | _, _, i + 1, d, .cons _ a, e => by
    obtain ⟨v, h1, h2⟩ := IsA.of (i := i) a (by simpa using e)
    exact ⟨v, by simpa using h1, h2⟩
theorem IsA.app : ∀ {vs us : List V} {ds es : List D}, IsA I vs ds → IsA I us es → IsA I (vs ++ us) (ds ++ es)
  | _, _, _, _, .nil, b => b
  | _, _, _, _, .cons h a, b => .cons h (IsA.app a b)
theorem IsA.one (h : Is I v d) : IsA I [v] [d] := .cons h .nil
theorem IsA.rev : ∀ {vs : List V} {ds : List D}, IsA I vs ds → IsA I vs.reverse ds.reverse
  | _, _, .nil => .nil
  | _, _, .cons h a => by rw [List.reverse_cons, List.reverse_cons]; exact (IsA.rev a).app (.one h)
theorem IsA.take : ∀ {vs : List V} {ds : List D} (n : Nat), IsA I vs ds → IsA I (vs.take n) (ds.take n)
  | _, _, 0, _ => .nil
  | _, _, _ + 1, .nil => .nil
  | _, _, n + 1, .cons h a => .cons h (IsA.take n a)
theorem IsA.drop : ∀ {vs : List V} {ds : List D} (n : Nat), IsA I vs ds → IsA I (vs.drop n) (ds.drop n)
  | _, _, 0, a => a
  | _, _, _ + 1, .nil => .nil
  | _, _, n + 1, .cons h a => IsA.drop n a
theorem IsA.ints : ∀ (ns : List Int), IsA I (ns.map V.int) (ns.map D.int)
  | [] => .nil
  | n :: r => .cons (.int n) (IsA.ints r)
theorem IsA.ints_eq : ∀ {vs : List V} {ns : List Int}, IsA I vs (ns.map D.int) → vs = ns.map V.int
  | _, [], h => by cases h; rfl
  | _, n :: r, h => by
    cases h with
    | cons h a => rw [h.int_eq, IsA.ints_eq a]; rfl
theorem IsF.get : ∀ {fs : List (Str × V)} {ds : List (Str × D)} {f : Str} {d : D}, IsF I fs ds → ds.lookup f = some d → ∃ v, fs.lookup f = some v ∧ Is I v d
  | _, _, _, _, .nil, e => by simp at e
  | _, _, f, d, .cons (f := g) h a, e => by
    rw [List.lookup_cons] at e
    cases hc : f == g with
    | true => rw [hc] at e; simp at e; subst e; exact ⟨_, by rw [List.lookup_cons, hc], h⟩
    | false =>
      rw [hc] at e
      obtain ⟨v, h1, h2⟩ := IsF.get a e
      exact ⟨v, by rw [List.lookup_cons, hc]; exact h1, h2⟩
theorem IsF.no : ∀ {fs : List (Str × V)} {ds : List (Str × D)} {f : Str}, IsF I fs ds → ds.lookup f = none → fs.lookup f = none
  | _, _, _, .nil, _ => rfl
  | _, _, f, .cons (f := g) h a, e => by
    rw [List.lookup_cons] at e ⊢
    cases hc : f == g with
    | true => rw [hc] at e; cases e
    | false => rw [hc] at e; exact IsF.no a e
end

/-! ### the heap: what stays (I), what may be changed (M) -/
structure W (I H : Hp) (M : List (Addr × HO)) : Prop where
  imm : Same I H
  mu : ∀ p ∈ M, H p.1 = some p.2 ∧ I p.1 = none
  nd : (M.map (·.1)).Nodup
section
variable {I H : Hp} {M M1 M2 : List (Addr × HO)} {p : Addr} {o o' : HO} {m : Addr × HO}
theorem same_new (h : H p = none) : Same H (upd H p o) := fun b x e => by
  rw [upd_ne (ne_of_none e h)]
  exact e
theorem W.fresh (w : W I H M) (h : H p = none) : I p = none := w.imm.free h
theorem W.notin (w : W I H M) (h : H p = none) : p ∉ M.map (·.1) := fun q => by
  obtain ⟨x, hx, e⟩ := List.mem_map.mp q
  have := (w.mu x hx).1
  rw [e, h] at this
  cases this
/-- a new thing that stays -/
theorem W.newI (w : W I H M) (h : H p = none) : W (upd I p o) (upd H p o) M where
  imm := fun b x e => by
    by_cases hb : b = p
    · subst hb; rw [upd_same] at e ⊢; exact e
    · rw [upd_ne hb] at e ⊢; exact w.imm b x e
  mu := fun x hx => by
    have q : x.1 ≠ p := fun e => w.notin h (e ▸ List.mem_map_of_mem hx)
    rw [upd_ne q, upd_ne q]
    exact w.mu x hx
  nd := w.nd
theorem W.same (w : W I H M) (h : H p = none) : Same I (upd I p o) := same_new (w.fresh h)
/-- a new thing that may be changed -/
theorem W.newM (w : W I H M) (h : H p = none) : W I (upd H p o) ((p, o) :: M) where
  imm := fun b x e => by
    rw [upd_ne (ne_of_none e (w.fresh h))]
    exact w.imm b x e
  mu := fun x hx => by
    rcases List.mem_cons.mp hx with e | hx
    · subst e; exact ⟨upd_same, w.fresh h⟩
    · have q : x.1 ≠ p := fun e => w.notin h (e ▸ List.mem_map_of_mem hx)
      rw [upd_ne q]
      exact w.mu x hx
  nd := List.nodup_cons.mpr ⟨w.notin h, w.nd⟩
theorem W.newM2 (w : W I H (m :: M)) (h : H p = none) : W I (upd H p o) (m :: (p, o) :: M) := by
  have q := w.newM (o := o) h
  refine ⟨q.imm, fun x hx => q.mu x ?_, ?_⟩
  · rcases List.mem_cons.mp hx with e | hx
    · exact List.mem_cons.mpr (.inr (List.mem_cons.mpr (.inl e)))
    · rcases List.mem_cons.mp hx with e | hx
      · exact List.mem_cons.mpr (.inl e)
      · exact List.mem_cons.mpr (.inr (List.mem_cons.mpr (.inr hx)))
  · have n := q.nd
    simp only [List.map_cons, List.nodup_cons, List.mem_cons, not_or] at n ⊢
    exact ⟨⟨fun e => n.1.1 e.symm, n.2.1⟩, n.1.2, n.2.2⟩
/-- a change -/
theorem W.put (w : W I H (M1 ++ (p, o) :: M2)) : W I (upd H p o') (M1 ++ (p, o') :: M2) := by
  have n := w.nd
  simp only [List.map_append, List.map_cons] at n
  have hp := w.mu (p, o) (List.mem_append_right _ List.mem_cons_self)
  refine ⟨fun b x e => ?_, fun x hx => ?_, by simpa only [List.map_append, List.map_cons] using n⟩
  · rw [upd_ne (ne_of_none e hp.2)]
    exact w.imm b x e
  · have n2 := List.nodup_append.mp n
    have n3 := List.nodup_cons.mp n2.2.1
    rcases List.mem_append.mp hx with h | h
    · have q : x.1 ≠ p := n2.2.2 _ (List.mem_map_of_mem h) _ List.mem_cons_self
      rw [upd_ne q]
      exact w.mu x (List.mem_append_left _ h)
    · rcases List.mem_cons.mp h with e | h
      · subst e; exact ⟨upd_same, hp.2⟩
      · have q : x.1 ≠ p := fun e => n3.1 (e ▸ List.mem_map_of_mem h)
        rw [upd_ne q]
        exact w.mu x (List.mem_append_right _ (List.mem_cons_of_mem _ h))
theorem W.put0 (w : W I H ((p, o) :: M2)) : W I (upd H p o') ((p, o') :: M2) := W.put (M1 := []) w
theorem W.put1 {m0 : Addr × HO} (w : W I H (m0 :: (p, o) :: M2)) : W I (upd H p o') (m0 :: (p, o') :: M2) := W.put (M1 := [m0]) w
theorem W.put2 {m0 m1 : Addr × HO} (w : W I H (m0 :: m1 :: (p, o) :: M2)) : W I (upd H p o') (m0 :: m1 :: (p, o') :: M2) := W.put (M1 := [m0, m1]) w
/-- what may be changed stays from now on -/
theorem W.frz (w : W I H (M1 ++ (p, o) :: M2)) : W (upd I p o) H (M1 ++ M2) := by
  have n := w.nd
  simp only [List.map_append, List.map_cons] at n
  have hp := w.mu (p, o) (List.mem_append_right _ List.mem_cons_self)
  have n2 := List.nodup_append.mp n
  have n3 := List.nodup_cons.mp n2.2.1
  refine ⟨fun b x e => ?_, fun x hx => ?_, ?_⟩
  · by_cases hb : b = p
    · subst hb; rw [upd_same] at e; cases e; exact hp.1
    · rw [upd_ne hb] at e; exact w.imm b x e
  · have q : x.1 ≠ p := by
      rcases List.mem_append.mp hx with h | h
      · exact n2.2.2 _ (List.mem_map_of_mem h) _ List.mem_cons_self
      · exact fun e => n3.1 (e ▸ List.mem_map_of_mem h)
    rw [upd_ne q]
    refine w.mu x ?_
    rcases List.mem_append.mp hx with h | h
    · exact List.mem_append_left _ h
    · exact List.mem_append_right _ (List.mem_cons_of_mem _ h)
  · rw [List.map_append]
    exact n.sublist (List.Sublist.append_left (List.sublist_cons_self _ _) _)
theorem W.frzS (w : W I H (M1 ++ (p, o) :: M2)) : Same I (upd I p o) := same_new (w.mu (p, o) (List.mem_append_right _ List.mem_cons_self)).2
theorem W.at (w : W I H (M1 ++ (p, o) :: M2)) : H p = some o := (w.mu (p, o) (List.mem_append_right _ List.mem_cons_self)).1
theorem W.at0 (w : W I H ((p, o) :: M2)) : H p = some o := W.at (M1 := []) w
theorem W.at1 {m0 : Addr × HO} (w : W I H (m0 :: (p, o) :: M2)) : H p = some o := W.at (M1 := [m0]) w
theorem W.at2 {m0 m1 : Addr × HO} (w : W I H (m0 :: m1 :: (p, o) :: M2)) : H p = some o := W.at (M1 := [m0, m1]) w
/-- the heap has more -/
theorem W.more {H' : Hp} (w : W I H M) (s : Same H H') : W I H' M := ⟨w.imm.trans s, fun x hx => ⟨s _ _ (w.mu x hx).1, (w.mu x hx).2⟩, w.nd⟩
end
end Fs

namespace Fs
open PySem PySem.Spec PyProof.Rows L2

/-! ### rules for several kinds at once -/
section
variable {X : Cx}
theorem opOr {f : Value → Value → Sem Value} {r r' : R2} (a : OpR X f r) (b : OpR X f r') : OpR X f (fun x y H Q => r x y H Q ∨ r' x y H Q) := by
  intro pins s σ H x y v u Q I rx ry h
  rcases h with h | h
  · exact a pins s σ H x y v u Q I rx ry h
  · exact b pins s σ H x y v u Q I rx ry h
theorem callOr {f : Value} {r r' : List V → Hp → VK → Prop} (a : CallR X f r) (b : CallR X f r') : CallR X f (fun xs H Q => r xs H Q ∨ r' xs H Q) := by
  intro pins s σ H xs us Q I rx h
  rcases h with h | h
  · exact a pins s σ H xs us Q I rx h
  · exact b pins s σ H xs us Q I rx h
theorem piOr {tg iter : Expr} {w w' : TI} (a : PI X tg iter w) (b : PI X tg iter w') : PI X tg iter (fun σ H R => w σ H R ∨ w' σ H R) := by
  refine ⟨fun pins s σ H R I h => ?_⟩
  rcases h with h | h
  · exact a.run pins s σ H R I h
  · exact b.run pins s σ H R I h
def rAddS : R2 := fun x y H Q => ∃ i j, x = .str i ∧ y = .str j ∧ i.length + j.length ≤ sizeLine ∧ Q (.str (i ++ j)) H
def rAddU (K : PySem.W.Frag) : R2 := fun x y H Q => rI0 (fun i j => .int (i + j)) x y H Q ∨ (rAddS x y H Q ∨ (rCat x y H Q ∨ rCatT K x y H Q))
theorem uo_add : OpR X (binaryOp .Add) (rAddU X.K) := opOr op_add (opOr op_add_str (opOr op_cat op_catT))
def rMulU : R2 := fun x y H Q => rI CMulW (fun i j => .int (i * j)) x y H Q ∨ rRep x y H Q
theorem uo_mul : OpR X (binaryOp .Mult) rMulU := opOr op_mulW op_rep
def rEqU (K : PySem.W.Frag) : R2 := fun x y H Q => rEq x y H Q ∨ rEqD K x y H Q
def rNeU (K : PySem.W.Frag) : R2 := fun x y H Q => rNe x y H Q ∨ rNeD K x y H Q
theorem uo_eq (hu : X.A.units + 64 < cLine) : OpR X (compareOp .Eq) (rEqU X.K) := opOr op_eq (op_eqD hu)
theorem uo_ne (hu : X.A.units + 64 < cLine) : OpR X (compareOp .NotEq) (rNeU X.K) := opOr op_ne (op_neD hu)
def rLenQ (K : PySem.W.Frag) : List V → Hp → VK → Prop := fun xs H Q => ∃ p ys, xs = [.ref p] ∧ (SqL K H p ys ∨ SqT K H p ys) ∧ Q (.int ys.length) H
def rLenStr : List V → Hp → VK → Prop := fun xs H Q => ∃ z, xs = [.str z] ∧ z.length ≤ sizeLine ∧ Q (.int z.length) H
def rLenU (K : PySem.W.Frag) : List V → Hp → VK → Prop := fun xs H Q => rLenQ K xs H Q ∨ rLenStr xs H Q
theorem uc_len : CallR X (.builtin "len") (rLenU X.K) := callOr call_len_seq call_len_str
def rAbs : List V → Hp → VK → Prop := fun xs H Q => ∃ i, xs = [.int i] ∧ Q (.int (if i < 0 then -i else i)) H
theorem uc_abs : CallR X (.builtin "abs") rAbs := call_abs
def rIsiU (K : PySem.W.Frag) : List V → Hp → VK → Prop := fun xs H Q => rIsi K xs H Q ∨ rIsiT K xs H Q
theorem uc_isi : CallR X (.builtin "isinstance") (rIsiU X.K) := callOr call_isi call_isiT
def rInt1 : List V → Hp → VK → Prop := fun xs H Q => (∃ i, xs = [.int i] ∧ Q (.int i) H) ∨ ∃ k, xs = [.bl k] ∧ Q (.int (if k then 1 else 0)) H
theorem uc_int : CallR X (.type "int") rInt1 := call_int1
def rMin2 : List V → Hp → VK → Prop := fun xs H Q => ∃ i j, xs = [.int i, .int j] ∧ Q (.int (if j < i then j else i)) H
def rMax2 : List V → Hp → VK → Prop := fun xs H Q => ∃ i j, xs = [.int i, .int j] ∧ Q (.int (if j > i then j else i)) H
def rMinU (K : PySem.W.Frag) : List V → Hp → VK → Prop := fun xs H Q => rMin2 xs H Q ∨ rMin K xs H Q
def rMaxU (K : PySem.W.Frag) : List V → Hp → VK → Prop := fun xs H Q => rMax2 xs H Q ∨ rMax K xs H Q
theorem uc_min (hc : X.calm = true) : CallR X (.builtin "min") (rMinU X.K) := callOr (call_min2 hc) (cr_min hc)
theorem uc_max (hc : X.calm = true) : CallR X (.builtin "max") (rMaxU X.K) := callOr (call_max2 hc) (cr_max hc)
def rListOf (K : PySem.W.Frag) : List V → Hp → VK → Prop := fun xs H Q => ∃ p ys, xs = [.ref p] ∧ (SqL K H p ys ∨ SqT K H p ys) ∧ ∀ l, H l = none → Q (.ref l) (upd H l (.lst ys))
theorem uc_list : CallR X (.type "list") (rListOf X.K) := call_list_of
def iSeqU (K : PySem.W.Frag) (tl : TE) : TI := fun σ H R => iList K tl σ H R ∨ iTup K tl σ H R
theorem pi_seq {tg l : Expr} {tl : TE} (h : PE X l tl) : PI X tg l (iSeqU X.K tl) := piOr (pi_list h) (pi_tup h)
end

/-! ### a def that may be called -/
structure Cal (P : Program) (w : World) (K : PySem.W.Frag) (mg : Str → Option Value) (base : Heap) (x : Str) (k : Nat) (ps : List Str) (dvs : List V) (sp : Sp) : Prop where
  ex : ∃ (f : Addr) (fd : FuncData) (ds : List Value), FnOk P w K mg base CX0 k f fd ps sp ∧ mg x = some (.ref f) ∧ PySem.W.keepIn K (.ref f) = true ∧ Binds K fd ps ds ∧ Vals dvs ds
section
variable {X : Cx} {x : Str} {p pos : Pos} {e : Expr} {es : List Expr} {t : TA} {k : Nat} {ps : List Str} {dvs : List V} {sp : Sp}
theorem pe_cal (c : Cal X.prog X.w X.K X.mg X.base x k ps dvs sp) (hr : Room k X.A) (hg : Gl X x) (ha : PA X (e :: es) t) (hdb : (x == ("__debug__" : Str)) = false := by decide)
    (he : starEach (e :: es) X.env = (false, eval e X.env) :: starEach es X.env := by rfl) (hpl : (backTo pos (starEach es X.env)).any (·.1) = false := by rfl) : PE X (.Call (.Name x p) (e :: es) [] pos) (tCall sp dvs E0 t) := by
  obtain ⟨f, fd, ds, F, hm, hk, hb, hd⟩ := c.ex
  exact pe_call F hr hg hm hk hb hd pass0 ha hdb he hpl
theorem pe_cal0 (c : Cal X.prog X.w X.K X.mg X.base x k ps dvs sp) (hr : Room k X.A) (hg : Gl X x) (hdb : (x == ("__debug__" : Str)) = false := by decide) : PE X (.Call (.Name x p) [] [] pos) (tCall sp dvs E0 tNil) := by
  obtain ⟨f, fd, ds, F, hm, hk, hb, hd⟩ := c.ex
  exact pe_call0 F hr hg hm hk hb hd pass0 hdb
end

/-! ### steps of a reading -/
section
variable {K : PySem.W.Frag} {σ σ' : L2.St} {I H : Hp} {M M1 M2 : List (Addr × HO)} {Q : VK} {R : Bool → Hp → Prop} {RA : List V → Hp → Prop} {G : Ends} {ta tb tc te : TE} {t u : TS} {c c' : TT} {tA tr : TA} {g : TG} {r r' : R2} {i : Nat} {v x y : V} {xs vs : List V} {d : D} {ds es : List D}
-- statements
theorem s_seq (h : t { G with nx := u G } σ H) : tSeq t u G σ H := h
theorem s_next (h : G.nx σ H) : tNext G σ H := h
theorem s_brk (h : G.bk σ H) : tBreak G σ H := h
theorem s_cnt (h : G.ct σ H) : tCont G σ H := h
theorem s_ifS (h : c σ H fun b H1 => if b = true then t G σ H1 else u G σ H1) : tIfS c t u G σ H := h
theorem s_asg (h : te σ H fun x H1 => g x σ H1 G.nx) : tAsg te g G σ H := h
theorem s_ret (h : te σ H G.rt) : tRet te G σ H := h
theorem s_retN (h : G.rt .non H) : tRetN G σ H := h
theorem s_drop (h : te σ H fun _ H1 => G.nx σ H1) : tDrop te G σ H := h
theorem s_par {i j : Nat} (h : tA σ H fun vs H1 => ∃ v w, vs = [v, w] ∧ G.nx ((σ.set i (some v)).set j (some w)) H1) : tPar i j tA G σ H := h
theorem s_par2 {P : V → V → Prop} (h : P x y) : ∃ v w, [x, y] = [v, w] ∧ P v w := ⟨x, y, rfl, h⟩
theorem s_gname {T : L2.St → Hp → Prop} (h : T (σ.set i (some v)) H) : gName i v σ H T := h
/-- a mid-word: the ways of a statement meet -/
theorem s_mid (Mid : L2.St → Hp → Prop) (k : ∀ σ H, Mid σ H → u G σ H) (h : ∀ N : L2.St → Hp → Prop, (∀ σ' H', Mid σ' H' → N σ' H') → t { G with nx := N } σ H) : tSeq t u G σ H := h _ k
/-- .. (elder form) -/
theorem s_cut (Mid : L2.St → Hp → Prop) (h : t { G with nx := Mid } σ H) (k : ∀ σ H, Mid σ H → u G σ H) (mono : ∀ {G' : Ends}, True := by trivial) (hm : (∀ σ H, Mid σ H → u G σ H) → t { G with nx := Mid } σ H → t { G with nx := u G } σ H) : tSeq t u G σ H := hm k h
-- expressions
theorem s_var (h : σ[i]? = some (some v)) (q : Q v H) : tVar i σ H Q := ⟨v, h, q⟩
theorem s_c (q : Q v H) : tC v σ H Q := q
theorem s_op (h : ta σ H fun x H1 => tb σ H1 fun y H2 => r x y H2 Q) : tOp r ta tb σ H Q := h
theorem s_un {r : V → Hp → VK → Prop} (h : ta σ H fun x H1 => r x H1 Q) : tUn r ta σ H Q := h
theorem s_test (h : ta σ H fun x H' => ∃ k, x = .bl k ∧ R k H') : tTest ta σ H R := h
theorem s_B (h : ta σ H fun x H' => ∃ k, x = .bl k ∧ R k H') : tB ta σ H R := h
theorem s_k {b : Bool} {P : Bool → Prop} (h : P b) : ∃ k, V.bl b = .bl k ∧ P k := ⟨b, rfl, h⟩
theorem s_and (h : c σ H fun b H1 => if b = true then c' σ H1 R else R false H1) : tAnd c c' σ H R := h
theorem s_or (h : c σ H fun b H1 => if b = true then R true H1 else c' σ H1 R) : tOr c c' σ H R := h
theorem s_not (h : c σ H fun b H1 => R (!b) H1) : tNot c σ H R := h
theorem s_andV (h : ta σ H fun x H1 => ∃ c, x = .bl c ∧ if c = true then tb σ H1 Q else Q (.bl false) H1) : tAndV ta tb σ H Q := h
theorem s_orV (h : ta σ H fun x H1 => ∃ c, x = .bl c ∧ if c = true then Q (.bl true) H1 else tb σ H1 Q) : tOrV ta tb σ H Q := h
theorem s_notV (h : ta σ H fun x H1 => ∃ c, x = .bl c ∧ Q (.bl (!c)) H1) : tNotV ta σ H Q := h
theorem s_if (h : c σ H fun b H1 => if b = true then ta σ H1 Q else tb σ H1 Q) : tIf c ta tb σ H Q := h
theorem s_isN (h : ta σ H fun x H1 => Q (.bl (decide (x = .non))) H1) : tIsN ta σ H Q := h
theorem s_notN (h : ta σ H fun x H1 => Q (.bl (!decide (x = .non))) H1) : tNotN ta σ H Q := h
theorem s_chain (h : ta σ H fun x H1 => tb σ H1 fun y H2 => r x y H2 fun z H3 => ∃ k, z = .bl k ∧ if k = true then tc σ H3 fun w H4 => r' y w H4 Q else Q (.bl false) H3) : tChain r r' ta tb tc σ H Q := by
  unfold tChain
  exact h
theorem s_nil (h : RA [] H) : tNil σ H RA := h
theorem s_cons (h : ta σ H fun x H1 => tr σ H1 fun xs H2 => RA (x :: xs) H2) : tCons ta tr σ H RA := h
theorem s_call {sp : Sp} {dvs : List V} {E : XK} (h : tA σ H fun vs H1 => sp (vs ++ dvs) H1 Q E) : tCall sp dvs E tA σ H Q := h
theorem s_cb {r : List V → Hp → VK → Prop} (h : tA σ H fun vs H1 => r vs H1 Q) : tCB r tA σ H Q := h
-- ifs
theorem s_ite {b : Bool} {A B : Prop} (h1 : b = true → A) (h2 : b = false → B) : if b = true then A else B := by
  cases b with
  | true => exact iteT (h1 rfl)
  | false => exact iteF (h2 rfl)
theorem s_iteN {b : Bool} {A B : Prop} (h : if b = true then B else A) : if (!b) = true then A else B := by
  cases b with
  | true => exact iteF (by simpa using h)
  | false => exact iteT (by simpa using h)
theorem s_iteD {p : Prop} [Decidable p] {A B : Prop} (h1 : p → A) (h2 : ¬ p → B) : if decide p = true then A else B := s_ite (fun h => h1 (of_decide_eq_true h)) fun h => h2 (of_decide_eq_false h)
theorem s_iteDp {p : Prop} [Decidable p] {A B : Prop} (hp : p) (h1 : A) : if decide p = true then A else B := s_iteD (fun _ => h1) fun q => absurd hp q
theorem s_iteDn {p : Prop} [Decidable p] {A B : Prop} (hp : ¬ p) (h1 : B) : if decide p = true then A else B := s_iteD (fun q => absurd q hp) fun _ => h1
theorem s_iteI {i j : Int} {A B : Prop} (h1 : i = j → A) (h2 : i ≠ j → B) : if decide (V.int i = V.int j) = true then A else B := s_iteD (fun h => h1 (V.int.inj h)) fun h => h2 fun e => h (congrArg V.int e)
theorem s_iteIp {i j : Int} {A B : Prop} (hp : i = j) (h1 : A) : if decide (V.int i = V.int j) = true then A else B := s_iteI (fun _ => h1) fun q => absurd hp q
theorem s_iteIn {i j : Int} {A B : Prop} (hp : i ≠ j) (h1 : B) : if decide (V.int i = V.int j) = true then A else B := s_iteI (fun q => absurd q hp) fun _ => h1
-- ints
theorem s_I0 {f : Int → Int → V} {i j : Int} (q : Q (f i j) H) : rI0 f (.int i) (.int j) H Q := ⟨i, j, rfl, rfl, q⟩
theorem s_I {C : Int → Int → Prop} {f : Int → Int → V} {i j : Int} (hc : C i j) (q : Q (f i j) H) : rI C f (.int i) (.int j) H Q := ⟨i, j, rfl, rfl, hc, q⟩
theorem s_U {f : Int → V} {i : Int} (q : Q (f i) H) : rU f (.int i) H Q := ⟨i, rfl, q⟩
theorem s_add {i j : Int} (q : Q (.int (i + j)) H) : rAddU K (.int i) (.int j) H Q := .inl ⟨i, j, rfl, rfl, q⟩
theorem s_addS {i j : Str} (h : i.length + j.length ≤ sizeLine) (q : Q (.str (i ++ j)) H) : rAddU K (.str i) (.str j) H Q := .inr (.inl ⟨i, j, rfl, rfl, h, q⟩)
theorem s_mul {i j : Int} (hc : CMulW i j) (q : Q (.int (i * j)) H) : rMulU (.int i) (.int j) H Q := .inl ⟨i, j, rfl, rfl, hc, q⟩
theorem s_eq (h : scal x y = true) (q : Q (.bl (decide (x = y))) H) : rEqU K x y H Q := .inl ⟨h, q⟩
theorem s_ne (h : scal x y = true) (q : Q (.bl (!decide (x = y))) H) : rNeU K x y H Q := .inl ⟨h, q⟩
theorem s_abs {i : Int} (q : Q (.int (if i < 0 then -i else i)) H) : rAbs [.int i] H Q := ⟨i, rfl, q⟩
theorem s_intB {b : Bool} (q : Q (.int (if b then 1 else 0)) H) : rInt1 [.bl b] H Q := .inr ⟨b, rfl, q⟩
theorem s_intI {i : Int} (q : Q (.int i) H) : rInt1 [.int i] H Q := .inl ⟨i, rfl, q⟩
theorem s_min2 {i j : Int} (q : Q (.int (if j < i then j else i)) H) : rMinU K [.int i, .int j] H Q := .inl ⟨i, j, rfl, q⟩
theorem s_max2 {i j : Int} (q : Q (.int (if j > i then j else i)) H) : rMaxU K [.int i, .int j] H Q := .inl ⟨i, j, rfl, q⟩
-- reading what stays
theorem atI_isa {i : Int} (a : IsA I vs ds) (h : atI ds i = some d) : ∃ v, atI vs i = some v ∧ Is I v d := by
  unfold atI at h ⊢
  rw [a.length]
  cases e : ixN ds.length i with
  | none => rw [e] at h; cases h
  | some j => rw [e] at h; exact a.get h
theorem s_ixT {i : Int} (w : W I H M) (h : Is I v (.tup ds)) (hd : atI ds i = some d) (q : ∀ u, Is I u d → Q u H) : rIx K v (.int i) H Q := by
  obtain ⟨p, vs, rfl, hp, a⟩ := h.tup_ex
  obtain ⟨u, e, hu⟩ := atI_isa a hd
  exact .inr (.inl ⟨p, vs, i, u, rfl, rfl, .inl (.inl (w.imm _ _ hp)), e, q u hu⟩)
theorem s_ixL {i : Int} (w : W I H M) (h : Is I v (.lst ds)) (hd : atI ds i = some d) (q : ∀ u, Is I u d → Q u H) : rIx K v (.int i) H Q := by
  obtain ⟨p, vs, rfl, hp, a⟩ := h.lst_ex
  obtain ⟨u, e, hu⟩ := atI_isa a hd
  exact .inl ⟨p, vs, i, u, rfl, rfl, .inl (.inl (w.imm _ _ hp)), e, q u hu⟩
/-- .. of a list that may be changed -/
theorem s_ixM {p : Addr} {i : Int} (h : H p = some (.lst vs)) (hd : atI vs i = some v) (q : Q v H) : rIx K (.ref p) (.int i) H Q := .inl ⟨p, vs, i, v, rfl, rfl, .inl (.inl h), hd, q⟩
theorem s_lenL (w : W I H M) (h : Is I v (.lst ds)) (q : Q (.int ds.length) H) : rLenU K [v] H Q := by
  obtain ⟨p, vs, rfl, hp, a⟩ := h.lst_ex
  exact .inl ⟨p, vs, rfl, .inl (.inl (.inl (w.imm _ _ hp))), by rw [a.length]; exact q⟩
theorem s_lenT (w : W I H M) (h : Is I v (.tup ds)) (q : Q (.int ds.length) H) : rLenU K [v] H Q := by
  obtain ⟨p, vs, rfl, hp, a⟩ := h.tup_ex
  exact .inl ⟨p, vs, rfl, .inr (.inl (.inl (w.imm _ _ hp))), by rw [a.length]; exact q⟩
theorem s_lenM {p : Addr} (h : H p = some (.lst vs)) (q : Q (.int vs.length) H) : rLenU K [.ref p] H Q := .inl ⟨p, vs, rfl, .inl (.inl (.inl h)), q⟩
-- new things
def NewT (Q : VK) (xs : List V) (H : Hp) : Prop := xs.length ≤ sizeLine ∧ ∀ p, H p = none → Q (.ref p) (upd H p (.tup xs))
def NewL (Q : VK) (xs : List V) (H : Hp) : Prop := xs.length ≤ sizeLine ∧ ∀ p, H p = none → Q (.ref p) (upd H p (.lst xs))
theorem s_tup (h : tA σ H fun xs H1 => NewT Q xs H1) : tTup tA σ H Q := h
theorem s_lst (h : tA σ H fun xs H1 => NewL Q xs H1) : tLst tA σ H Q := h
theorem s_newT (w : W I H M) (a : IsA I xs ds) (hz : xs.length ≤ 1000) (q : ∀ p J H', Same I J → I p = none → W J H' M → Is J (.ref p) (.tup ds) → Q (.ref p) H') : NewT Q xs H :=
  ⟨Nat.le_trans hz (by decide), fun p hp => q p _ _ (w.same hp) (w.fresh hp) (w.newI hp) (.tup upd_same (a.mono (w.same hp)))⟩
theorem s_newL (w : W I H M) (a : IsA I xs ds) (hz : xs.length ≤ 1000) (q : ∀ p J H', Same I J → I p = none → W J H' M → Is J (.ref p) (.lst ds) → Q (.ref p) H') : NewL Q xs H :=
  ⟨Nat.le_trans hz (by decide), fun p hp => q p _ _ (w.same hp) (w.fresh hp) (w.newI hp) (.lst upd_same (a.mono (w.same hp)))⟩
theorem s_newM (w : W I H M) (hz : xs.length ≤ 1000) (q : ∀ p H', W I H' ((p, .lst xs) :: M) → Q (.ref p) H') : NewL Q xs H :=
  ⟨Nat.le_trans hz (by decide), fun p hp => q p _ (w.newM hp)⟩
/-- .. behind the head (the bag) -/
theorem s_newM2 {m : Addr × HO} (w : W I H (m :: M)) (hz : xs.length ≤ 1000) (q : ∀ p H', W I H' (m :: (p, .lst xs) :: M) → Q (.ref p) H') : NewL Q xs H :=
  ⟨Nat.le_trans hz (by decide), fun p hp => q p _ (w.newM2 hp)⟩
-- unpacking
theorem s_gtup {n : Nat} {gs : TGs} {T : L2.St → Hp → Prop} (w : W I H M) (h : Is I v (.tup ds)) (hn : ds.length = n) (q : ∀ xs, IsA I xs ds → gs xs σ H T) : gTup K n gs v σ H T := by
  obtain ⟨p, vs, rfl, hp, a⟩ := h.tup_ex
  exact ⟨p, vs, rfl, .inl (.inl (w.imm _ _ hp)), by rw [a.length]; exact hn, q vs a⟩
theorem s_gtup2 {gs : TGs} {T : L2.St → Hp → Prop} {d0 d1 : D} (w : W I H M) (h : Is I v (.tup [d0, d1])) (q : ∀ x y, Is I x d0 → Is I y d1 → gs [x, y] σ H T) : gTup K 2 gs v σ H T :=
  s_gtup w h rfl fun _ a => by
    cases a with | cons h0 a =>
    cases a with | cons h1 a =>
    cases a
    exact q _ _ h0 h1
theorem s_gtup3 {gs : TGs} {T : L2.St → Hp → Prop} {d0 d1 d2 : D} (w : W I H M) (h : Is I v (.tup [d0, d1, d2])) (q : ∀ x y z, Is I x d0 → Is I y d1 → Is I z d2 → gs [x, y, z] σ H T) : gTup K 3 gs v σ H T :=
  s_gtup w h rfl fun _ a => by
    cases a with | cons h0 a =>
    cases a with | cons h1 a =>
    cases a with | cons h2 a =>
    cases a
    exact q _ _ _ h0 h1 h2
theorem s_gtup4 {gs : TGs} {T : L2.St → Hp → Prop} {d0 d1 d2 d3 : D} (w : W I H M) (h : Is I v (.tup [d0, d1, d2, d3])) (q : ∀ x y z u, Is I x d0 → Is I y d1 → Is I z d2 → Is I u d3 → gs [x, y, z, u] σ H T) : gTup K 4 gs v σ H T :=
  s_gtup w h rfl fun _ a => by
    cases a with | cons h0 a =>
    cases a with | cons h1 a =>
    cases a with | cons h2 a =>
    cases a with | cons h3 a =>
    cases a
    exact q _ _ _ _ h0 h1 h2 h3
theorem s_gtup5 {gs : TGs} {T : L2.St → Hp → Prop} {d0 d1 d2 d3 d4 : D} (w : W I H M) (h : Is I v (.tup [d0, d1, d2, d3, d4])) (q : ∀ x y z u t, Is I x d0 → Is I y d1 → Is I z d2 → Is I u d3 → Is I t d4 → gs [x, y, z, u, t] σ H T) : gTup K 5 gs v σ H T :=
  s_gtup w h rfl fun _ a => by
    cases a with | cons h0 a =>
    cases a with | cons h1 a =>
    cases a with | cons h2 a =>
    cases a with | cons h3 a =>
    cases a with | cons h4 a =>
    cases a
    exact q _ _ _ _ _ h0 h1 h2 h3 h4
theorem s_gnil {T : L2.St → Hp → Prop} (q : T σ H) : gNil [] σ H T := ⟨rfl, q⟩
theorem s_gcons {gs : TGs} {T : L2.St → Hp → Prop} (h : g x σ H fun σ' H' => gs xs σ' H' T) : gCons g gs (x :: xs) σ H T := ⟨x, xs, rfl, h⟩
-- fields
theorem s_fld {f : Str} (h : ta σ H fun x H1 => ∃ a C dx fs v, x = .ref a ∧ H1 a = some (.ins C dx fs) ∧ Cls K C ∧ NoAttr K C f ∧ fs.lookup f = some v ∧ Q v H1) : tFld K ta f σ H Q := h
theorem s_fldAt {C : Addr} {f : Str} {fs : List (Str × D)} (w : W I H M) (h : Is I v (.obj C fs)) (hc : Cls K C) (hn : NoAttr K C f) (hd : fs.lookup f = some d) (q : ∀ u, Is I u d → Q u H) :
    ∃ a C dx fs u, v = .ref a ∧ H a = some (.ins C dx fs) ∧ Cls K C ∧ NoAttr K C f ∧ fs.lookup f = some u ∧ Q u H := by
  obtain ⟨p, dx, vs, rfl, hp, a⟩ := h.obj_ex
  obtain ⟨u, e, hu⟩ := a.get hd
  exact ⟨p, C, dx, vs, u, rfl, w.imm _ _ hp, hc, hn, e, q u hu⟩
-- isinstance
def D.tn : D → Option String
  | .non => some "NoneType" | .bl _ => some "bool" | .int _ => some "int" | .str _ => some "str" | .tup _ => some "tuple" | .lst _ => some "list" | .dict => some "dict" | _ => none
theorem Is.tyx {a : String} (w : W I H M) (h : Is I v d) (e : d.tn = some a) : TyX K H v (.type a) := by
  cases h with
  | non => cases e; exact .base .non
  | bl b => cases e; exact .base (.bl b)
  | int n => cases e; exact .base (.int n)
  | str n => cases e; exact .base (.str n)
  | tup hp _ => cases e; exact .base (.tup (w.imm _ _ hp))
  | lst hp _ => cases e; exact .base (.lst (w.imm _ _ hp))
  | ref a => cases e
  | ty n => cases e
  | obj _ _ => cases e
  | dct hp => cases e; exact .base (.dK (w.imm _ _ hp))
theorem s_isi {a b : String} {k : Bool} (w : W I H M) (h : Is I v d) (e : d.tn = some a) (hb : kitB a b = some k) (q : Q (.bl k) H) : rIsiU K [v, .ty b] H Q :=
  .inl ⟨v, .ty b, .type a, .type b, k, rfl, .ty b, h.tyx w e, kit_ty hb, q⟩
theorem kit_ii : kitB "int" "int" = some true := by decide +kernel
theorem kit_ib : kitB "int" "bool" = some false := by decide +kernel
theorem kit_bi : kitB "bool" "int" = some true := by decide +kernel
theorem kit_bb : kitB "bool" "bool" = some true := by decide +kernel
theorem kit_tt : kitB "tuple" "tuple" = some true := by decide +kernel
theorem kit_ll : kitB "list" "list" = some true := by decide +kernel
end
end Fs

namespace Fs
open PySem PySem.Spec PyProof.Rows L2

/-! ### the built-ins' names -/
structure Bn (mg : Str → Option Value) : Prop where
  len_ : mg "len" = none
  abs_ : mg "abs" = none
  isinstance_ : mg "isinstance" = none
  min_ : mg "min" = none
  max_ : mg "max" = none
  sum_ : mg "sum" = none
  sorted_ : mg "sorted" = none
  range_ : mg "range" = none
  zip_ : mg "zip" = none
  enumerate_ : mg "enumerate" = none
  reversed_ : mg "reversed" = none
  int_ : mg "int" = none
  bool_ : mg "bool" = none
  tuple_ : mg "tuple" = none
  list_ : mg "list" = none
  str_ : mg "str" = none
  dict_ : mg "dict" = none
  ValueError_ : mg "ValueError" = none
  set_ : mg "set" = none
  any_ : mg "any" = none
  all_ : mg "all" = none
section
variable {X : Cx} {pos : Pos}
theorem pe_globI {x : Str} {n : Int} (hg : Gl X x) (hm : ∃ t, X.mg x = some (.int n t)) (hd : (x == ("__debug__" : Str)) = false := by decide) : PE X (.Name x pos) (tC (.int n)) := by
  obtain ⟨t, e⟩ := hm
  exact pe_glob hg e ⟨t, rfl⟩ hd
theorem get_list : PGet X (rIxL X.K) := by
  intro pins s σ H x y v u Q I rx ry h
  obtain ⟨p, xs, i, z, rfl, rfl, hq, he, q⟩ := h
  cases rx
  obtain ⟨t, rfl⟩ := ry
  obtain ⟨its, r, pl, hz⟩ := I.list hq
  obtain ⟨j, h1, h2, h3, h4, h5⟩ := atI_get he
  obtain ⟨w, ew, rw'⟩ := r.get h2
  have hl := r.length
  have hn := line63
  have fin : EP X pins σ Q w s := ⟨z, H, I, rw', q⟩
  by_cases h0 : 0 ≤ i
  · have hj : i.toNat = j := by
      rw [seqIndex_of h0 h5] at h1
      exact Option.some.inj h1
    exact wpAny_getItem_list pl.isList h0 (by omega) (by rw [hj]; simpa using ew) fin
  · have hj : (i + (its.toArray.size : Int)).toNat = j := by
      rw [seqIndex_neg (by omega) h4] at h1
      rw [List.size_toArray, ← hl]
      exact Option.some.inj h1
    exact wpAny_getItem_list_neg pl.isList (by omega) (by rw [List.size_toArray] <;> omega) (by omega) (by rw [hj]; simpa using ew) fin
theorem ps_augL {o i e : Expr} {to ti te : TE} {tpos : Pos} (ho : PE X o to) (hi : PE X i ti) (he : PE X e te)
    (ha : ∀ ov iv new, augStore i ov iv new = (do holding [new, ov, iv] (setItem ov iv new); release [new, ov, iv] []; pure .next) := by intros; rfl) : PS X (.AugAssign (.Subscript o i tpos) .Add e pos) (tAugS to ti te (rIxL X.K) (ipI fun i j => i + j) rSetL) :=
  ps_augS ho hi get_list he ip_add set_list ha
end

/-! ### loops -/
section
variable {K : PySem.W.Frag} {σ : L2.St} {I H : Hp} {M : List (Addr × HO)} {G : Ends} {c : TT} {tb : TS} {g : TG}
theorem s_while (Pv : L2.St → Hp → Prop) (μ : L2.St → Nat) (h0 : Pv σ H)
    (hs : ∀ σ H, Pv σ H → c σ H fun b H1 => if b = true then ∃ N : L2.St → Hp → Prop, (∀ σ' H', N σ' H' → ∃ m', m' < μ σ ∧ m' = μ σ' ∧ Pv σ' H') ∧ tb { G with nx := N, ct := N, bk := G.nx } σ H1 else G.nx σ H1) : tWhile c tb G σ H := by
  refine ⟨fun m σ H => m = μ σ ∧ Pv σ H, ⟨_, rfl, h0⟩, ?_⟩
  rintro m σ H ⟨rfl, p⟩
  exact hs σ H p
theorem s_wN {Pv : L2.St → Hp → Prop} {μ : L2.St → Nat} {m : Nat} {σ1 : L2.St} (h : tb { G with nx := fun σ' H' => Pv σ' H' ∧ μ σ' < m, ct := fun σ' H' => Pv σ' H' ∧ μ σ' < m, bk := G.nx } σ1 H) :
    ∃ N : L2.St → Hp → Prop, (∀ σ' H', N σ' H' → ∃ m', m' < m ∧ m' = μ σ' ∧ Pv σ' H') ∧ tb { G with nx := N, ct := N, bk := G.nx } σ1 H :=
  ⟨_, fun _ _ h => ⟨_, h.2, rfl, h.1⟩, h⟩
theorem s_for {wi : TI} (h : wi σ H fun J H1 => ∃ W : Nat → Nat → L2.St → Hp → Prop, (∃ m, W 0 m σ H1) ∧ ∀ i m σ H, W i m σ H →
  (J.stop i H ∧ G.nx σ H) ∨ (J.go i H ∧ ∃ N : L2.St → Hp → Prop, (∀ σ' H', N σ' H' → ∃ m', m' < m ∧ W (i + 1) m' σ' H') ∧ ∀ x H', J.yld i H x H' → g x σ H' fun σ2 H2 => tb { G with nx := N, ct := N, bk := G.nx } σ2 H2)) : tFor wi g tb G σ H := h
theorem s_rng1 {ta : TA} {R : It → Hp → Prop} (h : ta σ H fun vs H1 => ∃ j : Int, vs = [.int j] ∧ -(2 ^ 62) ≤ j ∧ j < 2 ^ 62 ∧ R (Itr 0 j.toNat) H1) : iRng1 ta σ H R := h
theorem s_rng1' {P : Int → Prop} {j : Int} (h1 : -(2 ^ 62) ≤ j) (h2 : j < 2 ^ 62) (h : P j) : ∃ i : Int, [V.int j] = [.int i] ∧ -(2 ^ 62) ≤ i ∧ i < 2 ^ 62 ∧ P i := ⟨j, rfl, h1, h2, h⟩
theorem s_iL {tl : TE} {R : It → Hp → Prop} (h : tl σ H fun x H1 => ∃ a, x = .ref a ∧ (∃ xs, SqL K H1 a xs) ∧ R (Itl K a) H1) : iList K tl σ H R := h
theorem s_iT {tl : TE} {R : It → Hp → Prop} (h : tl σ H fun x H1 => ∃ a, x = .ref a ∧ (∃ xs, SqT K H1 a xs) ∧ R (Itt K a) H1) : iTup K tl σ H R := h
/-- a for over a list that stays: the word Pv over the turn, the slots, the heap; it says W of an extension of I -/
theorem s_forL {ds : List D} {v : V} (w : W I H M) (h : Is I v (.lst ds)) (Pv : Nat → L2.St → Hp → Prop) (h0 : Pv 0 σ H) (hI : ∀ i σ H, Pv i σ H → Same I H)
    (hs : ∀ i d x σ H, ds[i]? = some d → Is I x d → Pv i σ H → g x σ H fun σ2 H2 => tb { G with nx := Pv (i + 1), ct := Pv (i + 1), bk := G.nx } σ2 H2) (hd : ∀ σ H, Pv ds.length σ H → G.nx σ H) :
    ∃ a, v = .ref a ∧ (∃ xs, SqL K H a xs) ∧ ∃ W : Nat → Nat → L2.St → Hp → Prop, (∃ m, W 0 m σ H) ∧ ∀ i m σ H, W i m σ H →
      ((Itl K a).stop i H ∧ G.nx σ H) ∨ ((Itl K a).go i H ∧ ∃ N : L2.St → Hp → Prop, (∀ σ' H', N σ' H' → ∃ m', m' < m ∧ W (i + 1) m' σ' H') ∧ ∀ x H', (Itl K a).yld i H x H' → g x σ H' fun σ2 H2 => tb { G with nx := N, ct := N, bk := G.nx } σ2 H2) := by
  obtain ⟨p, vs, rfl, hp, a⟩ := h.lst_ex
  refine ⟨p, rfl, ⟨vs, .inl (.inl (w.imm _ _ hp))⟩, ?_⟩
  refine for_it (walk_list (K := K) (xs := vs)) Pv h0 (fun i σ H _ q => .inl (.inl (hI i σ H q _ _ hp))) (fun i x σ H H' hi q y => ?_) (fun σ H q => hd σ H (by rw [← a.length]; exact q))
  obtain ⟨rfl, e⟩ := y
  obtain ⟨d, e1, e2⟩ := a.of e
  exact hs i d x σ _ e1 e2 q
theorem s_forT {ds : List D} {v : V} (w : W I H M) (h : Is I v (.tup ds)) (Pv : Nat → L2.St → Hp → Prop) (h0 : Pv 0 σ H) (hI : ∀ i σ H, Pv i σ H → Same I H)
    (hs : ∀ i d x σ H, ds[i]? = some d → Is I x d → Pv i σ H → g x σ H fun σ2 H2 => tb { G with nx := Pv (i + 1), ct := Pv (i + 1), bk := G.nx } σ2 H2) (hd : ∀ σ H, Pv ds.length σ H → G.nx σ H) :
    ∃ a, v = .ref a ∧ (∃ xs, SqT K H a xs) ∧ ∃ W : Nat → Nat → L2.St → Hp → Prop, (∃ m, W 0 m σ H) ∧ ∀ i m σ H, W i m σ H →
      ((Itt K a).stop i H ∧ G.nx σ H) ∨ ((Itt K a).go i H ∧ ∃ N : L2.St → Hp → Prop, (∀ σ' H', N σ' H' → ∃ m', m' < m ∧ W (i + 1) m' σ' H') ∧ ∀ x H', (Itt K a).yld i H x H' → g x σ H' fun σ2 H2 => tb { G with nx := N, ct := N, bk := G.nx } σ2 H2) := by
  obtain ⟨p, vs, rfl, hp, a⟩ := h.tup_ex
  refine ⟨p, rfl, ⟨vs, .inl (.inl (w.imm _ _ hp))⟩, ?_⟩
  refine for_it (walk_tup (K := K) (xs := vs)) Pv h0 (fun i σ H _ q => .inl (.inl (hI i σ H q _ _ hp))) (fun i x σ H H' hi q y => ?_) (fun σ H q => hd σ H (by rw [← a.length]; exact q))
  obtain ⟨rfl, e⟩ := y
  obtain ⟨d, e1, e2⟩ := a.of e
  exact hs i d x σ _ e1 e2 q
theorem s_forR {lo : Int} {n : Nat} (Pv : Nat → L2.St → Hp → Prop) (h0 : Pv 0 σ H)
    (hs : ∀ i σ H, i < n → Pv i σ H → g (.int (lo + i)) σ H fun σ2 H2 => tb { G with nx := Pv (i + 1), ct := Pv (i + 1), bk := G.nx } σ2 H2) (hd : ∀ σ H, Pv n σ H → G.nx σ H) :
    ∃ W : Nat → Nat → L2.St → Hp → Prop, (∃ m, W 0 m σ H) ∧ ∀ i m σ H, W i m σ H →
      ((Itr lo n).stop i H ∧ G.nx σ H) ∨ ((Itr lo n).go i H ∧ ∃ N : L2.St → Hp → Prop, (∀ σ' H', N σ' H' → ∃ m', m' < m ∧ W (i + 1) m' σ' H') ∧ ∀ x H', (Itr lo n).yld i H x H' → g x σ H' fun σ2 H2 => tb { G with nx := N, ct := N, bk := G.nx } σ2 H2) := for_range Pv h0 hs hd
end

/-! ### changing a list -/
section
variable {K : PySem.W.Frag} {σ : L2.St} {I H : Hp} {M : List (Addr × HO)} {Q : VK} {x v : V} {xs vs : List V} {p : Addr} {ta te ti : TE} {tA : TA}
theorem s_bm {T : String} {r : V → List V → Hp → VK → Prop} (h : ta σ H fun x H1 => tyV K T x H1 ∧ tA σ H1 fun xs H2 => r x xs H2 Q) : tBM K T r ta tA σ H Q := h
theorem s_bm0 {T : String} {r : V → List V → Hp → VK → Prop} (h : ta σ H fun x H1 => tyV K T x H1 ∧ r x [] H1 Q) : tBM0 K T r ta σ H Q := h
theorem s_tyL {A : Prop} (h : H p = some (.lst xs)) (a : A) : tyV K "list" (.ref p) H ∧ A := ⟨.inl ⟨rfl, _, .inl (.inl h)⟩, a⟩
theorem s_app (h : H p = some (.lst xs)) (hz : xs.length ≤ 100000) (q : Q .non (upd H p (.lst (xs ++ [x])))) : rAppend (.ref p) [x] H Q := ⟨p, xs, x, rfl, rfl, h, Nat.lt_of_le_of_lt hz (by decide), q⟩
theorem s_clear (h : H p = some (.lst xs)) (q : Q .non (upd H p (.lst []))) : rClear (.ref p) [] H Q := ⟨p, xs, rfl, rfl, h, q⟩
theorem s_gsub {T : L2.St → Hp → Prop} {t : TSet} (h : ta σ H fun o H1 => ti σ H1 fun i H2 => t o i v H2 fun H3 => T σ H3) : gSub ta ti t v σ H T := h
theorem s_setL {T : Hp → Prop} {k : Int} {j : Nat} (h : H p = some (.lst xs)) (hj : ixN xs.length k = some j) (q : T (upd H p (.lst (xs.set j v)))) : rSetL (.ref p) (.int k) v H T := ⟨p, xs, k, j, rfl, rfl, h, hj, q⟩
theorem s_augS {G : Ends} {tget : V → V → Hp → VK → Prop} {tip : TIp} {tset : TSet} (h : ta σ H fun o H1 => ti σ H1 fun i H2 => tget o i H2 fun x H3 => te σ H3 fun y H4 => tip x y H4 fun z H5 => tset o i z H5 fun H6 => G.nx σ H6) : tAugS ta ti te tget tip tset G σ H := h
theorem s_ixLM {k : Int} (h : H p = some (.lst xs)) (hd : atI xs k = some v) (q : Q v H) : rIxL K (.ref p) (.int k) H Q := ⟨p, xs, k, v, rfl, rfl, .inl (.inl h), hd, q⟩
theorem s_ipI {f : Int → Int → Int} {i j : Int} (q : Q (.int (f i j)) H) : ipI f (.int i) (.int j) H Q := ⟨i, j, rfl, rfl, q⟩
def RevQ (K : PySem.W.Frag) (Q : VK) (v : V) (H : Hp) : Prop := ∃ a xs, v = .ref a ∧ SqL K H a xs ∧ ∀ p, H p = none → Q (.ref p) (upd H p (.lst xs.reverse))
theorem s_rev (h : te σ H fun x H1 => RevQ K Q x H1) : tRevL K te σ H Q := h
theorem s_rev' {ds : List D} (w : W I H M) (h : Is I v (.lst ds)) (q : ∀ p J H', Same I J → I p = none → W J H' M → Is J (.ref p) (.lst ds.reverse) → Q (.ref p) H') : RevQ K Q v H := by
  obtain ⟨p, vs, rfl, hp, a⟩ := h.lst_ex
  exact ⟨p, vs, rfl, .inl (.inl (w.imm _ _ hp)), fun l hl => q l _ _ (w.same hl) (w.fresh hl) (w.newI hl) (.lst upd_same (a.rev.mono (w.same hl)))⟩
end

section
variable {K : PySem.W.Frag} {σ : L2.St} {I H : Hp} {M : List (Addr × HO)} {Q : VK} {x v : V} {xs vs : List V} {p : Addr} {ta te ti : TE} {tA : TA} {m0 m1 : Addr × HO} {d0 d1 : D} {ds : List D}
theorem s_setW0 {T : Hp → Prop} {k : Int} {j : Nat} (w : W I H ((p, .lst xs) :: M)) (hj : ixN xs.length k = some j) (q : ∀ H', W I H' ((p, .lst (xs.set j v)) :: M) → T H') : rSetL (.ref p) (.int k) v H T := s_setL w.at0 hj (q _ w.put0)
theorem s_setW1 {T : Hp → Prop} {k : Int} {j : Nat} (w : W I H (m0 :: (p, .lst xs) :: M)) (hj : ixN xs.length k = some j) (q : ∀ H', W I H' (m0 :: (p, .lst (xs.set j v)) :: M) → T H') : rSetL (.ref p) (.int k) v H T := s_setL w.at1 hj (q _ w.put1)
theorem s_appW0 (w : W I H ((p, .lst xs) :: M)) (hz : xs.length ≤ 100000) (q : ∀ H', W I H' ((p, .lst (xs ++ [x])) :: M) → Q .non H') : rAppend (.ref p) [x] H Q := s_app w.at0 hz (q _ w.put0)
theorem s_appW1 (w : W I H (m0 :: (p, .lst xs) :: M)) (hz : xs.length ≤ 100000) (q : ∀ H', W I H' (m0 :: (p, .lst (xs ++ [x])) :: M) → Q .non H') : rAppend (.ref p) [x] H Q := s_app w.at1 hz (q _ w.put1)
theorem s_appW2 (w : W I H (m0 :: m1 :: (p, .lst xs) :: M)) (hz : xs.length ≤ 100000) (q : ∀ H', W I H' (m0 :: m1 :: (p, .lst (xs ++ [x])) :: M) → Q .non H') : rAppend (.ref p) [x] H Q := s_app w.at2 hz (q _ w.put2)
theorem W.frz0 {o : HO} (w : W I H ((p, o) :: M)) : W (upd I p o) H M := W.frz (M1 := []) w
theorem W.frz1 {o : HO} (w : W I H (m0 :: (p, o) :: M)) : W (upd I p o) H (m0 :: M) := W.frz (M1 := [m0]) w
theorem W.frz2 {o : HO} (w : W I H (m0 :: m1 :: (p, o) :: M)) : W (upd I p o) H (m0 :: m1 :: M) := W.frz (M1 := [m0, m1]) w
theorem W.frzS0 {o : HO} (w : W I H ((p, o) :: M)) : Same I (upd I p o) := W.frzS (M1 := []) w
theorem W.frzS1 {o : HO} (w : W I H (m0 :: (p, o) :: M)) : Same I (upd I p o) := W.frzS (M1 := [m0]) w
theorem W.frzS2 {o : HO} (w : W I H (m0 :: m1 :: (p, o) :: M)) : Same I (upd I p o) := W.frzS (M1 := [m0, m1]) w
/-- a list that grew stays from now on -/
theorem W.done0 (w : W I H ((p, .lst vs) :: M)) (a : IsA I vs ds) : ∃ J, Same I J ∧ W J H M ∧ Is J (.ref p) (.lst ds) := ⟨_, w.frzS0, w.frz0, .lst upd_same (a.mono w.frzS0)⟩
theorem W.done1 (w : W I H (m0 :: (p, .lst vs) :: M)) (a : IsA I vs ds) : ∃ J, Same I J ∧ W J H (m0 :: M) ∧ Is J (.ref p) (.lst ds) := ⟨_, w.frzS1, w.frz1, .lst upd_same (a.mono w.frzS1)⟩
theorem W.done2 (w : W I H (m0 :: m1 :: (p, .lst vs) :: M)) (a : IsA I vs ds) : ∃ J, Same I J ∧ W J H (m0 :: m1 :: M) ∧ Is J (.ref p) (.lst ds) := ⟨_, w.frzS2, w.frz2, .lst upd_same (a.mono w.frzS2)⟩
-- an item by an open place
theorem at_nat {α : Type} {l : List α} {i : Int} (h0 : 0 ≤ i) (h1 : i < l.length) : ∃ d, d ∈ l ∧ atI l i = some d := by
  have h2 : i.toNat < l.length := by omega
  have e : (i.toNat : Int) = i := by omega
  refine ⟨l[i.toNat], List.getElem_mem h2, ?_⟩
  have q := atI_nat (List.getElem?_eq_getElem h2)
  rw [e] at q
  exact q
theorem at_ints {ns : List Int} {z : Int} (h0 : 0 ≤ z) (h1 : z < ns.length) : ∃ n, n ∈ ns ∧ atI (ns.map D.int) z = some (.int n) := by
  obtain ⟨d, hd, e⟩ := at_nat (l := ns.map D.int) h0 (by simpa using h1)
  obtain ⟨n, hn, rfl⟩ := List.mem_map.mp hd
  exact ⟨n, hn, e⟩
theorem s_ixAny {i : Int} (w : W I H M) (h : Is I v (.lst ds)) (h0 : 0 ≤ i) (h1 : i < ds.length) (q : ∀ d u, d ∈ ds → Is I u d → Q u H) : rIx K v (.int i) H Q := by
  obtain ⟨d, hd, e⟩ := at_nat h0 h1
  exact s_ixL w h e fun u hu => q d u hd hu
theorem s_ixB {b : Bool} {m n : Int} (w : W I H M) (h : Is I v (.lst [.int m, .int n])) (q : ∀ k, k = m ∨ k = n → Q (.int k) H) : rIx K v (.int (if b then 1 else 0)) H Q := by
  cases b with
  | true => exact s_ixL w h (d := .int n) rfl fun u hu => by rw [hu.int_eq]; exact q n (.inr rfl)
  | false => exact s_ixL w h (d := .int m) rfl fun u hu => by rw [hu.int_eq]; exact q m (.inl rfl)
-- slices
theorem s_sl {r : V → Option Int → Option Int → Hp → VK → Prop} {tl th : TO} (h : te σ H fun x H1 => tl σ H1 fun lo H2 => th σ H2 fun hi H3 => r x lo hi H3 Q) : tSl r te tl th σ H Q := h
theorem s_noP {R : Option Int → Hp → Prop} (h : R none H) : tNoPart σ H R := h
theorem s_part {R : Option Int → Hp → Prop} (h : te σ H fun x H1 => ∃ i, x = .int i ∧ R (some i) H1) : tPart te σ H R := h
theorem s_part' {P : Int → Prop} {i : Int} (h : P i) : ∃ j, V.int i = .int j ∧ P j := ⟨i, rfl, h⟩
theorem s_slK {a : Addr} {lo hi : Option Int} (h : SqL K H a xs) (q : ∀ p, H p = none → Q (.ref p) (upd H p (.lst (cutV xs lo hi)))) : rSlL K (.ref a) lo hi H Q := ⟨a, xs, rfl, h, q⟩
-- comprehensions
theorem s_lc0 {wi : TI} {g : TG} {tt : TT} {xs : List Nat} (h : wi σ H fun J H1 => ∀ D, H1 D = none → ∃ W : Nat → Nat → Hp → Prop, (∃ m, W 0 m (upd H1 D (.lst []))) ∧ ∀ i m H, W i m H →
  (J.stop i H ∧ Q (.ref D) H) ∨ (J.go i H ∧ ∃ Nx : Hp → Prop, (∀ H', Nx H' → ∃ m', m' < m ∧ W (i + 1) m' H') ∧ ∀ x H', J.yld i H x H' → g x (wipe σ xs) H' fun σ2 H2 => wipe σ2 xs = wipe σ xs ∧ tt σ2 H2 fun b H3 =>
    if b = true then te σ2 H3 fun y H4 => ∃ acc, H4 D = some (.lst acc) ∧ acc.length < sizeLine ∧ Nx (upd H4 D (.lst (acc ++ [y]))) else Nx H3)) : tLc wi g tt te xs σ H Q := h
theorem s_yes {R : Bool → Hp → Prop} (h : R true H) : tYes σ H R := h
theorem s_iL' {R : Addr → Prop} (w : W I H M) (h : Is I v (.lst ds)) (q : ∀ a vs, v = .ref a → I a = some (.lst vs) → IsA I vs ds → R a) : ∃ a, v = .ref a ∧ (∃ xs, SqL K H a xs) ∧ R a := by
  obtain ⟨p, vs, rfl, hp, a⟩ := h.lst_ex
  exact ⟨p, rfl, ⟨vs, .inl (.inl (w.imm _ _ hp))⟩, q p vs rfl hp a⟩
end
/-- a written power -/
theorem op_powC {X : Cx} (n : Int) : OpR X (binaryOp .Pow) (rI (fun i j => CPow i j ∧ i ^ j.toNat = n) fun _ _ => .int n) := by
  intro pins s σ H x y v u Q I rx ry h
  obtain ⟨i, j, rfl, rfl, ⟨hc, e⟩, q⟩ := h
  exact op_pow pins s σ H _ _ v u Q I rx ry ⟨i, j, rfl, rfl, hc, by show Q (V.int (i ^ j.toNat)) H; rw [e]; exact q⟩
theorem cut63 (ns : List Int) (lo hi : Option Int) : ∃ ms : List Int, cutV (ns.map V.int) lo hi = ms.map V.int := by
  unfold cutV
  refine ⟨(ns.drop (HT.sIx (ns.map V.int).length 0 lo)).take (HT.sIx (ns.map V.int).length (ns.map V.int).length hi - HT.sIx (ns.map V.int).length 0 lo), ?_⟩
  rw [List.map_take, List.map_drop]

/-! ### sizes of numbers -/
def Bd (k : Nat) (x : Int) : Prop := x.natAbs < 2 ^ k
theorem Bd.mono {j k : Nat} {x : Int} (h : Bd j x) (hk : j ≤ k) : Bd k x := Nat.lt_of_lt_of_le h (Nat.pow_le_pow_right (by decide) hk)
theorem Bd.mul {j k : Nat} {x y : Int} (hx : Bd j x) (hy : Bd k y) : Bd (j + k) (x * y) := wide_lt hx hy
theorem Bd.neg {k : Nat} {x : Int} (h : Bd k x) : Bd k (-x) := by unfold Bd at *; rw [Int.natAbs_neg]; exact h
theorem Bd.add {k : Nat} {x y : Int} (hx : Bd k x) (hy : Bd k y) : Bd (k + 1) (x + y) := by
  unfold Bd at *
  have : (2 : Nat) ^ (k + 1) = 2 ^ k + 2 ^ k := by rw [Nat.pow_succ]; omega
  omega
theorem Bd.sub {k : Nat} {x y : Int} (hx : Bd k x) (hy : Bd k y) : Bd (k + 1) (x - y) := by
  unfold Bd at *
  have : (2 : Nat) ^ (k + 1) = 2 ^ k + 2 ^ k := by rw [Nat.pow_succ]; omega
  omega
theorem Bd.le {k : Nat} {x y : Int} (h : Bd k y) (hx : x.natAbs ≤ y.natAbs) : Bd k x := Nat.lt_of_le_of_lt hx h
theorem Bd.of {k : Nat} {x : Int} (n : Nat) (h : x.natAbs ≤ n) (hn : n < 2 ^ k := by decide) : Bd k x := Nat.lt_of_le_of_lt h hn
theorem Bd.cm {j k : Nat} {x y : Int} (hx : Bd j x) (hy : Bd k y) (h : j + k ≤ 900000 := by omega) : CMulW x y :=
  wide_mul (hx.mono (Nat.le_succ j)) (hy.mono (Nat.le_succ k)) (Nat.succ_pos _) (Nat.succ_pos _) (by omega)
theorem Bd.cd {k : Nat} {x y : Int} (hy : Bd k y) (h0 : 0 < y) (h : k ≤ 8000 := by omega) : CDivW x y := wide_div h0 (hy.mono (Nat.le_succ k)) (Nat.succ_pos _) (by omega)
theorem cm64 {i j : Int} (h1 : -18446744073709551616 ≤ i) (h2 : i ≤ 18446744073709551616) (h3 : -18446744073709551616 ≤ j) (h4 : j ≤ 18446744073709551616) : CMulW i j :=
  Bd.cm (j := 65) (k := 65) (Bd.of 18446744073709551616 (by omega)) (Bd.of 18446744073709551616 (by omega))
theorem cd64 {i j : Int} (h1 : 0 < j) (h2 : j ≤ 18446744073709551616) : CDivW i j := Bd.cd (k := 65) (Bd.of 18446744073709551616 (by omega)) h1

theorem W.zero {H : Hp} : W (fun _ => none) H [] := ⟨fun _ _ h => (nomatch h), fun _ h => (nomatch h), List.nodup_nil⟩
/-! ### fractions as data -/
abbrev fr (a b : Int) : D := .tup [.int a, .int b]

/-! ### the bag of draws: c is where its cells stand -/
structure BagAt (o : HO) (c : Addr) (x y z : Int) : Prop where
  ob : o = .lst [.int x, .int y, .int z, .ref c]
  x0 : 0 ≤ x
  y0 : 0 ≤ y
  y1 : y < 2147483647
  z0 : 0 ≤ z
def Bag (I : Hp) (c : Addr) (o : HO) : Prop := (∃ ns : List Int, I c = some (.lst (ns.map V.int)) ∧ ∀ n ∈ ns, 0 ≤ n) ∧ ∃ x y z, BagAt o c x y z
theorem Bag.mono {I J : Hp} {c : Addr} {o : HO} (s : Same I J) (h : Bag I c o) : Bag J c o := by
  obtain ⟨⟨ns, h1, h2⟩, h3⟩ := h
  exact ⟨⟨ns, s _ _ h1, h2⟩, h3⟩
end Fs

namespace Fs
open PySem PySem.Spec PyProof.Rows L2

/-! ### what stayed may be changed from now on -/
def del (I : Hp) (p : Addr) : Hp := fun a => if a = p then none else I a
theorem del_ne {I : Hp} {p a : Addr} (h : a ≠ p) : del I p a = I a := if_neg h
theorem del_same {I : Hp} {p : Addr} : del I p p = none := if_pos rfl
theorem same_del {J I : Hp} {p : Addr} (s : Same J I) (h : J p = none) : Same J (del I p) := fun b o e => by
  rw [del_ne (ne_of_none e h)]
  exact s b o e
section
variable {I J H : Hp} {M : List (Addr × HO)} {p : Addr} {o : HO} {m : Addr × HO}
theorem W.unf (w : W I H M) (h : I p = some o) : W (del I p) H ((p, o) :: M) where
  imm := fun b x e => by
    by_cases hb : b = p
    · subst hb; rw [del_same] at e; cases e
    · rw [del_ne hb] at e; exact w.imm b x e
  mu := fun x hx => by
    rcases List.mem_cons.mp hx with e | hx
    · subst e; exact ⟨w.imm _ _ h, del_same⟩
    · have q := w.mu x hx
      refine ⟨q.1, ?_⟩
      by_cases hb : x.1 = p
      · rw [hb]; exact del_same
      · rw [del_ne hb]; exact q.2
  nd := List.nodup_cons.mpr (And.intro (fun q => (by
    obtain ⟨x, hx, e⟩ := List.mem_map.mp q
    have := (w.mu x hx).2
    rw [e, h] at this
    cases this)) w.nd)
theorem W.swap {m0 m1 : Addr × HO} (w : W I H (m0 :: m1 :: M)) : W I H (m1 :: m0 :: M) := by
  refine ⟨w.imm, fun x hx => w.mu x ?_, ?_⟩
  · rcases List.mem_cons.mp hx with e | hx
    · exact List.mem_cons.mpr (.inr (List.mem_cons.mpr (.inl e)))
    · rcases List.mem_cons.mp hx with e | hx
      · exact List.mem_cons.mpr (.inl e)
      · exact List.mem_cons.mpr (.inr (List.mem_cons.mpr (.inr hx)))
  · have n := w.nd
    simp only [List.map_cons, List.nodup_cons, List.mem_cons, not_or] at n ⊢
    exact ⟨⟨fun e => n.1.1 e.symm, n.2.1⟩, n.1.2, n.2.2⟩
/-- behind the head -/
theorem W.unf1 (w : W I H (m :: M)) (h : I p = some o) : W (del I p) H (m :: (p, o) :: M) := (w.unf h).swap
theorem W.less (w : W I H (m :: M)) : W I H M := ⟨w.imm, fun x hx => w.mu x (List.mem_cons_of_mem _ hx), (List.nodup_cons.mp w.nd).2⟩
/-- fewer facts -/
theorem W.sub (w : W I H M) (s : Same J I) : W J H M := ⟨s.trans w.imm, fun x hx => ⟨(w.mu x hx).1, s.free (w.mu x hx).2⟩, w.nd⟩
theorem Bag.at {c : Addr} (h : Bag I c o) (hp : I p = none) : c ≠ p := by
  obtain ⟨⟨ns, h1, _⟩, _⟩ := h
  exact ne_of_none h1 hp
theorem Bag.del {c : Addr} (h : Bag I c o) (hp : c ≠ p) : Bag (del I p) c o := by
  obtain ⟨⟨ns, h1, h2⟩, h3⟩ := h
  exact ⟨⟨ns, by rw [del_ne hp]; exact h1, h2⟩, h3⟩
end

/-! ### == of data without truths -/
mutual
def D.pd : D → PyData
  | .non => .none
  | .bl b => .bool b
  | .int i => .int i
  | .str x => .str x
  | .ref _ => .none
  | .ty _ => .none
  | .tup ds => .tuple (D.pds ds)
  | .lst ds => .list (D.pds ds)
  | .obj _ _ => .none
  | .dict => .none
def D.pds : List D → List PyData
  | [] => []
  | d :: ds => D.pd d :: D.pds ds
end
/-- data of at most this depth, no truths in it -/
inductive NB : Nat → D → Prop
  | non {k : Nat} : NB k .non
  | int {k : Nat} (i : Int) : NB k (.int i)
  | str {k : Nat} {x : Str} (h : PyData.strOk x = true) : NB k (.str x)
  | tup {k : Nat} {ds : List D} (h : ∀ d ∈ ds, NB k d) : NB (k + 1) (.tup ds)
  | lst {k : Nat} {ds : List D} (h : ∀ d ∈ ds, NB k d) : NB (k + 1) (.lst ds)
theorem NB.mono {j : Nat} {d : D} (h : NB j d) : ∀ {k : Nat}, j ≤ k → NB k d := by
  induction h with
  | non => intro k _; exact .non
  | int i => intro k _; exact .int i
  | str h => intro k _; exact .str h
  | @tup j ds h ih =>
    intro k e
    cases k with
    | zero => omega
    | succ k => exact .tup fun d hd => ih d hd (by omega)
  | @lst j ds h ih =>
    intro k e
    cases k with
    | zero => omega
    | succ k => exact .lst fun d hd => ih d hd (by omega)
theorem pds_can : ∀ {ds : List D} {k : Nat}, (∀ d ∈ ds, (D.pd d).canLay0 = true ∧ (D.pd d).depth ≤ k) → PyData.canLayAll0 (D.pds ds) = true ∧ PyData.depthAll (D.pds ds) ≤ k
  | [], _, _ => ⟨by simp [D.pds, PyData.canLayAll0], by simp [D.pds, PyData.depthAll]⟩
  | d :: ds, k, h => by
    obtain ⟨h1, h2⟩ := h d List.mem_cons_self
    obtain ⟨h3, h4⟩ := pds_can (ds := ds) (k := k) fun e he => h e (List.mem_cons_of_mem _ he)
    exact ⟨by simp [D.pds, PyData.canLayAll0, h1, h3], by simp only [D.pds, PyData.depthAll]; omega⟩
theorem NB.can {k : Nat} {d : D} (h : NB k d) : (D.pd d).canLay0 = true ∧ (D.pd d).depth ≤ k := by
  induction h with
  | non => exact ⟨by simp [D.pd, PyData.canLay0], by simp [D.pd, PyData.depth]⟩
  | int i => exact ⟨by simp [D.pd, PyData.canLay0], by simp [D.pd, PyData.depth]⟩
  | str h => exact ⟨by simp [D.pd, PyData.canLay0, h], by simp [D.pd, PyData.depth]⟩
  | tup h ih =>
    obtain ⟨h1, h2⟩ := pds_can ih
    exact ⟨by simp [D.pd, PyData.canLay0, h1], by simp only [D.pd, PyData.depth]; omega⟩
  | lst h ih =>
    obtain ⟨h1, h2⟩ := pds_can ih
    exact ⟨by simp [D.pd, PyData.canLay0, h1], by simp only [D.pd, PyData.depth]; omega⟩
theorem NB.shaped {k : Nat} {d : D} (h : NB k d) (hk : k ≤ 64) : SeqAt.shaped (D.pd d) = true := by
  obtain ⟨h1, h2⟩ := h.can
  unfold SeqAt.shaped
  rw [h1, decide_eq_true (by omega)]
  rfl
theorem pds_eqv : ∀ {ds es : List D} {P : D → Prop}, (∀ d ∈ ds, ∀ e, P e → (PyData.eqv d.pd e.pd = true ↔ d = e)) → (∀ e ∈ es, P e) → (PyData.eqvAll (D.pds ds) (D.pds es) = true ↔ ds = es)
  | [], [], _, _, _ => by simp [D.pds, PyData.eqvAll]
  | [], e :: es, _, _, _ => by simp [D.pds, PyData.eqvAll]
  | d :: ds, [], _, _, _ => by simp [D.pds, PyData.eqvAll]
  | d :: ds, e :: es, P, h, g => by
    have h1 := h d List.mem_cons_self e (g e List.mem_cons_self)
    have h2 := pds_eqv (ds := ds) (es := es) (P := P) (fun x hx => h x (List.mem_cons_of_mem _ hx)) fun x hx => g x (List.mem_cons_of_mem _ hx)
    simp only [D.pds, PyData.eqvAll, Bool.and_eq_true, h1, h2, List.cons.injEq]
theorem NB.eqv {k : Nat} {d : D} (h : NB k d) : ∀ {j : Nat} {e : D}, NB j e → (PyData.eqv d.pd e.pd = true ↔ d = e) := by
  induction h with
  | non => intro j e g; cases g <;> simp [D.pd, PyData.eqv]
  | int i => intro j e g; cases g <;> simp [D.pd, PyData.eqv]
  | str h => intro j e g; cases g <;> simp [D.pd, PyData.eqv]
  | @tup k ds h ih =>
    intro j e g
    cases g with
    | non => simp [D.pd, PyData.eqv]
    | int i => simp [D.pd, PyData.eqv]
    | str h => simp [D.pd, PyData.eqv]
    | @tup j es g =>
      simp only [D.pd, PyData.eqv, D.tup.injEq]
      exact pds_eqv (P := fun e => ∃ j, NB j e) (fun d hd e he => by obtain ⟨j, he⟩ := he; exact ih d hd he) fun e he => ⟨_, g e he⟩
    | lst g => simp [D.pd, PyData.eqv]
  | @lst k ds h ih =>
    intro j e g
    cases g with
    | non => simp [D.pd, PyData.eqv]
    | int i => simp [D.pd, PyData.eqv]
    | str h => simp [D.pd, PyData.eqv]
    | @lst j es g =>
      simp only [D.pd, PyData.eqv, D.lst.injEq]
      exact pds_eqv (P := fun e => ∃ j, NB j e) (fun d hd e he => by obtain ⟨j, he⟩ := he; exact ih d hd he) fun e he => ⟨_, g e he⟩
    | tup g => simp [D.pd, PyData.eqv]
section
variable {K : PySem.W.Frag} {I H : Hp} {M : List (Addr × HO)} {Q : VK} {x y v : V} {d e : D} {ds es : List D} {j k : Nat}
theorem isA_dp (f : ∀ d ∈ ds, ∀ v, Is I v d → Dp K H v d.pd) : ∀ {vs : List V}, IsA I vs ds → DpAll K H vs (D.pds ds) := by
  induction ds with
  | nil => intro vs a; cases a; exact .nil
  | cons d ds ih =>
    intro vs a
    cases a with
    | cons h a => exact .cons (f d List.mem_cons_self _ h) (ih (fun e he => f e (List.mem_cons_of_mem _ he)) a)
theorem NB.dp (w : W I H M) (n : NB k d) : ∀ {v : V}, Is I v d → Dp K H v d.pd := by
  induction n with
  | non => intro v h; cases h; exact .non
  | int i => intro v h; cases h; exact .int i
  | str s => intro v h; cases h; exact .str _
  | tup n ih =>
    intro v h
    cases h with
    | tup hp a => exact .tup (.inl (.inl (w.imm _ _ hp))) (isA_dp (fun d hd v hv => ih d hd hv) a)
  | lst n ih =>
    intro v h
    cases h with
    | lst hp a => exact .lst (.inl (.inl (w.imm _ _ hp))) (isA_dp (fun d hd v hv => ih d hd hv) a)
theorem s_eqD {b : Bool} (w : W I H M) (hx : Is I x d) (hy : Is I y e) (n : NB k d) (m : NB j e) (hk : k ≤ 64) (hj : j ≤ 64) (hb : b = true ↔ d = e) (q : Q (.bl b) H) : rEqU K x y H Q :=
  .inr ⟨d.pd, e.pd, n.dp w hx, m.dp w hy, n.shaped hk, m.shaped hj, by
    have h1 := n.eqv m
    have h2 : PyData.eqv d.pd e.pd = b := by rw [Bool.eq_iff_iff, h1, hb]
    rw [h2]; exact q⟩
theorem s_neD {b : Bool} (w : W I H M) (hx : Is I x d) (hy : Is I y e) (n : NB k d) (m : NB j e) (hk : k ≤ 64) (hj : j ≤ 64) (hb : b = true ↔ d = e) (q : Q (.bl (!b)) H) : rNeU K x y H Q :=
  .inr ⟨d.pd, e.pd, n.dp w hx, m.dp w hy, n.shaped hk, m.shaped hj, by
    have h1 := n.eqv m
    have h2 : PyData.eqv d.pd e.pd = b := by rw [Bool.eq_iff_iff, h1, hb]
    rw [h2]; exact q⟩
theorem s_eqT (w : W I H M) (hx : Is I x d) (hy : Is I y d) (n : NB 60 d) (q : Q (.bl true) H) : rEqU K x y H Q := s_eqD w hx hy n n (by decide) (by decide) (b := true) (by simp) q
theorem s_neT (w : W I H M) (hx : Is I x d) (hy : Is I y d) (n : NB 60 d) (q : Q (.bl false) H) : rNeU K x y H Q := s_neD w hx hy n n (by decide) (by decide) (b := true) (by simp) q
theorem NB.fr {a b : Int} {k : Nat} : NB (k + 1) (fr a b) := .tup fun d hd => by
  rcases List.mem_cons.mp hd with rfl | hd
  · exact .int a
  · rw [List.mem_singleton.mp hd]; exact .int b
/-- lists -/
theorem s_catI (w : W I H M) (hx : Is I x (.lst ds)) (hy : Is I y (.lst es)) (hz : ds.length + es.length ≤ 100000) (q : ∀ p J H', Same I J → I p = none → W J H' M → Is J (.ref p) (.lst (ds ++ es)) → Q (.ref p) H') : rAddU K x y H Q := by
  obtain ⟨p1, vs, rfl, h1, a1⟩ := hx.lst_ex
  obtain ⟨p2, us, rfl, h2, a2⟩ := hy.lst_ex
  exact .inr (.inr (.inl ⟨p1, p2, vs, us, rfl, rfl, w.imm _ _ h1, w.imm _ _ h2, by rw [a1.length, a2.length]; exact Nat.le_trans hz (by decide), fun p hp => q p _ _ (w.same hp) (w.fresh hp) (w.newI hp) (.lst upd_same ((a1.app a2).mono (w.same hp)))⟩))
theorem s_listI (w : W I H M) (hx : Is I x (.lst ds)) (q : ∀ p J H', Same I J → I p = none → W J H' M → Is J (.ref p) (.lst ds) → Q (.ref p) H') : rListOf K [x] H Q := by
  obtain ⟨p1, vs, rfl, h1, a1⟩ := hx.lst_ex
  exact ⟨p1, vs, rfl, .inl (.inl (.inl (w.imm _ _ h1))), fun p hp => q p _ _ (w.same hp) (w.fresh hp) (w.newI hp) (.lst upd_same (a1.mono (w.same hp)))⟩
theorem s_listT (w : W I H M) (hx : Is I x (.tup ds)) (q : ∀ p J H', Same I J → I p = none → W J H' M → Is J (.ref p) (.lst ds) → Q (.ref p) H') : rListOf K [x] H Q := by
  obtain ⟨p1, vs, rfl, h1, a1⟩ := hx.tup_ex
  exact ⟨p1, vs, rfl, .inr (.inl (.inl (w.imm _ _ h1))), fun p hp => q p _ _ (w.same hp) (w.fresh hp) (w.newI hp) (.lst upd_same (a1.mono (w.same hp)))⟩
def cutD (ds : List D) (lo hi : Option Int) : List D := (ds.drop (HT.sIx ds.length 0 lo)).take (HT.sIx ds.length ds.length hi - HT.sIx ds.length 0 lo)
theorem IsA.cut {vs : List V} (a : IsA I vs ds) (lo hi : Option Int) : IsA I (cutV vs lo hi) (cutD ds lo hi) := by
  unfold cutV cutD
  rw [a.length]
  exact (a.drop _).take _
theorem s_slI {lo hi : Option Int} (w : W I H M) (hx : Is I x (.lst ds)) (q : ∀ p J H', Same I J → I p = none → W J H' M → Is J (.ref p) (.lst (cutD ds lo hi)) → Q (.ref p) H') : rSlL K x lo hi H Q := by
  obtain ⟨p1, vs, rfl, h1, a1⟩ := hx.lst_ex
  exact ⟨p1, vs, rfl, .inl (.inl (w.imm _ _ h1)), fun p hp => q p _ _ (w.same hp) (w.fresh hp) (w.newI hp) (.lst upd_same ((a1.cut lo hi).mono (w.same hp)))⟩
end

/-! ### defs with defaults -/
section
variable {P : Program} {w : World} {K : PySem.W.Frag} {mg : Str → Option Value} {base : Heap}
theorem _root_.L2.FunD.ok0 {x qual : Str} {st : Stmt} {dvs : List V} {f : Addr} {fd : FuncData} {N ps : List Str} {k : Nat} {sp : Sp} (F : FunD K x qual (defArgs st) (defBody st) (defScope st) dvs [] f fd) (S : FnScope N ps (defScope st)) (len : ∀ vs H Q E, sp vs H Q E → vs.length = ps.length)
    (hbody : ∀ (cdv : Value) (A : Around) (outer : List Env) (s : Shared) (H : Hp) (vs : List V) (Q : VK) (E : XK), Room k (A.deeper (envOfC qual (defScope st) s.heap.objs.size f cdv)) → sp vs H Q E →
      ∃ t, PSs (cxOf CX0 P w K mg base N qual (defScope st) f cdv A outer s H E).nox (defBody st) t ∧ t { nx := fun _ H' => Q .non H', rt := Q } (start N vs) H) : FnOk P w K mg base CX0 (k + 1) f fd ps sp :=
  F.ok S len fun cdv A outer s H vs Q E hr h => let ⟨t, a, b⟩ := hbody cdv A outer s H vs Q E hr h; ⟨t, a.nox, b⟩
/-- what the top has left of such a def -/
theorem funD_mk {x qual : Str} {st : Stmt} {f T : Addr} {oc to_ : Value} {od an td : Option Addr} {osl tsl : Array (Option Value)} {kV doc pm cdv ct : Value} {its : List Value} {n : Nat} {dvs : List V} (l : K.lookup f = some ⟨oc, od, .func (PySem.W.fnOf x qual (defArgs st) (defBody st) (defScope st) (.ref T) kV doc pm an cdv ct), osl⟩)
    (c : PySem.W.codeIn K cdv qual = true) (k : PySem.W.keepIn K (.ref f) = true) (lT : K.lookup T = some ⟨to_, td, .seq its.toArray n, tsl⟩) (hv : Vals dvs its) (hd : dvs ≠ []) :
    FunD K x qual (defArgs st) (defBody st) (defScope st) dvs [] f (PySem.W.fnOf x qual (defArgs st) (defBody st) (defScope st) (.ref T) kV doc pm an cdv ct) :=
  ⟨⟨oc, od, .ref T, kV, doc, pm, an, cdv, ct, osl, rfl, l, c, .inr ⟨hd, T, _, its, n, rfl, lT, rfl, hv⟩, .inl rfl⟩, k⟩
end
end Fs

namespace Fs
open PySem PySem.Spec PyProof.Rows L2
/-! ### fractions are rational numbers -/
abbrev frq (q : Rat) : D := fr q.num q.den
/-- its numbers have at most so many bits -/
structure Sz (k : Nat) (q : Rat) : Prop where
  n : Bd k q.num
  d : Bd k (q.den : Int)
theorem Sz.mono {j k : Nat} {q : Rat} (h : Sz j q) (hk : j ≤ k) : Sz k q := ⟨h.n.mono hk, h.d.mono hk⟩
theorem den_pos' (q : Rat) : (0 : Int) < (q.den : Int) := by have := q.den_pos; omega
theorem gcd_q (q : Rat) : Int.gcd q.num q.den = 1 := q.reduced
theorem gcd_pos' {t b : Int} (h : b ≠ 0) : (0 : Int) < (Int.gcd t b : Int) := by
  have : 0 < Int.gcd t b := Int.gcd_pos_of_ne_zero_right _ h
  omega
theorem gcd_abs (t b : Int) : Int.gcd (if t < 0 then -t else t) (if b < 0 then -b else b) = Int.gcd t b := by
  split <;> split <;> simp [Int.gcd_neg, Int.neg_gcd]
theorem gcd_le_right' {t b : Int} (h : b ≠ 0) : (Int.gcd t b : Int).natAbs ≤ b.natAbs := by
  have := Nat.le_of_dvd (by omega) (Nat.gcd_dvd_right t.natAbs b.natAbs)
  show Int.gcd t b ≤ _
  exact this
theorem low_num {t b : Int} (h : b ≠ 0) : (if b < 0 then -t else t) / (Int.gcd t b : Int) = (Rat.divInt t b).num := by
  rw [Rat.num_divInt, Int.gcd_comm b t]
  by_cases hb : b < 0
  · rw [if_pos hb, Int.sign_eq_neg_one_of_neg hb]
    congr 1
    omega
  · rw [if_neg hb, Int.sign_eq_one_of_pos (by omega)]
    congr 1
    omega
theorem low_den {t b : Int} (h : b ≠ 0) : (if b < 0 then -b else b) / (Int.gcd t b : Int) = ((Rat.divInt t b).den : Int) := by
  rw [Rat.den_divInt, if_neg h, Int.gcd_comm b t, Int.natCast_ediv]
  congr 1
  split <;> omega
theorem div_abs_le {a g : Int} (hg : 0 < g) (hd : g ∣ a) : (a / g).natAbs ≤ a.natAbs := by
  obtain ⟨c, rfl⟩ := hd
  rw [Int.mul_ediv_cancel_left _ (by omega), Int.natAbs_mul]
  exact Nat.le_mul_of_pos_left _ (by omega)
theorem num_le {t b : Int} (h : b ≠ 0) : (Rat.divInt t b).num.natAbs ≤ t.natAbs := by
  rw [← low_num h]
  have hd : (Int.gcd t b : Int) ∣ (if b < 0 then -t else t) := by
    split
    · exact Int.dvd_neg.mpr (Int.gcd_dvd_left _ _)
    · exact Int.gcd_dvd_left _ _
  have := div_abs_le (gcd_pos' (t := t) h) hd
  split at this <;> split <;> omega
theorem den_le {t b : Int} (h : b ≠ 0) : ((Rat.divInt t b).den : Int).natAbs ≤ b.natAbs := by
  rw [← low_den h]
  have hd : (Int.gcd t b : Int) ∣ (if b < 0 then -b else b) := by
    split
    · exact Int.dvd_neg.mpr (Int.gcd_dvd_right _ _)
    · exact Int.gcd_dvd_right _ _
  have := div_abs_le (gcd_pos' (t := t) h) hd
  split at this <;> split <;> omega
theorem Sz.divInt {j k : Nat} {t b : Int} (h : b ≠ 0) (ht : Bd j t) (hb : Bd k b) (m : Nat) (hj : j ≤ m := by omega) (hk : k ≤ m := by omega) : Sz m (Rat.divInt t b) := ⟨(ht.le (num_le h)).mono hj, (hb.le (den_le h)).mono hk⟩
theorem den_ne (q : Rat) : (q.den : Int) ≠ 0 := by have := q.den_pos; omega
theorem add_dv (p q : Rat) : Rat.divInt (p.num * q.den + q.num * p.den) (p.den * q.den) = p + q := by
  have h := Rat.divInt_add_divInt p.num q.num (den_ne p) (den_ne q)
  rw [Rat.num_divInt_den, Rat.num_divInt_den] at h
  exact h.symm
theorem sub_dv (p q : Rat) : Rat.divInt (p.num * q.den - q.num * p.den) (p.den * q.den) = p - q := by
  have h := Rat.divInt_sub_divInt p.num q.num (den_ne p) (den_ne q)
  rw [Rat.num_divInt_den, Rat.num_divInt_den] at h
  exact h.symm
theorem mul_dv (p q : Rat) : Rat.divInt (p.num * q.num) (p.den * q.den) = p * q := by
  have h := Rat.divInt_mul_divInt p.num q.num (d₁ := p.den) (d₂ := q.den)
  rw [Rat.num_divInt_den, Rat.num_divInt_den] at h
  exact h.symm
theorem div_dv (p q : Rat) : Rat.divInt (p.num * q.den) (p.den * q.num) = p / q := by
  have h := Rat.divInt_mul_divInt p.num q.den (d₁ := p.den) (d₂ := q.num)
  rw [Rat.num_divInt_den, ← Rat.inv_divInt q.num q.den, Rat.num_divInt_den] at h
  rw [Rat.div_def]
  exact h.symm
theorem den_mul_ne (p q : Rat) : (p.den * q.den : Int) ≠ 0 := Int.mul_ne_zero (den_ne p) (den_ne q)
theorem Sz.add {j k : Nat} {p q : Rat} (hp : Sz j p) (hq : Sz k q) : Sz (j + k + 1) (p + q) := by
  rw [← add_dv]
  exact Sz.divInt (den_mul_ne p q) (Bd.add (hp.n.mul hq.d) ((hq.n.mul hp.d).mono (by omega))) (hp.d.mul hq.d) _
theorem Sz.sub {j k : Nat} {p q : Rat} (hp : Sz j p) (hq : Sz k q) : Sz (j + k + 1) (p - q) := by
  rw [← sub_dv]
  exact Sz.divInt (den_mul_ne p q) (Bd.sub (hp.n.mul hq.d) ((hq.n.mul hp.d).mono (by omega))) (hp.d.mul hq.d) _
theorem Sz.mul {j k : Nat} {p q : Rat} (hp : Sz j p) (hq : Sz k q) : Sz (j + k) (p * q) := by
  rw [← mul_dv]
  exact Sz.divInt (den_mul_ne p q) (hp.n.mul hq.n) (hp.d.mul hq.d) _
theorem Sz.div {j k : Nat} {p q : Rat} (hp : Sz j p) (hq : Sz k q) (h0 : q ≠ 0) : Sz (j + k) (p / q) := by
  rw [← div_dv]
  exact Sz.divInt (Int.mul_ne_zero (den_ne p) (fun h => h0 (Rat.num_eq_zero.mp h))) (hp.n.mul hq.d) (hp.d.mul hq.n) _
theorem Sz.neg {k : Nat} {q : Rat} (h : Sz k q) : Sz k (-q) := ⟨by rw [Rat.neg_num]; exact h.n.neg, by rw [Rat.neg_den]; exact h.d⟩
theorem Sz.int {k : Nat} {n : Int} (h : Bd k n) (hk : 0 < k := by decide) : Sz k (n : Rat) := ⟨h, Bd.of 1 (by rw [Rat.den_intCast]; decide) (by
  have : 2 ^ 1 ≤ 2 ^ k := Nat.pow_le_pow_right (by decide) hk
  omega)⟩
theorem frq_int (n : Int) : frq (n : Rat) = fr n 1 := rfl
theorem frq_zero : frq 0 = fr 0 1 := rfl
theorem frq_inj {p q : Rat} (h : frq p = frq q) : p = q := by
  injection h with h
  injection h with h1 h
  injection h with h2 _
  injection h1 with h1
  injection h2 with h2
  exact Rat.ext h1 (by omega)
theorem frq_of {a b : Int} (hb : 0 < b) (g : Int.gcd a b = 1) : fr a b = frq (Rat.divInt a b) := by
  have h1 := low_num (t := a) (b := b) (by omega)
  have h2 := low_den (t := a) (b := b) (by omega)
  rw [if_neg (by omega), g] at h1 h2
  simp only [Int.natCast_one, Int.ediv_one] at h1 h2
  rw [frq, ← h1, ← h2]
theorem gcd_step {a b : Int} (ha : 0 ≤ a) (hb : 0 ≤ b) : Int.gcd b (a % b) = Int.gcd a b := by
  obtain ⟨m, rfl⟩ := Int.eq_ofNat_of_zero_le ha
  obtain ⟨n, rfl⟩ := Int.eq_ofNat_of_zero_le hb
  show Nat.gcd n (m % n) = Nat.gcd m n
  rw [Nat.gcd_comm n, ← Nat.gcd_rec, Nat.gcd_comm]
theorem gcd_end {a : Int} (ha : 0 ≤ a) : (Int.gcd a 0 : Int) = a := by
  rw [Int.gcd_zero_right]
  omega
end Fs

namespace Fs
open PySem PySem.Spec PyProof.Rows L2
/-! ### the rules with the written part as a letter (for a comprehension's block) -/
section
variable {X : Cx} {K : PySem.W.Frag}
theorem k_add (h : X.K = K) : OpR X (binaryOp .Add) (rAddU K) := h ▸ uo_add
theorem k_eq (h : X.K = K) (hu : X.A.units + 64 < cLine) : OpR X (compareOp .Eq) (rEqU K) := h ▸ uo_eq hu
theorem k_ne (h : X.K = K) (hu : X.A.units + 64 < cLine) : OpR X (compareOp .NotEq) (rNeU K) := h ▸ uo_ne hu
theorem k_ix (h : X.K = K) : IxR X (rIx K) := h ▸ ix_seq
theorem k_len (h : X.K = K) : CallR X (.builtin "len") (rLenU K) := h ▸ uc_len
theorem k_isi (h : X.K = K) : CallR X (.builtin "isinstance") (rIsiU K) := h ▸ uc_isi
theorem k_min (h : X.K = K) (hc : X.calm = true) : CallR X (.builtin "min") (rMinU K) := h ▸ uc_min hc
theorem k_max (h : X.K = K) (hc : X.calm = true) : CallR X (.builtin "max") (rMaxU K) := h ▸ uc_max hc
theorem k_sum (h : X.K = K) (hc : X.calm = true) : CallR X (.builtin "sum") (rSum K) := h ▸ cr_sum hc
theorem k_list (h : X.K = K) : CallR X (.type "list") (rListOf K) := h ▸ uc_list
theorem k_sl (h : X.K = K) : SlR X (rSlL K) := h ▸ sl_list
theorem kpi_list {tg l : Expr} {tl : TE} (h : X.K = K) (e : PE X l tl) : PI X tg l (iList K tl) := h ▸ pi_list e
theorem kpi_tup {tg l : Expr} {tl : TE} (h : X.K = K) (e : PE X l tl) : PI X tg l (iTup K tl) := h ▸ pi_tup e
theorem kpe_fld {e : Expr} {ta : TE} {f : Str} {pos : Pos} (h : X.K = K) (he : PE X e ta) (hb : attributeBase e f X.env (eval e X.env) = eval e X.env) : PE X (.Attribute e f pos) (tFld K ta f) := h ▸ pe_fld he hb
theorem kpg_tup {es : List Expr} {k : Nat} {t : TGs} {n : Nat} {pos : Pos} (h : X.K = K) (hc : X.calm = true) (hg : PGs X es t)
    (hn : (assignEach es X.env).length = n := by rfl) (hst : (assignEach es X.env).findIdx? (·.1) = none := by rfl) : PG X (.Tuple es k pos) (gTup K n t) := h ▸ pg_tup hc hg hn hst
end
/-! ### comprehensions -/
/-- what stands behind a comprehension's source -/
def LcGo (J : It) (g : TG) (tt : TT) (te : TE) (xs : List Nat) (σ : L2.St) (Q : VK) (H1 : Hp) : Prop := ∀ D, H1 D = none → ∃ W : Nat → Nat → Hp → Prop, (∃ m, W 0 m (upd H1 D (.lst []))) ∧ ∀ i m H, W i m H →
  (J.stop i H ∧ Q (.ref D) H) ∨ (J.go i H ∧ ∃ Nx : Hp → Prop, (∀ H', Nx H' → ∃ m', m' < m ∧ W (i + 1) m' H') ∧ ∀ x H', J.yld i H x H' → g x (wipe σ xs) H' fun σ2 H2 => wipe σ2 xs = wipe σ xs ∧ tt σ2 H2 fun b H3 =>
    if b = true then te σ2 H3 fun y H4 => ∃ acc, H4 D = some (.lst acc) ∧ acc.length < sizeLine ∧ Nx (upd H4 D (.lst (acc ++ [y]))) else Nx H3)
section
variable {K : PySem.W.Frag} {σ : L2.St} {I H : Hp} {M : List (Addr × HO)} {Q : VK} {x v : V} {b c : Addr} {o : HO} {te : TE} {wi : TI} {g : TG} {tt : TT} {xs : List Nat} {ds : List D} {k : Nat}
theorem s_lcc (h : wi σ H fun J H1 => LcGo J g tt te xs σ Q H1) : tLc wi g tt te xs σ H Q := h
theorem s_lcRng {n : Int} {lo : Int} (h1 : -(2 ^ 62) ≤ n) (h2 : n < 2 ^ 62) (h : LcGo (Itr 0 n.toNat) g tt te xs σ Q H) : ∃ j : Int, [V.int n] = [.int j] ∧ -(2 ^ 62) ≤ j ∧ j < 2 ^ 62 ∧ LcGo (Itr 0 j.toNat) g tt te xs σ Q H := ⟨n, rfl, h1, h2, h⟩
/-- turns that draw nothing, one name as target, no test; what the i-th turn gives is told by f -/
theorem lc_pure {J : It} {n : Nat} {Gd : Hp → Prop} {Y : Nat → Hp → V → Hp → Prop} (wk : Walk J n Gd Y) (w : W I H M) (hG : ∀ H', Same I H' → Gd H') (f : Nat → D) (hn : n ≤ 100000)
    (hw : ∀ v, wipe ((wipe σ xs).set k (some v)) xs = wipe σ xs)
    (step : ∀ i v D acc J' H0 H' C, i < n → Same I J' → W J' H0 ((D, .lst acc) :: M) → Y i H0 v H' → (∀ y J'' H4, Same J' J'' → W J'' H4 ((D, .lst acc) :: M) → Is J'' y (f i) → C y H4) → te ((wipe σ xs).set k (some v)) H' C)
    (q : ∀ p J' H', Same I J' → I p = none → W J' H' M → Is J' (.ref p) (.lst ((List.range n).map f)) → Q (.ref p) H') : LcGo J (gName k) tYes te xs σ Q H := by
  intro D nD
  have w1 := w.newM (o := .lst []) nD
  refine lc_it wk (fun i H' => ∃ acc J', Same I J' ∧ W J' H' ((D, .lst acc) :: M) ∧ IsA J' acc ((List.range i).map f) ∧ acc.length = i) ⟨[], I, Same.refl _, w1, .nil, rfl⟩ (fun i H' _ ⟨acc, J', s, w', _⟩ => hG H' (s.trans w'.imm)) ?_ ?_
  · rintro i v H0 H' hi ⟨acc, J', s, w', a, hl⟩ hy
    refine ⟨hw v, ?_⟩
    refine s_yes (iteT (step i v D acc J' H0 H' _ hi s w' hy fun y J'' H4 s2 w2 h2 => ?_))
    refine ⟨acc, w2.at0, by rw [hl]; exact Nat.lt_of_lt_of_le hi (Nat.le_trans hn (by decide)), acc ++ [y], J'', s.trans s2, w2.put0, ?_, by rw [List.length_append, hl]; rfl⟩
    rw [List.range_succ, List.map_append]
    exact (a.mono s2).app (.one h2)
  · rintro H' ⟨acc, J', s, w', a, hl⟩
    obtain ⟨J2, s2, w2, h2⟩ := w'.done0 a
    refine q D J2 H' (s.trans s2) (w.fresh nD) w2 h2
/-- turns that draw -/
theorem lc_bag {J : It} {n : Nat} {Gd : Hp → Prop} {Y : Nat → Hp → V → Hp → Prop} (wk : Walk J n Gd Y) (w : W I H ((b, o) :: M)) (hb : Bag I c o) (hG : ∀ H', Same I H' → Gd H') (P : Nat → D → Prop) (hn : n ≤ 100000)
    (hw : ∀ v, wipe ((wipe σ xs).set k (some v)) xs = wipe σ xs)
    (step : ∀ i v D acc o' J' H0 H' C, i < n → Same I J' → Bag J' c o' → W J' H0 ((b, o') :: (D, .lst acc) :: M) → Y i H0 v H' →
      (∀ y d o'' J'' H4, Same J' J'' → Bag J'' c o'' → W J'' H4 ((b, o'') :: (D, .lst acc) :: M) → Is J'' y d → P i d → C y H4) → te ((wipe σ xs).set k (some v)) H' C)
    (q : ∀ p ds o' J' H', Same I J' → I p = none → Bag J' c o' → W J' H' ((b, o') :: M) → Is J' (.ref p) (.lst ds) → ds.length = n → (∀ i d, ds[i]? = some d → P i d) → Q (.ref p) H') : LcGo J (gName k) tYes te xs σ Q H := by
  intro D nD
  have w1 := w.newM2 (o := .lst []) nD
  refine lc_it wk (fun i H' => ∃ acc J' o' ds, Same I J' ∧ Bag J' c o' ∧ W J' H' ((b, o') :: (D, .lst acc) :: M) ∧ IsA J' acc ds ∧ acc.length = i ∧ ds.length = i ∧ ∀ j d, ds[j]? = some d → P j d) ⟨[], I, o, [], Same.refl _, hb, w1, .nil, rfl, rfl, fun j d h => by simp at h⟩ (fun i H' _ ⟨acc, J', o', ds, s, _, w', _⟩ => hG H' (s.trans w'.imm)) ?_ ?_
  · rintro i v H0 H' hi ⟨acc, J', o', ds, s, hb', w', a, hl, hl2, hp⟩ hy
    refine ⟨hw v, ?_⟩
    refine s_yes (iteT (step i v D acc o' J' H0 H' _ hi s hb' w' hy fun y d o'' J'' H4 s2 hb2 w2 h2 hd => ?_))
    refine ⟨acc, w2.at1, by rw [hl]; exact Nat.lt_of_lt_of_le hi (Nat.le_trans hn (by decide)), acc ++ [y], J'', o'', ds ++ [d], s.trans s2, hb2, w2.put1, (a.mono s2).app (.one h2), by rw [List.length_append, hl]; rfl, by rw [List.length_append, hl2]; rfl, fun j e h => ?_⟩
    by_cases hj : j < ds.length
    · rw [List.getElem?_append_left hj] at h
      exact hp j e h
    · rw [List.getElem?_append_right (by omega)] at h
      have h3 : j - ds.length = 0 := by
        cases hz : j - ds.length with
        | zero => rfl
        | succ m => rw [hz] at h; simp at h
      rw [h3] at h
      simp at h
      subst h
      have : j = i := by omega
      rw [this]
      exact hd
  · rintro H' ⟨acc, J', o', ds, s, hb', w', a, hl, hl2, hp⟩
    obtain ⟨J2, s2, w2, h2⟩ := w'.done1 a
    exact q D ds o' J2 H' (s.trans s2) (w.fresh nD) (hb'.mono s2) w2 h2 hl2 hp
theorem s_iLc {J : Addr → Prop} (w : W I H M) (h : Is I v (.lst ds)) (q : ∀ a vs, v = .ref a → I a = some (.lst vs) → IsA I vs ds → J a) : ∃ a, v = .ref a ∧ (∃ xs, SqL K H a xs) ∧ J a := s_iL' w h q
end

/-! ### sums of fractions -/
def rs (qs : List Rat) : Rat := qs.foldl (· + ·) 0
theorem rs_nil : rs [] = 0 := rfl
theorem rs_snoc (qs : List Rat) (q : Rat) : rs (qs ++ [q]) = rs qs + q := by simp [rs, List.foldl_append]
theorem rs_take {qs : List Rat} {i : Nat} {q : Rat} (h : qs[i]? = some q) : rs (qs.take (i + 1)) = rs (qs.take i) + q := by
  rw [List.take_add_one, h, ← rs_snoc]
  rfl
theorem rs_from (ys : List Rat) : ∀ a : Rat, ys.foldl (· + ·) a = a + rs ys := by
  induction ys with
  | nil => intro a; simp [rs, Rat.add_zero]
  | cons y ys ih =>
    intro a
    show ys.foldl (· + ·) (a + y) = a + (ys.foldl (· + ·) (0 + y))
    rw [ih, ih, Rat.zero_add, Rat.add_assoc]
theorem rs_cons (y : Rat) (ys : List Rat) : rs (y :: ys) = y + rs ys := by
  show ys.foldl (· + ·) (0 + y) = _
  rw [rs_from, Rat.zero_add]
theorem rs_app (xs ys : List Rat) : rs (xs ++ ys) = rs xs + rs ys := by
  unfold rs
  rw [List.foldl_append, rs_from]
  rfl
/-- top and bottom by themselves -/
structure Sz2 (j k : Nat) (q : Rat) : Prop where
  n : Bd j q.num
  d : Bd k (q.den : Int)
theorem Sz2.mono {i j k l : Nat} {q : Rat} (h : Sz2 i k q) (hj : i ≤ j) (hk : k ≤ l) : Sz2 j l q := ⟨h.n.mono hj, h.d.mono hk⟩
theorem Sz2.sz {j k m : Nat} {q : Rat} (h : Sz2 j k q) (hj : j ≤ m) (hk : k ≤ m) : Sz m q := ⟨h.n.mono hj, h.d.mono hk⟩
theorem Sz.sz2 {k : Nat} {q : Rat} (h : Sz k q) : Sz2 k k q := ⟨h.n, h.d⟩
theorem Sz2.add {j k l m : Nat} {p q : Rat} (hp : Sz2 j k p) (hq : Sz2 l m q) (n : Nat) (h1 : j + m + 1 ≤ n) (h2 : l + k + 1 ≤ n) : Sz2 n (k + m) (p + q) := by
  rw [← add_dv]
  have b1 : Bd (n - 1) (p.num * q.den) := (hp.n.mul hq.d).mono (by omega)
  have b2 : Bd (n - 1) (q.num * p.den) := (hq.n.mul hp.d).mono (by omega)
  have b3 := (Bd.add b1 b2).mono (show n - 1 + 1 ≤ n by omega)
  exact ⟨b3.le (num_le (den_mul_ne p q)), (hp.d.mul hq.d).le (den_le (den_mul_ne p q))⟩
theorem Sz2.rs {j k : Nat} {qs : List Rat} (h : ∀ q ∈ qs, Sz2 j k q) : ∀ i, i ≤ qs.length → Sz2 (j + (k + 1) * i + 1) (k * i + 1) (rs (qs.take i))
  | 0, _ => ⟨Bd.of 0 (by simp [rs_nil]) (Nat.pow_pos (by decide)), Bd.of 1 (by simp [rs_nil]) (by
      have : 2 ^ 1 ≤ 2 ^ (k * 0 + 1) := Nat.pow_le_pow_right (by decide) (by omega)
      omega)⟩
  | i + 1, hi => by
    have hi' : i < qs.length := hi
    have e : qs[i]? = some qs[i] := List.getElem?_eq_getElem hi'
    rw [rs_take e]
    have ih := Sz2.rs h i (by omega)
    have hq := h _ (List.getElem_mem hi')
    have e1 : (k + 1) * (i + 1) = (k + 1) * i + k + 1 := by rw [Nat.mul_add]; omega
    have e2 : k * (i + 1) = k * i + k := by rw [Nat.mul_add]; omega
    have e3 : k * i ≤ (k + 1) * i := Nat.mul_le_mul_right _ (by omega)
    exact (ih.add hq (j + (k + 1) * (i + 1) + 1) (by omega) (by omega)).mono (Nat.le_refl _) (by omega)
theorem frqs_of {S : Rat → Prop} : ∀ {ds : List D}, (∀ (i : Nat) d, ds[i]? = some d → ∃ q, d = frq q ∧ S q) → ∃ qs : List Rat, ds = qs.map frq ∧ ∀ q ∈ qs, S q
  | [], _ => ⟨[], rfl, fun _ h => nomatch h⟩
  | d :: ds, h => by
    obtain ⟨q, rfl, hq⟩ := h 0 _ rfl
    obtain ⟨qs, rfl, hs⟩ := frqs_of (S := S) (ds := ds) fun i e he => h (i + 1) e (by simpa using he)
    exact ⟨q :: qs, rfl, fun r hr => by
      rcases List.mem_cons.mp hr with rfl | hr
      · exact hq
      · exact hs r hr⟩
theorem atI0 {α : Type} {l : List α} {i : Nat} {x : α} (h : l[i]? = some x) : atI l (0 + (i : Int)) = some x := by
  rw [Int.zero_add]
  exact atI_nat h
theorem NB.list {α : Type} {f : α → D} {k : Nat} {l : List α} (h : ∀ x ∈ l, NB k (f x)) : NB (k + 1) (.lst (l.map f)) := .lst fun d hd => by
  obtain ⟨x, hx, rfl⟩ := List.mem_map.mp hd
  exact h x hx
theorem NB.frqs {qs : List Rat} {k : Nat} : NB (k + 2) (.lst (qs.map frq)) := NB.list fun _ _ => NB.fr
theorem NB.ints {ns : List Int} {k : Nat} : NB (k + 1) (.lst (ns.map D.int)) := NB.list fun n _ => .int n
theorem s_listC {K : PySem.W.Frag} {I H : Hp} {M : List (Addr × HO)} {Q : VK} {x : V} {ds : List D} (w : W I H M) (hx : Is I x (.lst ds)) (q : ∀ p vs J H', Same I J → I p = none → W J H' M → J p = some (.lst vs) → IsA I vs ds → Q (.ref p) H') : rListOf K [x] H Q := by
  obtain ⟨p1, vs, rfl, h1, a1⟩ := hx.lst_ex
  exact ⟨p1, vs, rfl, .inl (.inl (.inl (w.imm _ _ h1))), fun p hp => q p vs _ _ (w.same hp) (w.fresh hp) (w.newI hp) upd_same a1⟩
/-- for x, y in zip(xs, ys), two lists of one length that stay -/
def ZipQ (K : PySem.W.Frag) (x y : V) (H : Hp) (R : It → Hp → Prop) : Prop := ∃ a b xs ys, [x, y] = [.ref a, .ref b] ∧ SqL K H a xs ∧ SqL K H b ys ∧ R (Itz K a b) H
theorem s_zip {K : PySem.W.Frag} {σ : L2.St} {H : Hp} {ta : TA} {R : It → Hp → Prop} (h : ta σ H fun vs H1 => ∃ a b xs ys, vs = [.ref a, .ref b] ∧ SqL K H1 a xs ∧ SqL K H1 b ys ∧ R (Itz K a b) H1) : iZip K ta σ H R := h
theorem s_zipL {K : PySem.W.Frag} {σ : L2.St} {I H : Hp} {M : List (Addr × HO)} {x y : V} {ds es : List D} {g : TG} {tb : TS} {G : Ends} (w : W I H M) (hx : Is I x (.lst ds)) (hy : Is I y (.lst es)) (hl : ds.length = es.length) (Pv : Nat → L2.St → Hp → Prop) (h0 : Pv 0 σ H) (hI : ∀ i σ H, Pv i σ H → Same I H)
    (hs : ∀ i d e x y T σ H H', ds[i]? = some d → es[i]? = some e → Is I x d → Is I y e → Pv i σ H → H T = none → H' = upd H T (.tup [x, y]) → g (.ref T) σ H' fun σ2 H2 => tb { G with nx := Pv (i + 1), ct := Pv (i + 1), bk := G.nx } σ2 H2) (hd : ∀ σ H, Pv ds.length σ H → G.nx σ H) :
    ∃ a b xs ys, [x, y] = [V.ref a, .ref b] ∧ SqL K H a xs ∧ SqL K H b ys ∧ ∃ W : Nat → Nat → L2.St → Hp → Prop, (∃ m, W 0 m σ H) ∧ ∀ i m σ H, W i m σ H →
      ((Itz K a b).stop i H ∧ G.nx σ H) ∨ ((Itz K a b).go i H ∧ ∃ N : L2.St → Hp → Prop, (∀ σ' H', N σ' H' → ∃ m', m' < m ∧ W (i + 1) m' σ' H') ∧ ∀ x H', (Itz K a b).yld i H x H' → g x σ H' fun σ2 H2 => tb { G with nx := N, ct := N, bk := G.nx } σ2 H2) := by
  obtain ⟨p1, vs, rfl, h1, a1⟩ := hx.lst_ex
  obtain ⟨p2, us, rfl, h2, a2⟩ := hy.lst_ex
  refine ⟨p1, p2, vs, us, rfl, .inl (.inl (w.imm _ _ h1)), .inl (.inl (w.imm _ _ h2)), ?_⟩
  refine RZ.for_zipL (K := K) (xs := vs) (ys := us) (by rw [a1.length, a2.length, hl]) Pv h0 (fun i σ H q => ⟨.inl (.inl (hI i σ H q _ _ h1)), .inl (.inl (hI i σ H q _ _ h2))⟩) (fun i x y T σ H e1 e2 q nT => ?_) (fun σ H q => hd σ H (by rw [← a1.length]; exact q))
  obtain ⟨d, f1, g1⟩ := a1.of e1
  obtain ⟨e, f2, g2⟩ := a2.of e2
  exact hs i d e x y T σ H _ f1 f2 g1 g2 q nT rfl
theorem s_aug {σ : L2.St} {H : Hp} {G : Ends} {i : Nat} {te : TE} {ti : TIp} {x : V} (h : σ[i]? = some (some x)) (q : te σ H fun y H1 => ti x y H1 fun z H2 => G.nx (σ.set i (some z)) H2) : tAug i te ti G σ H := ⟨x, h, q⟩
/-- a list is taken away: fractions stay -/
theorem Is.delF {I : Hp} {v : V} {a b : Int} {p : Addr} {vs : List V} (h : Is I v (fr a b)) (hp : I p = some (.lst vs)) : Is (del I p) v (fr a b) := by
  obtain ⟨t, us, rfl, ht, au⟩ := h.tup_ex
  have ne : t ≠ p := fun e => by rw [e, hp] at ht; cases ht
  refine .tup (by rw [del_ne ne]; exact ht) ?_
  cases au with | cons h1 au =>
  cases au with | cons h2 au =>
  cases au
  cases h1
  cases h2
  exact .cons (.int _) (.cons (.int _) .nil)
theorem IsA.delF {I : Hp} {p : Addr} {us : List V} (hp : I p = some (.lst us)) : ∀ {qs : List Rat} {vs : List V}, IsA I vs (qs.map frq) → IsA (del I p) vs (qs.map frq)
  | [], _, h => by cases h; exact .nil
  | q :: qs, _, h => by
    cases h with
    | cons h a => exact .cons (h.delF hp) (IsA.delF hp a)
theorem Is.delL {I : Hp} {p l : Addr} {us : List V} {qs : List Rat} (h : Is I (.ref l) (.lst (qs.map frq))) (hp : I p = some (.lst us)) (ne : l ≠ p) : Is (del I p) (.ref l) (.lst (qs.map frq)) := by
  cases h with
  | lst h a => exact .lst (by rw [del_ne ne]; exact h) (a.delF hp)
def rIns : V → List V → Hp → VK → Prop := fun x vs H Q => ∃ (l : Addr) (xs : List V) (i : Int) (y : V), x = .ref l ∧ vs = [.int i, y] ∧ H l = some (.lst xs) ∧ xs.length < sizeLine ∧ 0 ≤ i ∧ i < 2 ^ 63 ∧ Q .non (upd H l (.lst (xs.take i.toNat ++ [y] ++ xs.drop i.toNat)))
theorem mt_ins {X : Cx} : MtR X "list.insert" rIns := mt_insert
theorem s_insW1 {I H : Hp} {M : List (Addr × HO)} {m0 : Addr × HO} {p : Addr} {xs : List V} {i : Int} {y : V} {Q : VK} (w : W I H (m0 :: (p, .lst xs) :: M)) (hz : xs.length ≤ 100000) (h0 : 0 ≤ i) (h1 : i < 1000000) (q : ∀ H', W I H' (m0 :: (p, .lst (xs.take i.toNat ++ [y] ++ xs.drop i.toNat)) :: M) → Q .non H') : rIns (.ref p) [.int i, y] H Q :=
  ⟨p, xs, i, y, rfl, rfl, w.at1, Nat.lt_of_le_of_lt hz (by decide), h0, by omega, q _ w.put1⟩
theorem s_popW1 {I H : Hp} {M : List (Addr × HO)} {m0 : Addr × HO} {p : Addr} {xs : List V} {y : V} {Q : VK} (w : W I H (m0 :: (p, .lst xs) :: M)) (hy : xs[xs.length - 1]? = some y) (q : ∀ H', W I H' (m0 :: (p, .lst xs.dropLast) :: M) → Q y H') : rPop (.ref p) [] H Q :=
  ⟨p, xs, y, rfl, rfl, w.at1, hy, q _ w.put1⟩
/-! ### a displayed dict of one pair -/
def DispQ (Q : VK) (p : Addr) (x y : V) (H2 : Hp) : Prop := H2 p = some (.dK []) ∧ ∃ kvs : List (Key × V), [(x, y)] = kvs.map (fun kv => (kV kv.1, kv.2)) ∧ kvs.length ≤ 15 ∧ Q (.ref p) (upd H2 p (.dK (mergeK [] kvs)))
section
variable {σ : L2.St} {I H : Hp} {M : List (Addr × HO)} {Q : VK} {tk tv : TE} {p : Addr} {y : V}
theorem s_disp1 (w : W I H M) (q : ∀ p H', I p = none → W I H' ((p, .dK []) :: M) → tk σ H' fun x H1 => tv σ H1 fun y H2 => DispQ Q p x y H2) : tDisp [(tk, tv)] σ H Q := fun p hp => q p _ (w.fresh hp) (w.newM hp)
theorem s_dispI {n : Int} (w : W I H ((p, .dK []) :: M)) (q : ∀ J H', Same I J → W J H' M → Is J (.ref p) .dict → Q (.ref p) H') : DispQ Q p (.int n) y H :=
  have w2 := w.put0 (o' := .dK (mergeK [] [(Sum.inl n, y)]))
  ⟨w.at0, [(Sum.inl n, y)], rfl, by simp, q _ _ w2.frzS0 w2.frz0 (.dct upd_same)⟩
theorem s_dispS {n : Str} (w : W I H ((p, .dK []) :: M)) (q : ∀ J H', Same I J → W J H' M → Is J (.ref p) .dict → Q (.ref p) H') : DispQ Q p (.str n) y H :=
  have w2 := w.put0 (o' := .dK (mergeK [] [(Sum.inr n, y)]))
  ⟨w.at0, [(Sum.inr n, y)], rfl, by simp, q _ _ w2.frzS0 w2.frz0 (.dct upd_same)⟩
end
def D.whole : D → Bool
  | .int _ => true
  | _ => false
/-- its kind is known to isinstance -/
def Ty (d : D) : Prop := ∃ a, d.tn = some a
end Fs

namespace Fs
open PySem PySem.Spec PyProof.Rows L2
/-! ### own classes -/
/-- what is asked of a class of the text -/
structure OwnC (K : PySem.W.Frag) (C : Addr) : Prop where
  cl : Cls K C
  ha : PySem.W.findIn K (.ref C) "__class__" = some (some (.builtin "object.__class__"))
  hn : PySem.W.specialIn K (.builtin "object.__class__") "__get__" = some (some (.builtin "getset_descriptor.__get__"))
  htk : PySem.W.takesIn K (.builtin "object.__class__") = some true
  hm : PySem.W.mroIn K C (.type "object") = some true
/-- a class that may be made, by its __init__ -/
structure Mak (P : Program) (w : World) (K : PySem.W.Frag) (mg : Str → Option Value) (base : Heap) (x : Str) (C : Addr) (k : Nat) (ps : List Str) (dvs : List V) (sp : Sp) : Prop where
  ex : ∃ (f : Addr) (fd : FuncData) (ds : List Value), Mk K C f ∧ FnOk P w K mg base CX0 k f fd ps sp ∧ mg x = some (.ref C) ∧ Binds K fd ps ds ∧ Vals dvs ds
/-- a method -/
structure Met (P : Program) (w : World) (K : PySem.W.Frag) (mg : Str → Option Value) (base : Heap) (m : Str) (C : Addr) (k : Nat) (ps : List Str) (dvs : List V) (sp : Sp) : Prop where
  ex : ∃ (f : Addr) (fd : FuncData) (ds : List Value), Cls K C ∧ Meth K C m f ∧ FnOk P w K mg base CX0 k f fd ps sp ∧ Binds K fd ps ds ∧ Vals dvs ds
section
variable {X : Cx} {x m : Str} {C : Addr} {p pos apos : Pos} {e o : Expr} {es : List Expr} {ta : TE} {t : TA} {k : Nat} {ps : List Str} {dvs : List V} {sp : Sp}
theorem pe_mk (c : Mak X.prog X.w X.K X.mg X.base x C k ps dvs sp) (hr : Room (k + 1) X.A) (hg : Gl X x) (ha : PA X (e :: es) t) (hdb : (x == ("__debug__" : Str)) = false := by decide)
    (he : starEach (e :: es) X.env = (false, eval e X.env) :: starEach es X.env := by rfl) (hpl : (backTo pos (starEach es X.env)).any (·.1) = false := by rfl) : PE X (.Call (.Name x p) (e :: es) [] pos) (tMake C sp dvs E0 t) := by
  obtain ⟨f, fd, ds, M, F, hm, hb, hd⟩ := c.ex
  exact pe_make M F hr hg hm hb hd pass0 ha hdb he hpl
theorem pe_mk0 (c : Mak X.prog X.w X.K X.mg X.base x C k ps dvs sp) (hr : Room (k + 1) X.A) (hg : Gl X x) (hdb : (x == ("__debug__" : Str)) = false := by decide) : PE X (.Call (.Name x p) [] [] pos) (tMake C sp dvs E0 tNil) := by
  obtain ⟨f, fd, ds, M, F, hm, hb, hd⟩ := c.ex
  exact pe_make0 M F hr hg hm hb hd pass0 hdb
theorem pe_met {pl : Sem Bool} (he : PE X o ta) (c : Met X.prog X.w X.K X.mg X.base m C k ps dvs sp) (hr : Room k X.A) (ha : PA X (e :: es) t)
    (hst : starEach (e :: es) X.env = (false, eval e X.env) :: starEach es X.env := by rfl) (hpl : (backTo pos (starEach es X.env)).any (·.1) = false := by rfl)
    (ht : eval (.Call (.Attribute o m apos) (e :: es) [] pos) X.env = (do
      let ov ← eval o X.env
      standAt apos.atName
      let (f, first) ← holding [ov] (getMethod ov m pl)
      callWith pos f first (backTo pos (starEach (e :: es) X.env)) (backToKw pos (keywordEach [] X.env))) := by rfl) :
    PE X (.Call (.Attribute o m apos) (e :: es) [] pos) (tMeth C m sp dvs E0 ta t) := by
  obtain ⟨f, fd, ds, c, hm, F, hb, hd⟩ := c.ex
  exact pe_meth he c hm F hr hb hd pass0 ha hst hpl ht
theorem pe_met0 {pl : Sem Bool} (he : PE X o ta) (c : Met X.prog X.w X.K X.mg X.base m C k ps dvs sp) (hr : Room k X.A)
    (ht : eval (.Call (.Attribute o m apos) [] [] pos) X.env = (do
      let ov ← eval o X.env
      standAt apos.atName
      let (f, first) ← holding [ov] (getMethod ov m pl)
      callWith pos f first (backTo pos (starEach [] X.env)) (backToKw pos (keywordEach [] X.env))) := by rfl) :
    PE X (.Call (.Attribute o m apos) [] [] pos) (tMeth C m sp dvs E0 ta tNil) := by
  obtain ⟨f, fd, ds, c, hm, F, hb, hd⟩ := c.ex
  exact pe_meth0 he c hm F hr hb hd pass0 ht
end
/-- a class made with keywords -/
structure MakK (P : Program) (w : World) (K : PySem.W.Frag) (mg : Str → Option Value) (base : Heap) (x : Str) (C : Addr) (k : Nat) (ps : List Str) (n : Nat) (ks : List Str) (gV : List V → List V → List V) (sp : Sp) : Prop where
  ex : ∃ (f : Addr) (fd : FuncData) (g : List Value → List Value → List Value), Mk K C f ∧ FnOk P w K mg base CX0 k f fd ps sp ∧ mg x = some (.ref C) ∧ KBn K fd ps (n + 1) ks g gV
section
variable {X : Cx} {x : Str} {C : Addr} {p pos : Pos} {e : Expr} {es : List Expr} {kws : List Keyword} {t tk : TA} {k n : Nat} {ps ks : List Str} {gV : List V → List V → List V} {sp : Sp}
theorem pe_mkK (c : MakK X.prog X.w X.K X.mg X.base x C k ps n ks gV sp) (hr : Room (k + 1) X.A) (hg : Gl X x) (ha : PA X (e :: es) t) (hkw : PK X kws tk)
    (hall : (backToKw pos (keywordEach kws X.env)).all (·.1.isSome) = true := by rfl) (hks : (backToKw pos (keywordEach kws X.env)).filterMap (·.1) = ks := by rfl) (hdb : (x == ("__debug__" : Str)) = false := by decide)
    (he : starEach (e :: es) X.env = (false, eval e X.env) :: starEach es X.env := by rfl) (hpl : ((backTo pos (starEach (e :: es) X.env)).any (·.1) || (backToKw pos (keywordEach kws X.env)).any (·.1.isNone)) = false := by rfl) :
    PE X (.Call (.Name x p) (e :: es) kws pos) (tMakeK C n ks.length sp gV E0 t tk) := by
  obtain ⟨f, fd, g, M, F, hm, hb⟩ := c.ex
  exact pe_makeK M F hr hg hm hb pass0 ha hkw hall hks hdb he hpl
theorem pe_mkK0 (c : MakK X.prog X.w X.K X.mg X.base x C k ps 0 ks gV sp) (hr : Room (k + 1) X.A) (hg : Gl X x) (hkw : PK X kws tk)
    (hall : (backToKw pos (keywordEach kws X.env)).all (·.1.isSome) = true := by rfl) (hks : (backToKw pos (keywordEach kws X.env)).filterMap (·.1) = ks := by rfl) (hdb : (x == ("__debug__" : Str)) = false := by decide)
    (hpl : ((backTo pos (starEach [] X.env)).any (·.1) || (backToKw pos (keywordEach kws X.env)).any (·.1.isNone)) = false := by rfl) :
    PE X (.Call (.Name x p) [] kws pos) (tMakeK C 0 ks.length sp gV E0 tNil tk) := by
  obtain ⟨f, fd, g, M, F, hm, hb⟩ := c.ex
  exact pe_makeK0 M F hr hg hm hb pass0 hkw hall hks hdb hpl
end
theorem Vals.dt {vs : List V} {us : List Value} (r : Vals vs us) (j : Nat) : Vals ((vs.drop j).take 1) ((us.drop j).take 1) := by
  induction r generalizing j with
  | nil => simp; exact .nil
  | cons h r ih =>
    cases j with
    | zero => exact .cons h .nil
    | succ j => exact ih j
theorem kps_fld {X : Cx} {K : PySem.W.Frag} {o value : Expr} {f : Str} {pos pos' : Pos} {ta tv : TE} (h : X.K = K) (ha : PE X o ta) (hv : PE X value tv) (hs : swapsWith value (some (.Attribute o f pos')) pos.line X.env = pure false) : PS X (.Assign [.Attribute o f pos'] value pos) (sFld K ta tv f) := h ▸ ps_fld ha hv hs
/-! steps -/
def MakeQ (C : Addr) (sp : Sp) (E : XK) (Q : VK) (vs : List V) (H1 : Hp) : Prop := ∀ x dx, H1 x = none → H1 dx = none → dx ≠ x → sp (.ref x :: vs) (upd (upd H1 dx (.own x)) x (.ins C dx [])) (fun v H2 => v = .non ∧ Q (.ref x) H2) E
def SfQ (K : PySem.W.Frag) (f : Str) (G : Ends) (σ : L2.St) (x y : V) (H2 : Hp) : Prop := ∃ a C dx fs, x = .ref a ∧ H2 a = some (.ins C dx fs) ∧ Cls K C ∧ NoAttr K C f ∧ fs.length < 1000 ∧ G.nx σ (upd H2 a (.ins C dx (putF f y fs)))
def MethQ (C : Addr) (m : Str) (x : V) (H : Hp) (A : Prop) : Prop := ∃ a dx fs, x = .ref a ∧ H a = some (.ins C dx fs) ∧ fs.lookup m = none ∧ A
theorem putF_new {f : Str} {v : V} : ∀ {fs : List (Str × V)}, f ∉ fs.map (·.1) → putF f v fs = fs ++ [(f, v)]
  | [], _ => rfl
  | (g, x) :: r, h => by
    have h1 : ¬ g = f := fun e => h (by rw [e]; exact List.mem_cons_self)
    have h2 : f ∉ r.map (·.1) := fun e => h (List.mem_cons_of_mem _ e)
    show (if g = f then _ else (g, x) :: putF f v r) = _
    rw [if_neg h1, putF_new h2]
    rfl
section
variable {K : PySem.W.Frag} {σ : L2.St} {I H : Hp} {M : List (Addr × HO)} {Q : VK} {G : Ends} {ta tv : TE} {tA : TA} {C : Addr} {sp : Sp} {dvs vs : List V} {E : XK} {m f : Str} {v x y : V} {fs : List (Str × D)} {L : List Str}
theorem s_make (h : tA σ H fun vs H1 => MakeQ C sp E Q (vs ++ dvs) H1) : tMake C sp dvs E tA σ H Q := h
theorem s_makeW (w : W I H M) (q : ∀ x dx H', I x = none → W I H' ((x, .ins C dx []) :: M) → sp (.ref x :: vs) H' (fun v H2 => v = .non ∧ Q (.ref x) H2) E) : MakeQ C sp E Q vs H := fun x dx hx hd ne => by
  have w1 : W I (upd H dx (.own x)) M := w.more (same_new hd)
  have hx1 : upd H dx (.own x) x = none := by rw [upd_ne ne.symm]; exact hx
  exact q x dx _ (w.fresh hx) (w1.newM hx1)
def MakeKQ (C : Addr) (sp : Sp) (gV : List V → List V → List V) (E : XK) (Q : VK) (vs zs : List V) (H2 : Hp) : Prop := ∀ x dx, H2 x = none → H2 dx = none → dx ≠ x → sp (gV (.ref x :: vs) zs) (upd (upd H2 dx (.own x)) x (.ins C dx [])) (fun v H3 => v = .non ∧ Q (.ref x) H3) E
theorem s_makeK {gV : List V → List V → List V} {n m : Nat} {tK : TA} (h : tA σ H fun vs H1 => tK σ H1 fun zs H2 => vs.length = n ∧ zs.length = m ∧ MakeKQ C sp gV E Q vs zs H2) : tMakeK C n m sp gV E tA tK σ H Q := h
theorem s_mkKQ {gV : List V → List V → List V} {zs us : List V} (hg : ∀ x, gV (x :: vs) zs = x :: us) (h : MakeQ C sp E Q us H) : MakeKQ C sp gV E Q vs zs H := fun x dx a b c => by rw [hg]; exact h x dx a b c
theorem s_makeW2 {m0 : Addr × HO} (w : W I H (m0 :: M)) (q : ∀ x dx H', I x = none → W I H' ((x, .ins C dx []) :: m0 :: M) → sp (.ref x :: vs) H' (fun v H2 => v = .non ∧ Q (.ref x) H2) E) : MakeQ C sp E Q vs H := s_makeW w q
theorem s_sfld (h : tv σ H fun y H1 => ta σ H1 fun x H2 => SfQ K f G σ x y H2) : sFld K ta tv f G σ H := h
theorem s_sfW {a dx : Addr} {gs : List (Str × V)} (w : W I H ((a, .ins C dx gs) :: M)) (hc : Cls K C) (hn : ∀ f ∈ L, NoAttr K C f) (hf : f ∈ L) (hg : gs.length < 1000) (q : ∀ H', W I H' ((a, .ins C dx (putF f y gs)) :: M) → G.nx σ H') : SfQ K f G σ (.ref a) y H :=
  ⟨a, C, dx, gs, rfl, w.at0, hc, hn f hf, hg, q _ w.put0⟩
theorem s_meth (h : ta σ H fun x H1 => MethQ C m x H1 (tA σ H1 fun vs H2 => sp (x :: (vs ++ dvs)) H2 Q E)) : tMeth C m sp dvs E ta tA σ H Q := h
theorem s_methAt {A : Prop} (w : W I H M) (h : Is I v (.obj C fs)) (hm : m ∉ fs.map (·.1)) (q : A) : MethQ C m v H A := by
  obtain ⟨p, dx, vs, rfl, hp, a⟩ := h.obj_ex
  refine ⟨p, dx, vs, rfl, w.imm _ _ hp, a.no ?_, q⟩
  cases e : fs.lookup m with
  | none => rfl
  | some d =>
    exfalso
    apply hm
    clear a hp h
    induction fs with
    | nil => cases e
    | cons g r ih =>
      rw [List.lookup_cons] at e
      cases hc : m == g.1 with
      | true => rw [beq_iff_eq.mp hc]; exact List.mem_cons_self
      | false => rw [hc] at e; exact List.mem_cons_of_mem _ (ih (fun q => hm (List.mem_cons_of_mem _ q)) e)
theorem s_fldA {d : D} (w : W I H M) (h : Is I v (.obj C fs)) (hc : Cls K C) (hn : ∀ f ∈ L, NoAttr K C f) (hf : f ∈ L) (hd : fs.lookup f = some d) (q : ∀ u, Is I u d → Q u H) :
    ∃ a C dx fs u, v = .ref a ∧ H a = some (.ins C dx fs) ∧ Cls K C ∧ NoAttr K C f ∧ fs.lookup f = some u ∧ Q u H := s_fldAt w h hc (hn f hf) hd q
def FldQ (K : PySem.W.Frag) (f : Str) (Q : VK) (x : V) (H1 : Hp) : Prop := tFld K (fun _ H Q => Q x H) f [] H1 Q
theorem s_fldQ (h : ta σ H fun x H1 => FldQ K f Q x H1) : tFld K ta f σ H Q := h
theorem s_fldI {d : D} (w : W I H M) (h : Is I v (.obj C fs)) (hc : Cls K C) (hn : ∀ f ∈ L, NoAttr K C f) (hf : f ∈ L) (hd : fs.lookup f = some d) (q : ∀ u, Is I u d → Q u H) : FldQ K f Q v H := s_fldA w h hc hn hf hd q
theorem Is.tyo (o : OwnC K C) (w : W I H M) (h : Is I v (.obj C fs)) : TyX K H v (.ref C) := by
  obtain ⟨p, dx, vs, rfl, hp, a⟩ := h.obj_ex
  exact .base (.ins (w.imm _ _ hp) o.cl o.ha o.hn o.htk o.hm)
theorem s_isiO {b : String} {k : Bool} (o : OwnC K C) (w : W I H M) (h : Is I v (.obj C fs)) (hb : PySem.W.kitOne K (.ref C) (.type b) = some k) (q : Q (.bl k) H) : rIsiU K [v, .ty b] H Q :=
  .inl ⟨v, .ty b, .ref C, .type b, k, rfl, .ty b, h.tyo o w, hb, q⟩
theorem s_isiC {a : String} {d : D} {k : Bool} (w : W I H M) (h : Is I v d) (e : d.tn = some a) (hb : PySem.W.kitOne K (.type a) (.ref C) = some k) (q : Q (.bl k) H) : rIsiU K [v, .ref C] H Q :=
  .inl ⟨v, .ref C, .type a, .ref C, k, rfl, .own C, h.tyx w e, hb, q⟩
theorem s_isiOC {C' : Addr} {k : Bool} (o : OwnC K C) (w : W I H M) (h : Is I v (.obj C fs)) (hb : PySem.W.kitOne K (.ref C) (.ref C') = some k) (q : Q (.bl k) H) : rIsiU K [v, .ref C'] H Q :=
  .inl ⟨v, .ref C', .ref C, .ref C', k, rfl, .own C', h.tyo o w, hb, q⟩
end
theorem s_intN {n : Int} {A B : Prop} (h : B) : if decide (V.int n = V.non) = true then A else B := s_iteDn (fun q => nomatch q) h
theorem s_refN {n : Addr} {A B : Prop} (h : B) : if decide (V.ref n = V.non) = true then A else B := s_iteDn (fun q => nomatch q) h
theorem s_nonN {A B : Prop} (h : A) : if decide (V.non = V.non) = true then A else B := s_iteDp rfl h
/-- an own class is no built-in one -/
structure KitC (K : PySem.W.Frag) (C : Addr) : Prop where
  i : PySem.W.kitOne K (.ref C) (.type "int") = some false
  b : PySem.W.kitOne K (.ref C) (.type "bool") = some false
  t : PySem.W.kitOne K (.ref C) (.type "tuple") = some false
  l : PySem.W.kitOne K (.ref C) (.type "list") = some false
  s : PySem.W.kitOne K (.ref C) (.type "str") = some false
  d : PySem.W.kitOne K (.ref C) (.type "dict") = some false
theorem kit_mro {K : PySem.W.Frag} {C : Addr} {b : String} {r : Bool} (hk : PySem.W.kitMeta b = true) (hm : PySem.W.mroIn K C (.type b) = some r) : PySem.W.kitOne K (.ref C) (.type b) = some r := by
  have e : ¬ (Value.ref C == Value.type b) = true := fun h => by cases (beq_iff_eq.mp h)
  show (if (Value.ref C == Value.type b) = true then some true else PySem.W.kitCls K (.ref C) (.type b)) = some r
  rw [if_neg e]
  show (if PySem.W.kitMeta b = true then PySem.W.subIn K (.ref C) (.type b) else none) = some r
  rw [if_pos hk]
  exact hm
/-- of a known kind, or an instance that is no int -/
def TyK (K : PySem.W.Frag) (d : D) : Prop := Ty d ∨ ∃ C fs, d = .obj C fs ∧ OwnC K C ∧ PySem.W.kitOne K (.ref C) (.type "int") = some false
theorem TyK.of {K : PySem.W.Frag} {d : D} (h : Ty d) : TyK K d := .inl h
/-- a part -/
abbrev prt (C : Addr) (b l : Int) (g : D) (w s : Int) : D := .obj C [("base", .int b), ("least", .int l), ("greatest", g), ("grow", .int w), ("shrink", .int s)]
end Fs

namespace Fs
open PySem PySem.Spec PyProof.Rows L2
local macro_rules | `(tactic| walk_at "is") => `(tactic| first | assumption | exact Is.int _ | exact Is.bl _ | exact Is.non | exact Is.str _ | ((refine' Is.mono ?s ?h); (case s => assumption); (case h => walk_at "is")))
local macro_rules | `(tactic| walk_at "isa") => `(tactic| first | exact IsA.nil | ((refine' IsA.cons ?x ?y); (case x => walk_at "is"); (case y => walk_at "isa")) | assumption)
local macro_rules | `(tactic| walk_at "lst") => `(tactic| first | assumption | exact W.at0 (by assumption) | exact W.at1 (by assumption) | exact W.at2 (by assumption) | ((refine' W.imm ?w _ _ ?h); (case w => assumption); (case h => assumption)))
local macro_rules | `(tactic| walk_at "inv") => `(tactic| (intro u hu; first | (have e := Is.int_eq hu; subst e) | (have e := Is.bl_eq hu; subst e) | (have e := Is.non_eq hu; subst e) | (have e := Is.str_eq hu; subst e) | (have e := Is.ref_eq hu; subst e) | skip))
local macro_rules | `(tactic| walk_at "e1") => `(tactic| first
  | (with_reducible refine' s_var ?h ?_); (case h => exact rfl)
  | with_reducible refine s_c ?_
  | with_reducible refine s_op ?_
  | with_reducible refine s_cons ?_
  | with_reducible refine s_nil ?_
  | with_reducible refine s_I0 ?_
  | with_reducible refine s_add ?_
  | with_reducible refine s_U ?_
  | with_reducible refine s_un ?_
  | with_reducible refine s_test ?_
  | with_reducible refine s_B ?_
  | with_reducible refine s_k ?_
  | with_reducible refine s_call ?_
  | with_reducible refine s_cb ?_
  | with_reducible refine s_not ?_
  | with_reducible refine s_and ?_
  | with_reducible refine s_or ?_
  | with_reducible refine s_andV ?_
  | with_reducible refine s_orV ?_
  | with_reducible refine s_notV ?_
  | with_reducible refine s_if ?_
  | with_reducible refine s_chain ?_
  | with_reducible refine s_isN ?_
  | with_reducible refine s_notN ?_
  | with_reducible refine s_tup ?_
  | with_reducible refine s_lst ?_
  | with_reducible refine s_fldQ ?_
  | with_reducible refine s_make ?_
  | with_reducible refine s_makeK ?_
  | with_reducible refine s_meth ?_
  | with_reducible refine s_rev ?_
  | with_reducible refine s_sl ?_
  | with_reducible refine s_noP ?_
  | with_reducible refine s_part ?_
  | with_reducible refine s_part' ?_
  | with_reducible refine s_lcc ?_
  | with_reducible refine s_yes ?_
  | with_reducible refine s_abs ?_
  | with_reducible refine s_intB ?_
  | with_reducible refine s_intI ?_
  | with_reducible refine s_min2 ?_
  | with_reducible refine s_max2 ?_
  | with_reducible refine s_ipI ?_
  | ((with_reducible refine' s_ixT (by assumption) ?h ?d ?_); (case h => walk_at "is"); (case d => exact rfl); walk_at "inv")
  | ((with_reducible refine' s_ixL (by assumption) ?h ?d ?_); (case h => walk_at "is"); (case d => exact rfl); walk_at "inv")
  | ((with_reducible refine' s_ixM ?h ?d ?_); (case h => walk_at "lst"); (case d => exact rfl))
  | ((with_reducible refine' s_ixLM ?h ?d ?_); (case h => walk_at "lst"); (case d => exact rfl))
  | ((with_reducible refine' s_fldI (by assumption) ?h ?c ?n ?f ?d ?_); (case h => walk_at "is"); (case c => exact OwnC.cl (by assumption)); (case n => assumption); (case f => decide); (case d => exact rfl); walk_at "inv")
  | ((with_reducible refine' s_lenT (by assumption) ?h ?_); (case h => walk_at "is"))
  | ((with_reducible refine' s_lenL (by assumption) ?h ?_); (case h => walk_at "is"))
  | ((with_reducible refine' s_lenM ?h ?_); (case h => walk_at "lst"))
  | ((with_reducible refine' s_I ?c ?_); (case c => exact ⟨⟨by decide, by decide, by decide⟩, by decide⟩))
  | ((with_reducible refine' s_eq ?h ?_); (case h => exact rfl))
  | ((with_reducible refine' s_ne ?h ?_); (case h => exact rfl))
  | ((with_reducible refine' s_isi (by assumption) ?h ?e ?k ?_); (case h => walk_at "is"); (case e => exact rfl); (case k => first | exact kit_ii | exact kit_ib | exact kit_bi | exact kit_bb | exact kit_tt | exact kit_ll | decide +kernel)))
local macro_rules | `(tactic| walk_at "s1") => `(tactic| first
  | with_reducible refine s_seq ?_
  | with_reducible refine s_asg ?_
  | with_reducible refine s_gname ?_
  | with_reducible refine s_ret ?_
  | with_reducible refine s_ifS ?_
  | with_reducible refine s_drop ?_
  | with_reducible refine s_next ?_
  | with_reducible refine s_par ?_
  | with_reducible refine s_par2 ?_
  | with_reducible refine s_for ?_
  | with_reducible refine s_bm ?_
  | with_reducible refine s_bm0 ?_
  | with_reducible refine s_gsub ?_
  | with_reducible refine s_sfld ?_
  | with_reducible refine s_augS ?_
  | ((with_reducible refine' s_setW0 (by assumption) ?j ?_); (case j => exact rfl); (intro H' w'))
  | ((with_reducible refine' s_setW1 (by assumption) ?j ?_); (case j => exact rfl); (intro H' w'))
  | ((with_reducible refine' s_tyL ?h ?_); (case h => walk_at "lst"))
  | with_reducible refine s_gnil ?_
  | with_reducible refine s_gcons ?_
  | with_reducible refine s_retN ?_
  | with_reducible refine s_rng1 ?_
  | with_reducible refine s_zip ?_
  | ((with_reducible refine' s_aug ?h ?_); (case h => exact rfl))
  | with_reducible refine s_iL ?_
  | with_reducible refine s_iT ?_
  | with_reducible refine s_cnt ?_
  | with_reducible refine s_brk ?_)
local macro_rules | `(tactic| walk_at "b1") => `(tactic| first
  | with_reducible refine iteT ?_
  | with_reducible refine iteF ?_
  | with_reducible refine s_iteN ?_
  | with_reducible refine s_intN ?_
  | with_reducible refine s_refN ?_
  | with_reducible refine s_nonN ?_
  | ((with_reducible refine s_iteIp ?h ?_); (case h => exact rfl)))
local macro_rules | `(tactic| walk_at "o1") => `(tactic| first
  | ((with_reducible refine' s_mul ?c ?_); (case c => exact cm64 (by omega) (by omega) (by omega) (by omega)))
  | ((with_reducible refine' s_I ?c ?_); (case c => first | exact cd64 (by omega) (by omega) | (show (0 : Int) < _; omega) | exact ⟨⟨by decide, by decide, by decide⟩, by decide⟩))
  | with_reducible refine s_iteIp (by omega) ?_
  | with_reducible refine s_iteIn (by omega) ?_
  | with_reducible refine s_iteDp (by omega) ?_
  | with_reducible refine s_iteDn (by omega) ?_)
local macro_rules | `(tactic| walk_at "go") => `(tactic| repeat (first | walk_at "e1" | walk_at "s1" | walk_at "b1"))
local macro_rules | `(tactic| walk_at "goo") => `(tactic| repeat (first | walk_at "e1" | walk_at "s1" | walk_at "b1" | walk_at "o1"))
local macro_rules | `(tactic| walk_at "st") => `(tactic| (walk_at "s1"; walk_at "s1"))
local macro_rules | `(tactic| walk_at "fork") => `(tactic| first
  | with_reducible refine s_iteI (fun _ => ?_) (fun _ => ?_)
  | with_reducible refine s_iteD (fun _ => ?_) (fun _ => ?_)
  | with_reducible refine s_ite (fun _ => ?_) (fun _ => ?_))
section
variable {P : Program} {w : World} {K : PySem.W.Frag} {mg : Str → Option Value} {base : Heap}
variable {C_Part : Addr}
def top (i : Nat) : Stmt := PySem.Challenge.pw_fairsheet_k14_size_by_price.main.body.getD i (.Pass ⟨0, 0, 0, 0⟩)
abbrev s_is_whole : Stmt := top 8
theorem sc_is_whole : FnScope ["thing"] ["thing"] (defScope s_is_whole) := ⟨rfl, rfl, rfl, by decide +kernel, rfl, by decide +kernel, by decide +kernel⟩
def sp_is_whole (K : PySem.W.Frag) : Sp := fun vs H Q _ => ∃ I M v d, vs = [v] ∧ W I H M ∧ Is I v d ∧ TyK K d ∧ Q (.bl d.whole) H
theorem use_isI {K : PySem.W.Frag} {I H : Hp} {M : List (Addr × HO)} {n : Int} {Q : VK} {E : XK} (w : W I H M) (q : Q (.bl true) H) : sp_is_whole K ([.int n] ++ []) H Q E := ⟨I, M, _, _, rfl, w, .int n, .inl ⟨_, rfl⟩, q⟩
theorem use_isN {K : PySem.W.Frag} {I H : Hp} {M : List (Addr × HO)} {v : V} {d : D} {a : String} {Q : VK} {E : XK} (w : W I H M) (h : Is I v d) (ha : d.tn = some a) (hd : d.whole = false) (q : Q (.bl false) H) : sp_is_whole K ([v] ++ []) H Q E := ⟨I, M, _, _, rfl, w, h, .inl ⟨_, ha⟩, by rw [hd]; exact q⟩

theorem ok_is_whole {f : Addr} {fd : FuncData} (F : Fun K "is_whole" "is_whole" s_is_whole f fd) (B : Bn mg)  : FnOk P w K mg base CX0 1 f fd ["thing"] (sp_is_whole K) := by
  refine F.ok sc_is_whole (fun vs H Q E h => ?_) (fun cdv A outer s H vs Q E hr h => ?_)
  · obtain ⟨I, M, v, d, rfl, w, hv, ha, k⟩ := h
    rfl
  · obtain ⟨I, M, v, d, rfl, w, hv, ha, k⟩ := h
    refine ⟨_, (pss_one (ps_ret (pe_and (pe_callB (k_isi (K := K) rfl) (by rfl) B.isinstance_ (by decide +kernel) (pa_cons (pv 0) (pa_cons (pe_bltn (v := .ty "int") (by rfl) B.int_ (by decide +kernel) rfl) pa_nil))) (pe_one (pe_not (pe_callB (k_isi (K := K) rfl) (by rfl) B.isinstance_ (by decide +kernel) (pa_cons (pv 0) (pa_cons (pe_bltn (v := .ty "bool") (by rfl) B.bool_ (by decide +kernel) rfl) pa_nil)))))))), ?_⟩
    try dsimp only [cxOf, Cx.nox, Cx.wish, Cx.blk]
    rcases ha with ⟨a, ha⟩ | ⟨C, fs, rfl, oc, ki⟩
    · cases d with
      | int n => walk_at "go"; exact k
      | bl n => walk_at "go"; exact k
      | non => walk_at "go"; exact k
      | str n => walk_at "go"; exact k
      | tup n => walk_at "go"; exact k
      | lst n => walk_at "go"; exact k
      | ref n => cases ha
      | ty n => cases ha
      | obj n m => cases ha
      | dict => walk_at "go"; exact k
    · walk_at "go"
      refine s_isiO oc w hv ki ?_
      walk_at "go"
      exact k
def D.upto (m : Int) : D → Bool
  | .int n => decide (0 ≤ n) && decide (n ≤ m)
  | _ => false
theorem upto_ok {n m : Int} (h0 : 0 ≤ n) (h1 : n ≤ m) : (D.int n).upto m = true := by simp [D.upto, h0, h1]

abbrev s_is_length : Stmt := top 9
theorem sc_is_length : FnScope ["thing"] ["thing"] (defScope s_is_length) := ⟨rfl, rfl, rfl, by decide +kernel, rfl, by decide +kernel, by decide +kernel⟩
def sp_is_length (K : PySem.W.Frag) : Sp := fun vs H Q _ => ∃ I M v d, vs = [v] ∧ W I H M ∧ Is I v d ∧ TyK K d ∧ Q (.bl (d.upto 1000000000000)) H
theorem use_is_length {K : PySem.W.Frag} {I H : Hp} {M : List (Addr × HO)} {n : Int} {Q : VK} {E : XK} (w : W I H M) (h0 : 0 ≤ n) (h1 : n ≤ 1000000000000) (q : Q (.bl true) H) : sp_is_length K ([.int n] ++ []) H Q E := ⟨I, M, _, _, rfl, w, .int n, .inl ⟨_, rfl⟩, by rw [upto_ok h0 h1]; exact q⟩

theorem ok_is_length {f : Addr} {fd : FuncData} (F : Fun K "is_length" "is_length" s_is_length f fd) (B : Bn mg) (c_is_whole : Cal P w K mg base "is_whole" 1 ["thing"] [] (sp_is_whole K)) (g_LENGTH : ∃ t, mg "LENGTH" = some (.int 1000000000000 t))  : FnOk P w K mg base CX0 2 f fd ["thing"] (sp_is_length K) := by
  refine F.ok sc_is_length (fun vs H Q E h => ?_) (fun cdv A outer s H vs Q E hr h => ?_)
  · obtain ⟨I, M, v, d, rfl, w, hv, ha, k⟩ := h
    rfl
  · obtain ⟨I, M, v, d, rfl, w, hv, ha, k⟩ := h
    refine ⟨_, (pss_one (ps_ret (pe_and (pe_cal c_is_whole (hr.mono (by decide)) (by rfl) (pa_cons (pv 0) pa_nil)) (pe_one (pe_chain op_le op_le pe_int (pv 0) (pe_globI (by rfl) g_LENGTH)))))), ?_⟩
    try dsimp only [cxOf, Cx.nox, Cx.wish, Cx.blk]
    walk_at "go"
    refine ⟨I, M, _, _, rfl, w, hv, ha, ?_⟩
    cases d with
    | int n =>
      cases hv.int_eq
      dsimp only [D.whole]
      walk_at "go"
      walk_at "fork"
      · rename_i h1
        walk_at "go"
        have e : (D.int n).upto 1000000000000 = decide (n ≤ 1000000000000) := by simp [D.upto, h1]
        rw [← e]; exact k
      · rename_i h1
        walk_at "go"
        have e : (D.int n).upto 1000000000000 = false := by simp [D.upto, h1]
        rw [← e]; exact k
    | bl n => walk_at "go"; exact k
    | non => walk_at "go"; exact k
    | str n => walk_at "go"; exact k
    | tup n => walk_at "go"; exact k
    | lst n => walk_at "go"; exact k
    | ref n => walk_at "go"; exact k
    | ty n => walk_at "go"; exact k
    | obj n m => walk_at "go"; exact k
    | dict => walk_at "go"; exact k
abbrev s_is_weight : Stmt := top 10
theorem sc_is_weight : FnScope ["thing"] ["thing"] (defScope s_is_weight) := ⟨rfl, rfl, rfl, by decide +kernel, rfl, by decide +kernel, by decide +kernel⟩
def sp_is_weight (K : PySem.W.Frag) : Sp := fun vs H Q _ => ∃ I M v d, vs = [v] ∧ W I H M ∧ Is I v d ∧ TyK K d ∧ Q (.bl (d.upto 1000)) H
theorem use_is_weight {K : PySem.W.Frag} {I H : Hp} {M : List (Addr × HO)} {n : Int} {Q : VK} {E : XK} (w : W I H M) (h0 : 0 ≤ n) (h1 : n ≤ 1000) (q : Q (.bl true) H) : sp_is_weight K ([.int n] ++ []) H Q E := ⟨I, M, _, _, rfl, w, .int n, .inl ⟨_, rfl⟩, by rw [upto_ok h0 h1]; exact q⟩

theorem ok_is_weight {f : Addr} {fd : FuncData} (F : Fun K "is_weight" "is_weight" s_is_weight f fd) (B : Bn mg) (c_is_whole : Cal P w K mg base "is_whole" 1 ["thing"] [] (sp_is_whole K)) (g_WEIGHT : ∃ t, mg "WEIGHT" = some (.int 1000 t))  : FnOk P w K mg base CX0 2 f fd ["thing"] (sp_is_weight K) := by
  refine F.ok sc_is_weight (fun vs H Q E h => ?_) (fun cdv A outer s H vs Q E hr h => ?_)
  · obtain ⟨I, M, v, d, rfl, w, hv, ha, k⟩ := h
    rfl
  · obtain ⟨I, M, v, d, rfl, w, hv, ha, k⟩ := h
    refine ⟨_, (pss_one (ps_ret (pe_and (pe_cal c_is_whole (hr.mono (by decide)) (by rfl) (pa_cons (pv 0) pa_nil)) (pe_one (pe_chain op_le op_le pe_int (pv 0) (pe_globI (by rfl) g_WEIGHT)))))), ?_⟩
    try dsimp only [cxOf, Cx.nox, Cx.wish, Cx.blk]
    walk_at "go"
    refine ⟨I, M, _, _, rfl, w, hv, ha, ?_⟩
    cases d with
    | int n =>
      cases hv.int_eq
      dsimp only [D.whole]
      walk_at "go"
      walk_at "fork"
      · rename_i h1
        walk_at "go"
        have e : (D.int n).upto 1000 = decide (n ≤ 1000) := by simp [D.upto, h1]
        rw [← e]; exact k
      · rename_i h1
        walk_at "go"
        have e : (D.int n).upto 1000 = false := by simp [D.upto, h1]
        rw [← e]; exact k
    | bl n => walk_at "go"; exact k
    | non => walk_at "go"; exact k
    | str n => walk_at "go"; exact k
    | tup n => walk_at "go"; exact k
    | lst n => walk_at "go"; exact k
    | ref n => walk_at "go"; exact k
    | ty n => walk_at "go"; exact k
    | obj n m => walk_at "go"; exact k
    | dict => walk_at "go"; exact k
abbrev s_divisor : Stmt := top 11
theorem sc_divisor : FnScope ["one", "other"] ["one", "other"] (defScope s_divisor) := ⟨rfl, rfl, rfl, by decide +kernel, rfl, by decide +kernel, by decide +kernel⟩
def sp_divisor : Sp := fun vs H Q _ => ∃ a b : Int, vs = [.int a, .int b] ∧ 0 ≤ a ∧ 0 ≤ b ∧ Q (.int (Int.gcd a b)) H

theorem ok_divisor {f : Addr} {fd : FuncData} (F : Fun K "divisor" "divisor" s_divisor f fd) (B : Bn mg)  : FnOk P w K mg base CX0 1 f fd ["one", "other"] sp_divisor := by
  refine F.ok sc_divisor (fun vs H Q E h => ?_) (fun cdv A outer s H vs Q E hr h => ?_)
  · obtain ⟨a, b, rfl, ha, hb, k⟩ := h
    rfl
  · obtain ⟨a, b, rfl, ha, hb, k⟩ := h
    refine ⟨_, (pss_cons (ps_while PassesOwn.never (pt_cmpR (k_ne (K := K) rfl hr.units) (pv 0) pe_int (nomark _)) (pss_one (ps_par (i := 0) (j := 1) rfl sc_divisor.nd rfl rfl (by decide) rfl rfl (pa_cons (pe_op op_mod (pv 1) (pv 0)) (pa_cons (pv 0) pa_nil)) rfl)))
      (pss_one (ps_ret (pv 1)))), ?_⟩
    try dsimp only [cxOf, Cx.nox, Cx.wish, Cx.blk]
    with_reducible refine s_seq ?_
    refine s_while (fun σ' H' => H' = H ∧ ∃ a' b' : Int, σ' = [some (.int a'), some (.int b')] ∧ 0 ≤ a' ∧ 0 ≤ b' ∧ Int.gcd b' a' = Int.gcd a b) (fun σ => match σ with | [some (.int b), _] => b.toNat | _ => 0) ⟨rfl, a, b, rfl, ha, hb, Int.gcd_comm _ _⟩ ?_
    rintro σ' H' ⟨rfl, a', b', rfl, ha', hb', e⟩
    walk_at "go"
    walk_at "fork"
    · walk_at "go"
      rename_i e0
      subst e0
      rw [← e, gcd_end hb'] at k
      exact k
    · rename_i e0
      refine s_wN ?_
      walk_at "goo"
      exact ⟨⟨rfl, b' % a', a', rfl, Int.emod_nonneg _ e0, ha', by rw [gcd_step hb' ha', e]⟩, by
        have := Int.emod_lt_of_pos b' (show 0 < a' by omega)
        have := Int.emod_nonneg b' e0
        show (b' % a').toNat < a'.toNat
        omega⟩
abbrev s_fraction : Stmt := top 12
theorem sc_fraction : FnScope ["top", "bottom", "by"] ["top", "bottom"] (defScope s_fraction) := ⟨rfl, rfl, rfl, by decide +kernel, rfl, by decide +kernel, by decide +kernel⟩
def sp_fraction : Sp := fun vs H Q _ => ∃ I M, ∃ t b : Int, vs = [.int t, .int b] ∧ W I H M ∧ b ≠ 0 ∧ Bd 8000 b ∧ ∀ r J H', Same I J → W J H' M → Is J r (frq (Rat.divInt t b)) → Q r H'
theorem use_fraction {I H : Hp} {M : List (Addr × HO)} {t b : Int} {Q : VK} {E : XK} (w : W I H M) (hb : b ≠ 0) (hB : Bd 8000 b) (q : ∀ r J H', Same I J → W J H' M → Is J r (frq (Rat.divInt t b)) → Q r H') : sp_fraction ([.int t, .int b] ++ []) H Q E := ⟨I, M, t, b, rfl, w, hb, hB, q⟩

theorem ok_fraction {f : Addr} {fd : FuncData} (F : FunD K "fraction" "fraction" (defArgs s_fraction) (defBody s_fraction) (defScope s_fraction) [.int 1] [] f fd) (B : Bn mg) (c_divisor : Cal P w K mg base "divisor" 1 ["one", "other"] [] sp_divisor)  : FnOk P w K mg base CX0 2 f fd ["top", "bottom"] sp_fraction := by
  refine F.ok0 sc_fraction (fun vs H Q E h => ?_) (fun cdv A outer s H vs Q E hr h => ?_)
  · obtain ⟨I, M, t, b, rfl, w, hb, hB, k⟩ := h
    rfl
  · obtain ⟨I, M, t, b, rfl, w, hb, hB, k⟩ := h
    refine ⟨_, (pss_cons (ps_if (pt_cmpR (k_eq (K := K) rfl hr.units) (pv 1) pe_int (nomark _)) pss_never pss_nil)
      (pss_cons (ps_if (pt_cmpR op_lt (pv 1) pe_int (nomark _)) (pss_one (ps_par (i := 0) (j := 1) rfl sc_fraction.nd rfl rfl (by decide) rfl rfl (pa_cons (pe_un un_neg (pv 0)) (pa_cons (pe_un un_neg (pv 1)) pa_nil)) rfl)) pss_nil)
      (pss_cons (ps_set (i := 2) sc_fraction.nd rfl (Or.inl rfl) (pe_cal c_divisor (hr.mono (by decide)) (by rfl) (pa_cons (pe_callB uc_abs (by rfl) B.abs_ (by decide +kernel) (pa_cons (pv 0) pa_nil)) (pa_cons (pv 1) pa_nil))))
      (pss_one (ps_ret (pe_tup (pa_cons (pe_op op_fdivW (pv 0) (pv 2)) (pa_cons (pe_op op_fdivW (pv 1) (pv 2)) pa_nil)))))))), ?_⟩
    try dsimp only [cxOf, Cx.nox, Cx.wish, Cx.blk]
    have hg := gcd_pos' (t := t) hb
    have hgb : Bd 8000 (Int.gcd t b : Int) := hB.le (gcd_le_right' hb)
    with_reducible refine s_seq ?_
    walk_at "go"
    refine s_iteIn hb ?_
    with_reducible refine s_next ?_
    with_reducible refine s_mid (fun σ' H' => H' = H ∧ σ' = [some (.int (if b < 0 then -t else t)), some (.int (if b < 0 then -b else b)), none]) ?_ (fun N fin => ?_)
    · rintro σ' H' ⟨rfl, rfl⟩
      walk_at "go"
      refine ⟨_, _, rfl, (by split <;> split <;> omega), (by split <;> omega), ?_⟩
      have e : Int.gcd (if (if b < 0 then -t else t) < 0 then -(if b < 0 then -t else t) else (if b < 0 then -t else t)) (if b < 0 then -b else b) = Int.gcd t b := by
        by_cases h1 : b < 0
        · rw [if_pos h1, if_pos h1]
          have := gcd_abs (-t) (-b)
          rw [if_neg (show ¬ -b < 0 by omega)] at this
          rw [this, Int.gcd_neg, Int.neg_gcd]
        · rw [if_neg h1, if_neg h1]
          have := gcd_abs t b
          rw [if_neg h1] at this
          exact this
      rw [e]
      walk_at "go"
      refine s_I (hgb.cd hg) ?_
      walk_at "go"
      refine s_I (hgb.cd hg) ?_
      rw [low_num hb, low_den hb]
      walk_at "go"
      refine s_newT w (by walk_at "isa") (by simp) fun p J H' s1 _ w1 h1 => ?_
      exact k _ J H' s1 w1 h1
    · walk_at "go"
      walk_at "fork"
      · rename_i hlt
        walk_at "go"
        exact fin _ _ ⟨rfl, by rw [if_pos hlt, if_pos hlt]; rfl⟩
      · rename_i hlt
        walk_at "go"
        exact fin _ _ ⟨rfl, by rw [if_neg hlt, if_neg hlt]; rfl⟩
abbrev s_is_below : Stmt := top 13
theorem sc_is_below : FnScope ["one", "other"] ["one", "other"] (defScope s_is_below) := ⟨rfl, rfl, rfl, by decide +kernel, rfl, by decide +kernel, by decide +kernel⟩
def sp_is_below : Sp := fun vs H Q _ => ∃ I M u v a b c d, vs = [u, v] ∧ W I H M ∧ Is I u (fr a b) ∧ Is I v (fr c d) ∧ Bd 100000 a ∧ Bd 100000 b ∧ Bd 100000 c ∧ Bd 100000 d ∧ Q (.bl (decide (a * d < c * b))) H

theorem ok_is_below {f : Addr} {fd : FuncData} (F : Fun K "is_below" "is_below" s_is_below f fd) (B : Bn mg)  : FnOk P w K mg base CX0 1 f fd ["one", "other"] sp_is_below := by
  refine F.ok sc_is_below (fun vs H Q E h => ?_) (fun cdv A outer s H vs Q E hr h => ?_)
  · obtain ⟨I, M, u, v, a, b, c, d, rfl, w, hu, hv, ha, hb, hc, hd, k⟩ := h
    rfl
  · obtain ⟨I, M, u, v, a, b, c, d, rfl, w, hu, hv, ha, hb, hc, hd, k⟩ := h
    refine ⟨_, (pss_one (ps_ret (pe_cmpR op_lt (pe_op uo_mul (pe_ix (k_ix (K := K) rfl) (pv 0) pe_int (fun _ _ => rfl)) (pe_ix (k_ix (K := K) rfl) (pv 1) pe_int (fun _ _ => rfl))) (pe_op uo_mul (pe_ix (k_ix (K := K) rfl) (pv 1) pe_int (fun _ _ => rfl)) (pe_ix (k_ix (K := K) rfl) (pv 0) pe_int (fun _ _ => rfl))) (nomark _)))), ?_⟩
    try dsimp only [cxOf, Cx.nox, Cx.wish, Cx.blk]
    walk_at "go"
    refine s_mul (ha.cm hd) ?_
    walk_at "go"
    refine s_mul (hc.cm hb) ?_
    walk_at "go"
    exact k
/-- a greatest: none, or from the base on -/
def Gr (b : Int) (g : D) : Prop := g = .non ∨ ∃ n : Int, g = .int n ∧ b ≤ n ∧ n ≤ 1000000000000
structure PartOk (b l : Int) (g : D) (w s : Int) : Prop where
  l0 : 0 ≤ l
  lb : l ≤ b
  bm : b ≤ 1000000000000
  gr : Gr b g
  w0 : 0 ≤ w
  w1 : w ≤ 1000
  s0 : 0 ≤ s
  s1 : s ≤ 1000
def gOver (g : D) (q : Rat) : Bool := match g with | .int n => decide ((n : Rat) < q) | _ => false
theorem W.doneO {I H : Hp} {M : List (Addr × HO)} {p C dx : Addr} {fs : List (Str × V)} {ds : List (Str × D)} (w : W I H ((p, .ins C dx fs) :: M)) (a : IsF I fs ds) : ∃ J, Same I J ∧ W J H M ∧ Is J (.ref p) (.obj C ds) := ⟨_, w.frzS0, w.frz0, .obj upd_same (a.mono w.frzS0)⟩
abbrev rowD (b l : Int) (g : D) (w s : Int) : D := .tup [.int b, .int l, g, .int w, .int s]
theorem lt_int {n : Int} {q : Rat} : ((n : Rat) < q) ↔ n * q.den < q.num := by
  have := @Rat.lt_iff (n : Rat) q
  simpa using this
theorem int_lt {n : Int} {q : Rat} : (q < (n : Rat)) ↔ q.num < n * q.den := by
  have := @Rat.lt_iff q (n : Rat)
  simpa using this
theorem eq_int {n : Int} {q : Rat} : (q = (n : Rat)) ↔ q.num = n * q.den := by
  constructor
  · intro h
    subst h
    simp
  · intro h
    have h1 : ¬ q < n := fun z => by have := int_lt.mp z; omega
    have h2 : ¬ (n : Rat) < q := fun z => by have := lt_int.mp z; omega
    grind
theorem sub_int (q : Rat) (n : Int) : q - n = Rat.divInt (q.num - n * q.den) q.den := by
  have := sub_dv q (n : Rat)
  simp at this
  exact this.symm
theorem sq_dv {t d w : Int} : Rat.divInt (t * t) (d * d * w) = Rat.divInt t d * Rat.divInt t d / (w : Rat) := by
  simp only [Rat.divInt_eq_div, Rat.intCast_mul, Rat.div_def, Rat.inv_mul_rev]
  grind
theorem sq_q {x : Rat} {w : Int} : Rat.divInt (x.num * x.num) (x.den * x.den * w) = x * x / (w : Rat) := by
  rw [sq_dv, Rat.num_divInt_den]
theorem sq_gap {q : Rat} {b w : Int} : Rat.divInt ((q.num - b * q.den) * (q.num - b * q.den)) (q.den * q.den * w) = (q - b) * (q - b) / (w : Rat) := by
  rw [sq_dv, ← sub_int]
/-- the strain at a size -/
def strD (b l : Int) (g : D) (w s : Int) (q : Rat) : D :=
  if q = (b : Rat) then fr 0 1
  else if (b : Rat) < q then (if w = 0 ∨ gOver g q = true then .non else frq ((q - b) * (q - b) / (w : Rat)))
  else if s = 0 ∨ q < (l : Rat) then .non else frq ((q - b) * (q - b) / (s : Rat))
theorem bd12 {n : Int} (h0 : 0 ≤ n) (h1 : n ≤ 1000000000000) : Bd 40 n := Bd.of 1000000000000 (by omega)
theorem bd3 {n : Int} (h0 : 0 ≤ n) (h1 : n ≤ 1000) : Bd 10 n := Bd.of 1000 (by omega)
theorem bd1 {k : Nat} (h : 0 < k := by decide) : Bd k 1 := Bd.of 1 (by decide) (by
  have : 2 ^ 1 ≤ 2 ^ k := Nat.pow_le_pow_right (by decide) h
  omega)
theorem gt_num {q : Rat} {b : Int} (hqb : ¬ q = (b : Rat)) : ((b : Rat) < q) ↔ ¬ (q - b).num < 0 := by
  have h := @int_lt 0 (q - b)
  rw [Int.zero_mul] at h
  rw [← h, show ((0 : Int) : Rat) = 0 from rfl]
  grind
theorem lt_dv {n x d : Int} (hd : 0 < d) : ((n : Rat) < Rat.divInt x d) ↔ n * d < x := by
  have h : (0 : Rat) < (d : Rat) := by exact Rat.intCast_lt_intCast.mpr hd
  rw [Rat.divInt_eq_div, Rat.lt_div_iff h, ← Rat.intCast_mul, Rat.intCast_lt_intCast]
theorem dv_lt {n x d : Int} (hd : 0 < d) : (Rat.divInt x d < (n : Rat)) ↔ x < n * d := by
  have h : (0 : Rat) < (d : Rat) := by exact Rat.intCast_lt_intCast.mpr hd
  rw [Rat.divInt_eq_div, Rat.div_lt_iff h, ← Rat.intCast_mul, Rat.intCast_lt_intCast]
theorem lin_dv (b s : Int) (p : Rat) : Rat.divInt (b * p.den + s * p.num) p.den = (b : Rat) + s * p := by
  have h : ((p.den : Int) : Rat) ≠ 0 := fun z => den_ne p (Rat.intCast_inj.mp z)
  have e : (p.num : Rat) = p * ((p.den : Int) : Rat) := by
    have q := Rat.num_divInt_den p
    rw [Rat.divInt_eq_div] at q
    have q2 := congrArg (· * ((p.den : Int) : Rat)) q
    simp only [Rat.div_mul_cancel h] at q2
    exact q2
  rw [Rat.divInt_eq_div, Rat.intCast_add, Rat.intCast_mul, Rat.intCast_mul, e]
  grind
def capG (g : D) (x : Rat) : Rat := match g with | .int n => if (n : Rat) < x then n else x | _ => x
/-- the size at a price -/
def sizQ (b l : Int) (g : D) (w s : Int) (p : Rat) : Rat :=
  if p < 0 then (if (b : Rat) + s * p < l then (l : Rat) else (b : Rat) + s * p) else capG g ((b : Rat) + w * p)
theorem lt_zero {p : Rat} : p < 0 ↔ p.num < 0 := by
  have h := @int_lt 0 p
  rw [Int.zero_mul] at h
  exact h
theorem Sz.lin {k : Nat} {b s : Int} {p : Rat} (hb : Bd 40 b) (hs : Bd 40 s) (hp : Sz k p) : Sz (k + 41) ((b : Rat) + s * p) := by
  rw [← lin_dv]
  exact Sz.divInt (den_ne p) (Bd.add (k := k + 40) ((hb.mul hp.d).mono (by omega)) ((hs.mul hp.n).mono (by omega))) hp.d (k + 41)

abbrev s_Part___init__ : Stmt := inClass (top 15) 0
theorem sc_Part___init__ : FnScope ["self", "base", "least", "greatest", "grow", "shrink"] ["self", "base", "least", "greatest", "grow", "shrink"] (defScope s_Part___init__) := ⟨rfl, rfl, rfl, by decide +kernel, rfl, by decide +kernel, by decide +kernel⟩
def sp_Part___init__ (C : Addr) : Sp := fun vs H Q _ => ∃ I M x dx b l g u w s, vs = [.ref x, .int b, .int l, u, .int w, .int s] ∧ W I H ((x, .ins C dx []) :: M) ∧ Is I u g ∧ PartOk b l g w s ∧ ∀ H', W I H' ((x, .ins C dx [("base", .int b), ("least", .int l), ("greatest", u), ("grow", .int w), ("shrink", .int s)]) :: M) → Q .non H'
theorem use_Part {C : Addr} {I H : Hp} {M : List (Addr × HO)} {b l w s : Int} {u : V} {g : D} {Q : VK} {E : XK} (ww : W I H M) (hu : Is I u g) (ok : PartOk b l g w s) (q : ∀ r J H', Same I J → W J H' M → Is J r (prt C b l g w s) → Q r H') : MakeQ C (sp_Part___init__ C) E Q [.int b, .int l, u, .int w, .int s] H :=
  s_makeW ww fun x dx H1 nx w1 => ⟨I, M, x, dx, b, l, g, u, w, s, rfl, w1, hu, ok, fun H2 w2 => ⟨rfl, by
    obtain ⟨J, s1, w3, h3⟩ := w2.doneO (.cons (.int b) (.cons (.int l) (.cons hu (.cons (.int w) (.cons (.int s) .nil)))))
    exact q _ J _ s1 w3 h3⟩⟩

theorem ok_Part___init__ {f : Addr} {fd : FuncData} (F : FunD K "__init__" "Part.__init__" (defArgs s_Part___init__) (defBody s_Part___init__) (defScope s_Part___init__) [.int 0, .non, .int 1, .int 1] [] f fd) (B : Bn mg) (c_is_length : Cal P w K mg base "is_length" 2 ["thing"] [] (sp_is_length K)) (c_is_weight : Cal P w K mg base "is_weight" 2 ["thing"] [] (sp_is_weight K)) (o_Part : OwnC K C_Part) (n_Part : ∀ f ∈ (["base", "least", "greatest", "grow", "shrink"] : List Str), NoAttr K C_Part f)  : FnOk P w K mg base CX0 3 f fd ["self", "base", "least", "greatest", "grow", "shrink"] (sp_Part___init__ C_Part) := by
  refine F.ok0 sc_Part___init__ (fun vs H Q E h => ?_) (fun cdv A outer s H vs Q E hr h => ?_)
  · obtain ⟨I, M, x, dx, b, l, g, u, w, s, rfl, ww, hu, ok, k⟩ := h
    rfl
  · obtain ⟨I, M, x, dx, b, l, g, u, w, s, rfl, ww, hu, ok, k⟩ := h
    refine ⟨_, (pss_cons (ps_if (pt_not (pt_val (pe_cal c_is_length (hr.mono (by decide)) (by rfl) (pa_cons (pv 1) pa_nil)))) pss_never pss_nil)
      (pss_cons (ps_if (pw_or (pt_not (pt_val (pe_cal c_is_length (hr.mono (by decide)) (by rfl) (pa_cons (pv 2) pa_nil)))) (pw_or1 (pt_cmpR op_gt (pv 2) (pv 1) (nomark _)))).pt pss_never pss_nil)
      (pss_cons (ps_if (pw_and (pt_cmp (pc_notN (pv 3))) (pw_and1 (pw_or (pt_not (pt_val (pe_cal c_is_length (hr.mono (by decide)) (by rfl) (pa_cons (pv 3) pa_nil)))) (pw_or1 (pt_cmpR op_lt (pv 3) (pv 1) (nomark _)))).pt)).pt pss_never pss_nil)
      (pss_cons (ps_if (pt_not (pt_val (pe_cal c_is_weight (hr.mono (by decide)) (by rfl) (pa_cons (pv 4) pa_nil)))) pss_never pss_nil)
      (pss_cons (ps_if (pt_not (pt_val (pe_cal c_is_weight (hr.mono (by decide)) (by rfl) (pa_cons (pv 5) pa_nil)))) pss_never pss_nil)
      (pss_cons (kps_fld (K := K) rfl (pv 0) (pv 1) rfl)
      (pss_cons (kps_fld (K := K) rfl (pv 0) (pv 2) rfl)
      (pss_cons (kps_fld (K := K) rfl (pv 0) (pv 3) rfl)
      (pss_cons (kps_fld (K := K) rfl (pv 0) (pv 4) rfl)
      (pss_one (kps_fld (K := K) rfl (pv 0) (pv 5) rfl))))))))))), ?_⟩
    try dsimp only [cxOf, Cx.nox, Cx.wish, Cx.blk]
    have l0 := ok.l0; have lb := ok.lb; have bm := ok.bm; have w0 := ok.w0; have w1 := ok.w1; have s0 := ok.s0; have s1 := ok.s1
    walk_at "go"
    refine use_is_length ww (by omega) (by omega) ?_
    walk_at "go"
    refine use_is_length ww (by omega) (by omega) ?_
    walk_at "go"
    walk_at "o1"
    with_reducible refine s_next ?_
    with_reducible refine s_mid (fun σ' H' => H' = H ∧ σ' = [some (.ref x), some (.int b), some (.int l), some u, some (.int w), some (.int s)]) ?_ (fun N fin => ?_)
    · rintro σ' H' ⟨rfl, rfl⟩
      walk_at "go"
      refine use_is_weight ww (by omega) (by omega) ?_
      walk_at "go"
      refine use_is_weight ww (by omega) (by omega) ?_
      walk_at "go"
      refine s_sfW ww o_Part.cl n_Part (by decide) (by simp) fun H1 w1 => ?_
      rw [putF_new (by (try simp only [List.nil_append, List.cons_append, List.map_cons, List.map_nil]); decide)] at w1
      walk_at "go"
      refine s_sfW w1 o_Part.cl n_Part (by decide) (by simp) fun H2 w2 => ?_
      rw [putF_new (by (try simp only [List.nil_append, List.cons_append, List.map_cons, List.map_nil]); decide)] at w2
      walk_at "go"
      refine s_sfW w2 o_Part.cl n_Part (by decide) (by simp) fun H3 w3 => ?_
      rw [putF_new (by (try simp only [List.nil_append, List.cons_append, List.map_cons, List.map_nil]); decide)] at w3
      walk_at "go"
      refine s_sfW w3 o_Part.cl n_Part (by decide) (by simp) fun H4 w4 => ?_
      rw [putF_new (by (try simp only [List.nil_append, List.cons_append, List.map_cons, List.map_nil]); decide)] at w4
      walk_at "go"
      refine s_sfW w4 o_Part.cl n_Part (by decide) (by simp) fun H5 w5 => ?_
      rw [putF_new (by (try simp only [List.nil_append, List.cons_append, List.map_cons, List.map_nil]); decide)] at w5
      walk_at "go"
      exact k _ w5
    · rcases ok.gr with rfl | ⟨n, rfl, g1, g2⟩
      · cases hu.non_eq
        walk_at "go"
        exact fin _ _ ⟨rfl, rfl⟩
      · cases hu.int_eq
        walk_at "go"
        refine use_is_length ww (by omega) (by omega) ?_
        walk_at "goo"
        exact fin _ _ ⟨rfl, rfl⟩
abbrev s_Part_size_at : Stmt := inClass (top 15) 1
theorem sc_Part_size_at : FnScope ["self", "price", "top", "bottom", "size"] ["self", "price"] (defScope s_Part_size_at) := ⟨rfl, rfl, rfl, by decide +kernel, rfl, by decide +kernel, by decide +kernel⟩
def sp_Part_size_at (C : Addr) : Sp := fun vs H Q _ => ∃ I M u v b l g w s, ∃ p : Rat, vs = [u, v] ∧ W I H M ∧ Is I u (prt C b l g w s) ∧ Is I v (frq p) ∧ PartOk b l g w s ∧ Sz 7000 p ∧ ∀ r J H', Same I J → W J H' M → Is J r (frq (sizQ b l g w s p)) → Q r H'
theorem use_size_at {C : Addr} {I H : Hp} {M : List (Addr × HO)} {u v : V} {b l w s : Int} {g : D} {p : Rat} {Q : VK} {E : XK} (ww : W I H M) (hu : Is I u (prt C b l g w s)) (hv : Is I v (frq p)) (ok : PartOk b l g w s) (hp : Sz 7000 p) (f : ∀ r J H', Same I J → W J H' M → Is J r (frq (sizQ b l g w s p)) → Q r H') : sp_Part_size_at C (u :: ([v] ++ [])) H Q E := ⟨I, M, u, v, b, l, g, w, s, p, rfl, ww, hu, hv, ok, hp, f⟩

theorem ok_Part_size_at {f : Addr} {fd : FuncData} (F : Fun K "size_at" "Part.size_at" s_Part_size_at f fd) (B : Bn mg) (c_fraction : Cal P w K mg base "fraction" 2 ["top", "bottom"] [] sp_fraction) (c_is_below : Cal P w K mg base "is_below" 1 ["one", "other"] [] sp_is_below) (o_Part : OwnC K C_Part) (n_Part : ∀ f ∈ (["base", "least", "greatest", "grow", "shrink"] : List Str), NoAttr K C_Part f)  : FnOk P w K mg base CX0 3 f fd ["self", "price"] (sp_Part_size_at C_Part) := by
  refine F.ok sc_Part_size_at (fun vs H Q E h => ?_) (fun cdv A outer s H vs Q E hr h => ?_)
  · obtain ⟨I, M, u, v, b, l, g, w, s, p, rfl, ww, hu, hv, ok, hp, k⟩ := h
    rfl
  · obtain ⟨I, M, u, v, b, l, g, w, s, p, rfl, ww, hu, hv, ok, hp, k⟩ := h
    refine ⟨_, (pss_cons (ps_asg (pv 1) (kpg_tup (K := K) rfl rfl (pgs_cons (pg_name (i := 2) sc_Part_size_at.nd rfl (Or.inl rfl)) (pgs_cons (pg_name (i := 3) sc_Part_size_at.nd rfl (Or.inl rfl)) pgs_nil))))
      (pss_cons (ps_if (pt_cmpR op_lt (pv 2) pe_int (nomark _)) (pss_cons (ps_set (i := 4) sc_Part_size_at.nd rfl (Or.inl rfl) (pe_cal c_fraction (hr.mono (by decide)) (by rfl) (pa_cons (pe_op (k_add (K := K) rfl) (pe_op uo_mul (kpe_fld (K := K) rfl (pv 0) rfl) (pv 3)) (pe_op uo_mul (kpe_fld (K := K) rfl (pv 0) rfl) (pv 2))) (pa_cons (pv 3) pa_nil))))
      (pss_cons (ps_if (pt_val (pe_cal c_is_below (hr.mono (by decide)) (by rfl) (pa_cons (pv 4) (pa_cons (pe_tup (pa_cons (kpe_fld (K := K) rfl (pv 0) rfl) (pa_cons pe_int pa_nil))) pa_nil)))) (pss_one (ps_ret (pe_tup (pa_cons (kpe_fld (K := K) rfl (pv 0) rfl) (pa_cons pe_int pa_nil))))) pss_nil)
      (pss_one (ps_ret (pv 4))))) pss_nil)
      (pss_cons (ps_set (i := 4) sc_Part_size_at.nd rfl (Or.inl rfl) (pe_cal c_fraction (hr.mono (by decide)) (by rfl) (pa_cons (pe_op (k_add (K := K) rfl) (pe_op uo_mul (kpe_fld (K := K) rfl (pv 0) rfl) (pv 3)) (pe_op uo_mul (kpe_fld (K := K) rfl (pv 0) rfl) (pv 2))) (pa_cons (pv 3) pa_nil))))
      (pss_cons (ps_if (pw_and (pt_cmp (pc_notN (kpe_fld (K := K) rfl (pv 0) rfl))) (pw_and1 (pt_val (pe_cal c_is_below (hr.mono (by decide)) (by rfl) (pa_cons (pe_tup (pa_cons (kpe_fld (K := K) rfl (pv 0) rfl) (pa_cons pe_int pa_nil))) (pa_cons (pv 4) pa_nil)))))).pt (pss_one (ps_ret (pe_tup (pa_cons (kpe_fld (K := K) rfl (pv 0) rfl) (pa_cons pe_int pa_nil))))) pss_nil)
      (pss_one (ps_ret (pv 4))))))), ?_⟩
    try dsimp only [cxOf, Cx.nox, Cx.wish, Cx.blk]
    have l0 := ok.l0; have lb := ok.lb; have bm := ok.bm; have w0 := ok.w0; have w1 := ok.w1; have s0 := ok.s0; have s1 := ok.s1
    have bB : Bd 40 b := bd12 (by omega) bm
    have bL : Bd 40 l := bd12 l0 (by omega)
    have bW : Bd 10 w := bd3 w0 w1
    have bS : Bd 10 s := bd3 s0 s1
    walk_at "go"
    refine s_gtup2 ww hv fun z1 z2 hz1 hz2 => ?_
    cases hz1.int_eq
    cases hz2.int_eq
    walk_at "go"
    walk_at "fork"
    · rename_i hn
      have hp0 : p < 0 := lt_zero.mpr hn
      have sx : Sz 7041 ((b : Rat) + s * p) := Sz.lin bB (bS.mono (by decide)) hp
      walk_at "go"
      refine s_mul (bB.cm hp.d) ?_
      walk_at "go"
      refine s_mul (bS.cm hp.n) ?_
      walk_at "go"
      refine use_fraction ww (den_ne p) (hp.d.mono (by decide)) fun r J1 H1 e1 ww1 h1 => ?_
      rw [lin_dv] at h1
      have hu1 := hu.mono e1
      walk_at "go"
      refine s_newT ww1 (by walk_at "isa") (by simp) fun q J2 H2 e2 _ ww2 h2 => ?_
      have hu2 := hu1.mono e2
      have e12 := e1.trans e2
      walk_at "go"
      refine ⟨J2, M, _, _, _, _, _, _, rfl, ww2, h1.mono e2, h2, sx.n.mono (by decide), sx.d.mono (by decide), bL.mono (by decide), bd1, ?_⟩
      walk_at "go"
      walk_at "fork"
      · rename_i hl
        rw [Int.mul_one] at hl
        walk_at "go"
        refine s_newT ww2 (by walk_at "isa") (by simp) fun q J3 H3 e3 _ ww3 h3 => ?_
        refine k _ J3 H3 (e12.trans e3) ww3 ?_
        rw [sizQ, if_pos hp0, if_pos (int_lt.mpr hl)]
        exact h3
      · rename_i hl
        rw [Int.mul_one] at hl
        walk_at "go"
        refine k _ J2 H2 e12 ww2 ?_
        rw [sizQ, if_pos hp0, if_neg (fun z => hl (int_lt.mp z))]
        exact h1.mono e2
    rename_i hn
    have hp0 : ¬ p < 0 := fun z => hn (lt_zero.mp z)
    have sx : Sz 7041 ((b : Rat) + w * p) := Sz.lin bB (bW.mono (by decide)) hp
    walk_at "go"
    refine s_mul (bB.cm hp.d) ?_
    walk_at "go"
    refine s_mul (bW.cm hp.n) ?_
    walk_at "go"
    refine use_fraction ww (den_ne p) (hp.d.mono (by decide)) fun r J1 H1 e1 ww1 h1 => ?_
    rw [lin_dv] at h1
    have hu1 := hu.mono e1
    rcases ok.gr with rfl | ⟨n, rfl, g1, g2⟩
    · walk_at "go"
      refine k _ J1 H1 e1 ww1 ?_
      rw [sizQ, if_neg hp0]
      exact h1
    walk_at "go"
    refine s_newT ww1 (by walk_at "isa") (by simp) fun q J2 H2 e2 _ ww2 h2 => ?_
    have hu2 := hu1.mono e2
    have e12 := e1.trans e2
    walk_at "go"
    refine ⟨J2, M, _, _, _, _, _, _, rfl, ww2, h2, h1.mono e2, (bd12 (by omega) g2).mono (by decide), bd1, sx.n.mono (by decide), sx.d.mono (by decide), ?_⟩
    walk_at "go"
    walk_at "fork"
    · rename_i hl
      rw [Int.mul_one] at hl
      walk_at "go"
      refine s_newT ww2 (by walk_at "isa") (by simp) fun q J3 H3 e3 _ ww3 h3 => ?_
      refine k _ J3 H3 (e12.trans e3) ww3 ?_
      rw [sizQ, if_neg hp0, capG, if_pos (lt_int.mpr hl)]
      exact h3
    · rename_i hl
      rw [Int.mul_one] at hl
      walk_at "go"
      refine k _ J2 H2 e12 ww2 ?_
      rw [sizQ, if_neg hp0, capG, if_neg (fun z => hl (lt_int.mp z))]
      exact h1.mono e2
abbrev s__law_bag : Stmt := top 17
theorem sc__law_bag : FnScope ["_law_script", "_law_cell"] ["_law_script"] (defScope s__law_bag) := ⟨rfl, rfl, rfl, by decide +kernel, rfl, by decide +kernel, by decide +kernel⟩
def sp__law_bag (K : PySem.W.Frag) : Sp := fun vs H Q _ => ∃ I M a, ∃ ns : List Int, vs = [.ref a] ∧ W I H M ∧ SqL K H a (ns.map V.int) ∧ ∀ p c o J H', Same I J → W J H' ((p, o) :: M) → Bag J c o → Q (.ref p) H'
theorem use_bag {K : PySem.W.Frag} {H : Hp} {a : Addr} {ns : List Int} {Q : VK} {E : XK} (hS : SqL K H a (ns.map V.int)) (q : ∀ p c o J H', W J H' ((p, o) :: []) → Bag J c o → Q (.ref p) H') : sp__law_bag K ([.ref a] ++ []) H Q E :=
  ⟨_, _, a, ns, rfl, W.zero, hS, fun p c o J H' _ w b => q p c o J H' w b⟩

theorem ok__law_bag {f : Addr} {fd : FuncData} (F : Fun K "_law_bag" "_law_bag" s__law_bag f fd) (B : Bn mg)  : FnOk P w K mg base CX0 1 f fd ["_law_script"] (sp__law_bag K) := by
  refine F.ok sc__law_bag (fun vs H Q E h => ?_) (fun cdv A outer s H vs Q E hr h => ?_)
  · obtain ⟨I, M, a, ns, rfl, w, hS, k⟩ := h
    rfl
  · obtain ⟨I, M, a, ns, rfl, w, hS, k⟩ := h
    refine ⟨_, (pss_one (ps_ret (pe_lst (pa_cons pe_int (pa_cons pe_int (pa_cons pe_int (pa_cons (pe_lc (own := [("_law_cell", 1)]) (by rfl) sc__law_bag.nd (kpi_list (K := K) rfl (pe_slice (k_sl (K := K) rfl) (pv 0) po_none (po_some pe_int))) (blkOk_by (own := [("_law_cell", 1)]) (N := ["_law_script", "_law_cell"]) (sc := defScope s__law_bag) (by decide +kernel)) (fun _ _ _ _ _ => (pg_name (i := 1) sc__law_bag.nd rfl (Or.inl rfl))) (fun _ _ _ _ _ => pts_nil) (fun _ _ _ _ _ => (pe_callB uc_abs (by rfl) B.abs_ (by decide +kernel) (pa_cons (pv 1) pa_nil)))) pa_nil))))))), ?_⟩
    try dsimp only [cxOf, Cx.nox, Cx.wish, Cx.blk]
    walk_at "go"
    obtain ⟨ms, hm⟩ := cut63 ns none (some 63)
    refine s_slK hS fun p np => ?_
    rw [hm]
    have w1 := w.newI (o := .lst (ms.map V.int)) np
    have s1 : Same I (upd I p (.lst (ms.map V.int))) := w.same np
    refine s_iL' w1 (.lst upd_same (IsA.ints ms)) fun a' vs' ea ha hA => ?_
    cases ea
    rw [upd_same] at ha
    cases ha
    intro D nD
    have w2 := w1.newM (o := .lst []) nD
    refine lc_it (walk_list (xs := ms.map V.int)) (fun i H' => ∃ acc : List Int, W (upd I p (.lst (ms.map V.int))) H' ((D, .lst (acc.map V.int)) :: M) ∧ acc.length = i ∧ ∀ n ∈ acc, 0 ≤ n) ⟨[], w2, rfl, fun _ h => nomatch h⟩ (fun i H' _ ⟨acc, w3, _⟩ => .inl (.inl (w3.imm _ _ upd_same))) ?_ ?_
    · rintro i x H3 H4 hi ⟨acc, w3, hl, hp⟩ ⟨rfl, e⟩
      obtain ⟨z, rfl⟩ : ∃ z, x = V.int z := by
        rw [List.getElem?_map] at e
        cases q : ms[i]? with
        | none => rw [q] at e; cases e
        | some z => rw [q] at e; exact ⟨z, (Option.some.inj e).symm⟩
      refine s_gname ⟨rfl, ?_⟩
      walk_at "go"
      have hlen : acc.length < 16777216 := by
        rw [hl]
        have := (List.getElem?_eq_some_iff.mp e).1
        have h5 : (ms.map V.int).length ≤ 64 := by
          rw [← hm]
          unfold cutV
          rw [List.length_take]
          have : HT.sIx (ns.map V.int).length (ns.map V.int).length (some 63) ≤ 63 := by
            show min (63 : Int).toNat _ ≤ 63
            exact Nat.min_le_left _ _
          omega
        omega
      refine ⟨_, w3.at0, (by rw [List.length_map]; exact Nat.lt_of_lt_of_le hlen (by decide)), acc ++ [if z < 0 then -z else z], ?_, by rw [List.length_append, hl]; rfl, fun n hn => ?_⟩
      · have q := w3.put0 (o' := .lst (acc.map V.int ++ [V.int (if z < 0 then -z else z)]))
        rw [List.map_append]
        exact q
      · rcases List.mem_append.mp hn with h | h
        · exact hp n h
        · rw [List.mem_singleton.mp h]
          split <;> omega
    · rintro H3 ⟨acc, w3, _, hp⟩
      obtain ⟨J, s2, w4, h4⟩ := w3.done0 (IsA.ints acc)
      walk_at "go"
      refine s_newM w4 (by simp) fun q H5 w5 => ?_
      obtain ⟨_, vs, e, h6, a6⟩ := h4.lst_ex
      cases e
      exact k q D _ J H5 (s1.trans s2) w5 ⟨⟨acc, by rw [h6, a6.ints_eq], hp⟩, 0, 1234567891, 0, rfl, by decide, by decide, by decide, by decide⟩
abbrev s__law_take : Stmt := top 18
theorem sc__law_take : FnScope ["_law_bag_here", "_law_many", "_law_more", "_law_cell", "_law_value", "_law_first", "_law_second"] ["_law_bag_here", "_law_many"] (defScope s__law_take) := ⟨rfl, rfl, rfl, by decide +kernel, rfl, by decide +kernel, by decide +kernel⟩
def sp__law_take : Sp := fun vs H Q _ => ∃ I M b c o, ∃ m : Int, vs = [.ref b, .int m] ∧ W I H ((b, o) :: M) ∧ Bag I c o ∧ 0 < m ∧ Bd 4000 m ∧ ∀ v o' H', 0 ≤ v → v < m → Bag I c o' → W I H' ((b, o') :: M) → Q (.int v) H'
theorem use_take {I H : Hp} {M : List (Addr × HO)} {b c : Addr} {o : HO} {m : Int} {Q : VK} {E : XK} (w : W I H ((b, o) :: M)) (hb : Bag I c o) (h0 : 0 < m) (h1 : m < 10 ^ 200) (q : ∀ v o' H', 0 ≤ v → v < m → Bag I c o' → W I H' ((b, o') :: M) → Q (.int v) H') : sp__law_take ([.ref b, .int m] ++ []) H Q E :=
  ⟨I, M, b, c, o, m, rfl, w, hb, h0, Bd.of (10 ^ 200) (by omega) (by decide +kernel), q⟩
theorem take_end {I : Hp} {M : List (Addr × HO)} {b c : Addr} {ns : List Int} {x y z m : Int} {Q : VK} (cs : I c = some (.lst (ns.map V.int))) (nn : ∀ n ∈ ns, 0 ≤ n) (x0 : 0 ≤ x) (y0 : 0 ≤ y) (y1 : y < 2147483647) (z0 : 0 ≤ z)
    (k : ∀ v o' H', 0 ≤ v → v < m → Bag I c o' → W I H' ((b, o') :: M) → Q (.int v) H') : ∀ v H', 0 ≤ v → v < m → W I H' ((b, .lst [.int x, .int y, .int z, .ref c]) :: M) → Q (.int v) H' := fun v H' h1 h2 w => k v _ H' h1 h2 ⟨⟨ns, cs, nn⟩, x, y, z, rfl, x0, y0, y1, z0⟩ w

theorem ok__law_take {f : Addr} {fd : FuncData} (F : Fun K "_law_take" "_law_take" s__law_take f fd) (B : Bn mg)  : FnOk P w K mg base CX0 1 f fd ["_law_bag_here", "_law_many"] sp__law_take := by
  refine F.ok sc__law_take (fun vs H Q E h => ?_) (fun cdv A outer s H vs Q E hr h => ?_)
  · obtain ⟨I, M, b, c, o, m, rfl, w, ⟨⟨ns, cs, nn⟩, x, y, z, rfl, x0, y0, y1, z0⟩, h0, h1, k⟩ := h
    rfl
  · obtain ⟨I, M, b, c, o, m, rfl, w, ⟨⟨ns, cs, nn⟩, x, y, z, rfl, x0, y0, y1, z0⟩, h0, h1, k⟩ := h
    refine ⟨_, (pss_cons (ps_if (pt_cmpR (k_eq (K := K) rfl hr.units) (pe_ix (k_ix (K := K) rfl) (pv 0) pe_int (fun _ _ => rfl)) pe_int (nomark _)) (pss_cons (ps_set (i := 2) sc__law_take.nd rfl (Or.inl rfl) pe_int)
      (pss_cons (ps_if (pt_cmpR op_lt (pe_ix (k_ix (K := K) rfl) (pv 0) pe_int (fun _ _ => rfl)) (pe_callB (k_len (K := K) rfl) (by rfl) B.len_ (by decide +kernel) (pa_cons (pe_ix (k_ix (K := K) rfl) (pv 0) pe_int (fun _ _ => rfl)) pa_nil)) (nomark _)) (pss_cons (ps_set (i := 3) sc__law_take.nd rfl (Or.inl rfl) (pe_ix (k_ix (K := K) rfl) (pe_ix (k_ix (K := K) rfl) (pv 0) pe_int (fun _ _ => rfl)) (pe_ix (k_ix (K := K) rfl) (pv 0) pe_int (fun _ _ => rfl)) (fun _ _ => rfl)))
      (pss_cons (ps_augL (pv 0) pe_int pe_int)
      (pss_cons (ps_if (pt_cmpR op_ge (pv 3) pe_int (nomark _)) (pss_one (ps_asg (pv 3) (pg_sub (pv 0) pe_int set_list))) pss_nil)
      (pss_one (ps_set (i := 2) sc__law_take.nd rfl (Or.inl rfl) (pe_op (k_add (K := K) rfl) (pe_op op_mod (pv 3) pe_int) pe_int)))))) pss_nil)
      (pss_one (ps_asg (pe_op op_mod (pe_op (k_add (K := K) rfl) (pe_op uo_mul (pe_ix (k_ix (K := K) rfl) (pv 0) pe_int (fun _ _ => rfl)) pe_int) (pv 2)) pe_int) (pg_sub (pv 0) pe_int set_list))))) pss_nil)
      (pss_cons (ps_if (pt_cmpR op_gt (pe_ix (k_ix (K := K) rfl) (pv 0) pe_int (fun _ _ => rfl)) pe_int (nomark _)) (pss_cons (ps_set (i := 4) sc__law_take.nd rfl (Or.inl rfl) (pe_op op_mod (pe_ix (k_ix (K := K) rfl) (pv 0) pe_int (fun _ _ => rfl)) (pv 1)))
      (pss_cons (ps_asg (pe_op op_fdivW (pe_ix (k_ix (K := K) rfl) (pv 0) pe_int (fun _ _ => rfl)) (pv 1)) (pg_sub (pv 0) pe_int set_list))
      (pss_one (ps_ret (pv 4))))) pss_nil)
      (pss_cons (ps_set (i := 5) sc__law_take.nd rfl (Or.inl rfl) (pe_op op_mod (pe_op uo_mul (pe_ix (k_ix (K := K) rfl) (pv 0) pe_int (fun _ _ => rfl)) pe_int) pe_int))
      (pss_cons (ps_set (i := 6) sc__law_take.nd rfl (Or.inl rfl) (pe_op op_mod (pe_op uo_mul (pv 5) pe_int) pe_int))
      (pss_cons (ps_if (pt_cmpR op_gt (pv 1) pe_int (nomark _)) (pss_one (ps_ret (pe_op op_mod (pe_op (k_add (K := K) rfl) (pe_op uo_mul (pv 6) pe_int) (pv 5)) (pv 1)))) pss_nil)
      (pss_one (ps_ret (pe_op op_mod (pe_op op_fdivW (pv 6) pe_int) (pv 1))))))))), ?_⟩
    try dsimp only [cxOf, Cx.nox, Cx.wish, Cx.blk]
    have hc : Is I (.ref c) (.lst (ns.map D.int)) := .lst cs (IsA.ints ns)
    with_reducible refine s_mid (fun σ' H' => ∃ x y z v2 v3, σ' = [some (.ref b), some (.int m), v2, v3, none, none, none] ∧ 0 ≤ x ∧ 0 ≤ y ∧ y < 2147483647 ∧ 0 ≤ z ∧ W I H' ((b, .lst [.int x, .int y, .int z, .ref c]) :: M)) ?_ (fun N1 fin => ?_)
    · clear x0 y0 y1 z0 w
      rintro σ' H' ⟨x, y, z, v2, v3, rfl, x0, y0, y1, z0, w⟩
      walk_at "go"
      walk_at "fork"
      · walk_at "go"
        refine s_I (show (0 : Int) < m from h0) ?_
        walk_at "go"
        refine s_I (h1.cd h0) ?_
        walk_at "go"
        refine take_end (x := x / m) (y := y) (z := z) cs nn (Int.ediv_nonneg x0 (by omega)) y0 y1 z0 k _ _ (Int.emod_nonneg _ (by omega)) (Int.emod_lt_of_pos _ h0) (by assumption)
      · walk_at "go"
        walk_at "goo"
        walk_at "fork"
        · walk_at "goo"
          exact take_end (x := x) (y := y) (z := z) cs nn x0 y0 y1 z0 k _ _ (Int.emod_nonneg _ (by omega)) (Int.emod_lt_of_pos _ h0) w
        · walk_at "goo"
          exact take_end (x := x) (y := y) (z := z) cs nn x0 y0 y1 z0 k _ _ (Int.emod_nonneg _ (by omega)) (Int.emod_lt_of_pos _ h0) w
    · walk_at "go"
      walk_at "fork"
      · walk_at "s1"; walk_at "s1"; walk_at "e1"; walk_at "s1"
        with_reducible refine s_mid (fun σ' H' => ∃ x z v3, ∃ r : Int, σ' = [some (.ref b), some (.int m), some (.int r), v3, none, none, none] ∧ 0 ≤ r ∧ r ≤ 2147483647 ∧ 0 ≤ x ∧ 0 ≤ z ∧ W I H' ((b, .lst [.int x, .int y, .int z, .ref c]) :: M)) ?_ (fun N2 fin2 => ?_)
        · rintro σ' H' ⟨x', z', v3, r, rfl, r0, r1, x0', z0', w'⟩
          walk_at "goo"
          exact fin _ _ ⟨x', (y * 48271 + r) % 2147483647, z', _, v3, rfl, x0', Int.emod_nonneg _ (by decide), Int.emod_lt_of_pos _ (by decide), z0', by assumption⟩
        · walk_at "go"
          walk_at "fork"
          · rename_i hz
            rw [List.length_map] at hz
            obtain ⟨n, hn, e⟩ := at_ints z0 hz
            have hn0 := nn n hn
            walk_at "go"
            refine s_ixL w hc e ?_
            walk_at "inv"
            walk_at "go"
            walk_at "fork"
            · walk_at "goo"
              exact fin2 _ _ ⟨n, z + 1, _, _, rfl, by omega, by omega, by omega, by omega, by assumption⟩
            · walk_at "goo"
              exact fin2 _ _ ⟨x, z + 1, _, _, rfl, by omega, by omega, by omega, by omega, by assumption⟩
          · walk_at "go"
            exact fin2 _ _ ⟨x, z, none, 12345, rfl, by decide, by decide, x0, z0, w⟩
      · walk_at "go"
        exact fin _ _ ⟨x, y, z, none, none, rfl, x0, y0, y1, z0, w⟩
abbrev s__law_whole : Stmt := top 19
theorem sc__law_whole : FnScope ["_law_found"] ["_law_found"] (defScope s__law_whole) := ⟨rfl, rfl, rfl, by decide +kernel, rfl, by decide +kernel, by decide +kernel⟩
def sp__law_whole : Sp := fun vs H Q _ => ∃ I M v d a, vs = [v] ∧ W I H M ∧ Is I v d ∧ d.tn = some a ∧ Q (.bl d.whole) H
theorem use_wholeI {I H : Hp} {M : List (Addr × HO)} {n : Int} {Q : VK} {E : XK} (w : W I H M) (q : Q (.bl true) H) : sp__law_whole ([.int n] ++ []) H Q E := ⟨I, M, _, _, _, rfl, w, .int n, rfl, q⟩
theorem use_wholeN {I H : Hp} {M : List (Addr × HO)} {v : V} {d : D} {a : String} {Q : VK} {E : XK} (w : W I H M) (h : Is I v d) (ha : d.tn = some a) (hd : d.whole = false) (q : Q (.bl false) H) : sp__law_whole ([v] ++ []) H Q E := ⟨I, M, _, _, _, rfl, w, h, ha, by rw [hd]; exact q⟩

theorem ok__law_whole {f : Addr} {fd : FuncData} (F : Fun K "_law_whole" "_law_whole" s__law_whole f fd) (B : Bn mg)  : FnOk P w K mg base CX0 1 f fd ["_law_found"] sp__law_whole := by
  refine F.ok sc__law_whole (fun vs H Q E h => ?_) (fun cdv A outer s H vs Q E hr h => ?_)
  · obtain ⟨I, M, v, d, a, rfl, w, hv, ha, k⟩ := h
    rfl
  · obtain ⟨I, M, v, d, a, rfl, w, hv, ha, k⟩ := h
    refine ⟨_, (pss_one (ps_ret (pe_and (pe_callB (k_isi (K := K) rfl) (by rfl) B.isinstance_ (by decide +kernel) (pa_cons (pv 0) (pa_cons (pe_bltn (v := .ty "int") (by rfl) B.int_ (by decide +kernel) rfl) pa_nil))) (pe_one (pe_not (pe_callB (k_isi (K := K) rfl) (by rfl) B.isinstance_ (by decide +kernel) (pa_cons (pv 0) (pa_cons (pe_bltn (v := .ty "bool") (by rfl) B.bool_ (by decide +kernel) rfl) pa_nil)))))))), ?_⟩
    try dsimp only [cxOf, Cx.nox, Cx.wish, Cx.blk]
    cases d with
    | int n => walk_at "go"; exact k
    | bl n => walk_at "go"; exact k
    | non => walk_at "go"; exact k
    | str n => walk_at "go"; exact k
    | tup n => walk_at "go"; exact k
    | lst n => walk_at "go"; exact k
    | ref n => cases ha
    | ty n => cases ha
    | obj n m => cases ha
    | dict => walk_at "go"; exact k
abbrev s__law_divisor : Stmt := top 20
theorem sc__law_divisor : FnScope ["_law_one", "_law_other"] ["_law_one", "_law_other"] (defScope s__law_divisor) := ⟨rfl, rfl, rfl, by decide +kernel, rfl, by decide +kernel, by decide +kernel⟩
def sp__law_divisor : Sp := fun vs H Q _ => ∃ a b : Int, vs = [.int a, .int b] ∧ 0 ≤ a ∧ 0 ≤ b ∧ Q (.int (Int.gcd a b)) H

theorem ok__law_divisor {f : Addr} {fd : FuncData} (F : Fun K "_law_divisor" "_law_divisor" s__law_divisor f fd) (B : Bn mg)  : FnOk P w K mg base CX0 1 f fd ["_law_one", "_law_other"] sp__law_divisor := by
  refine F.ok sc__law_divisor (fun vs H Q E h => ?_) (fun cdv A outer s H vs Q E hr h => ?_)
  · obtain ⟨a, b, rfl, ha, hb, k⟩ := h
    rfl
  · obtain ⟨a, b, rfl, ha, hb, k⟩ := h
    refine ⟨_, (pss_cons (ps_while PassesOwn.never (pt_cmpR (k_ne (K := K) rfl hr.units) (pv 1) pe_int (nomark _)) (pss_one (ps_par (i := 0) (j := 1) rfl sc__law_divisor.nd rfl rfl (by decide) rfl rfl (pa_cons (pv 1) (pa_cons (pe_op op_mod (pv 0) (pv 1)) pa_nil)) rfl)))
      (pss_one (ps_ret (pv 0)))), ?_⟩
    try dsimp only [cxOf, Cx.nox, Cx.wish, Cx.blk]
    with_reducible refine s_seq ?_
    refine s_while (fun σ' H' => H' = H ∧ ∃ a' b' : Int, σ' = [some (.int a'), some (.int b')] ∧ 0 ≤ a' ∧ 0 ≤ b' ∧ Int.gcd a' b' = Int.gcd a b) (fun σ => match σ with | [_, some (.int b)] => b.toNat | _ => 0) ⟨rfl, a, b, rfl, ha, hb, rfl⟩ ?_
    rintro σ' H' ⟨rfl, a', b', rfl, ha', hb', e⟩
    walk_at "go"
    walk_at "fork"
    · walk_at "go"
      rename_i e0
      subst e0
      rw [← e, gcd_end ha'] at k
      exact k
    · rename_i e0
      refine s_wN ?_
      walk_at "goo"
      exact ⟨⟨rfl, b', a' % b', rfl, hb', Int.emod_nonneg _ e0, by rw [gcd_step ha' hb', e]⟩, by
        have := Int.emod_lt_of_pos a' (show 0 < b' by omega)
        have := Int.emod_nonneg a' e0
        show (a' % b').toNat < b'.toNat
        omega⟩
abbrev s__law_lowest : Stmt := top 21
theorem sc__law_lowest : FnScope ["_law_top", "_law_bottom", "_law_by"] ["_law_top", "_law_bottom"] (defScope s__law_lowest) := ⟨rfl, rfl, rfl, by decide +kernel, rfl, by decide +kernel, by decide +kernel⟩
def sp__law_lowest : Sp := fun vs H Q _ => ∃ I M, ∃ t b : Int, vs = [.int t, .int b] ∧ W I H M ∧ b ≠ 0 ∧ Bd 8000 b ∧ ∀ r J H', Same I J → W J H' M → Is J r (frq (Rat.divInt t b)) → Q r H'
theorem use_lowest {I H : Hp} {M : List (Addr × HO)} {t b : Int} {Q : VK} {E : XK} (w : W I H M) (hb : b ≠ 0) (hB : Bd 8000 b) (q : ∀ r J H', Same I J → W J H' M → Is J r (frq (Rat.divInt t b)) → Q r H') : sp__law_lowest ([.int t, .int b] ++ []) H Q E := ⟨I, M, t, b, rfl, w, hb, hB, q⟩

theorem ok__law_lowest {f : Addr} {fd : FuncData} (F : Fun K "_law_lowest" "_law_lowest" s__law_lowest f fd) (B : Bn mg) (c__law_divisor : Cal P w K mg base "_law_divisor" 1 ["_law_one", "_law_other"] [] sp__law_divisor)  : FnOk P w K mg base CX0 2 f fd ["_law_top", "_law_bottom"] sp__law_lowest := by
  refine F.ok sc__law_lowest (fun vs H Q E h => ?_) (fun cdv A outer s H vs Q E hr h => ?_)
  · obtain ⟨I, M, t, b, rfl, w, hb, hB, k⟩ := h
    rfl
  · obtain ⟨I, M, t, b, rfl, w, hb, hB, k⟩ := h
    refine ⟨_, (pss_cons (ps_if (pt_cmpR op_lt (pv 1) pe_int (nomark _)) (pss_one (ps_par (i := 0) (j := 1) rfl sc__law_lowest.nd rfl rfl (by decide) rfl rfl (pa_cons (pe_un un_neg (pv 0)) (pa_cons (pe_un un_neg (pv 1)) pa_nil)) rfl)) pss_nil)
      (pss_cons (ps_set (i := 2) sc__law_lowest.nd rfl (Or.inl rfl) (pe_cal c__law_divisor (hr.mono (by decide)) (by rfl) (pa_cons (pe_callB uc_abs (by rfl) B.abs_ (by decide +kernel) (pa_cons (pv 0) pa_nil)) (pa_cons (pv 1) pa_nil))))
      (pss_one (ps_ret (pe_tup (pa_cons (pe_op op_fdivW (pv 0) (pv 2)) (pa_cons (pe_op op_fdivW (pv 1) (pv 2)) pa_nil))))))), ?_⟩
    try dsimp only [cxOf, Cx.nox, Cx.wish, Cx.blk]
    have hg := gcd_pos' (t := t) hb
    have hgb : Bd 8000 (Int.gcd t b : Int) := hB.le (gcd_le_right' hb)
    with_reducible refine s_mid (fun σ' H' => H' = H ∧ σ' = [some (.int (if b < 0 then -t else t)), some (.int (if b < 0 then -b else b)), none]) ?_ (fun N fin => ?_)
    · rintro σ' H' ⟨rfl, rfl⟩
      walk_at "go"
      refine ⟨_, _, rfl, (by split <;> split <;> omega), (by split <;> omega), ?_⟩
      have e : Int.gcd (if (if b < 0 then -t else t) < 0 then -(if b < 0 then -t else t) else (if b < 0 then -t else t)) (if b < 0 then -b else b) = Int.gcd t b := by
        by_cases h1 : b < 0
        · rw [if_pos h1, if_pos h1]
          have := gcd_abs (-t) (-b)
          rw [if_neg (show ¬ -b < 0 by omega)] at this
          rw [this, Int.gcd_neg, Int.neg_gcd]
        · rw [if_neg h1, if_neg h1]
          have := gcd_abs t b
          rw [if_neg h1] at this
          exact this
      rw [e]
      walk_at "go"
      refine s_I (hgb.cd hg) ?_
      walk_at "go"
      refine s_I (hgb.cd hg) ?_
      rw [low_num hb, low_den hb]
      walk_at "go"
      refine s_newT w (by walk_at "isa") (by simp) fun p J H' s1 _ w1 h1 => ?_
      exact k _ J H' s1 w1 h1
    · walk_at "go"
      walk_at "fork"
      · rename_i hlt
        walk_at "go"
        exact fin _ _ ⟨rfl, by rw [if_pos hlt, if_pos hlt]; rfl⟩
      · rename_i hlt
        walk_at "go"
        exact fin _ _ ⟨rfl, by rw [if_neg hlt, if_neg hlt]; rfl⟩
abbrev s__law_alike : Stmt := top 22
theorem sc__law_alike : FnScope ["_law_found", "_law_due"] ["_law_found", "_law_due"] (defScope s__law_alike) := ⟨rfl, rfl, rfl, by decide +kernel, rfl, by decide +kernel, by decide +kernel⟩
def sp__law_alike : Sp := fun vs H Q _ => ∃ I M u v a b, vs = [u, v] ∧ W I H M ∧ Is I u (fr a b) ∧ Is I v (fr a b) ∧ Q (.bl true) H
theorem use_alike {I H : Hp} {M : List (Addr × HO)} {u v : V} {a b : Int} {Q : VK} {E : XK} (w : W I H M) (hu : Is I u (fr a b)) (hv : Is I v (fr a b)) (q : Q (.bl true) H) : sp__law_alike ([u, v] ++ []) H Q E := ⟨I, M, u, v, a, b, rfl, w, hu, hv, q⟩

theorem ok__law_alike {f : Addr} {fd : FuncData} (F : Fun K "_law_alike" "_law_alike" s__law_alike f fd) (B : Bn mg) (c__law_whole : Cal P w K mg base "_law_whole" 1 ["_law_found"] [] sp__law_whole)  : FnOk P w K mg base CX0 2 f fd ["_law_found", "_law_due"] sp__law_alike := by
  refine F.ok sc__law_alike (fun vs H Q E h => ?_) (fun cdv A outer s H vs Q E hr h => ?_)
  · obtain ⟨I, M, u, v, a, b, rfl, w, hu, hv, k⟩ := h
    rfl
  · obtain ⟨I, M, u, v, a, b, rfl, w, hu, hv, k⟩ := h
    refine ⟨_, (pss_cons (ps_if (pw_or (pt_not (pt_val (pe_callB (k_isi (K := K) rfl) (by rfl) B.isinstance_ (by decide +kernel) (pa_cons (pv 0) (pa_cons (pe_bltn (v := .ty "tuple") (by rfl) B.tuple_ (by decide +kernel) rfl) pa_nil))))) (pw_or1 (pt_cmpR (k_ne (K := K) rfl hr.units) (pe_callB (k_len (K := K) rfl) (by rfl) B.len_ (by decide +kernel) (pa_cons (pv 0) pa_nil)) pe_int (nomark _)))).pt (pss_one (ps_ret pe_bl)) pss_nil)
      (pss_one (ps_ret (pe_and (pe_cal c__law_whole (hr.mono (by decide)) (by rfl) (pa_cons (pe_ix (k_ix (K := K) rfl) (pv 0) pe_int (fun _ _ => rfl)) pa_nil)) (pe_and (pe_cal c__law_whole (hr.mono (by decide)) (by rfl) (pa_cons (pe_ix (k_ix (K := K) rfl) (pv 0) pe_int (fun _ _ => rfl)) pa_nil)) (pe_one (pe_cmpR (k_eq (K := K) rfl hr.units) (pv 0) (pv 1) (nomark _)))))))), ?_⟩
    try dsimp only [cxOf, Cx.nox, Cx.wish, Cx.blk]
    walk_at "go"
    refine use_wholeI w ?_
    walk_at "go"
    refine use_wholeI w ?_
    walk_at "go"
    refine s_eqT w hu hv NB.fr ?_
    exact k
abbrev s__law_length : Stmt := top 23
theorem sc__law_length : FnScope ["_law_bag_here", "_law_most", "_law_way"] ["_law_bag_here", "_law_most"] (defScope s__law_length) := ⟨rfl, rfl, rfl, by decide +kernel, rfl, by decide +kernel, by decide +kernel⟩
def sp__law_length : Sp := fun vs H Q _ => ∃ I M b c o, ∃ m : Int, vs = [.ref b, .int m] ∧ W I H ((b, o) :: M) ∧ Bag I c o ∧ 0 ≤ m ∧ m ≤ 1000000000000 ∧ ∀ v o' H', 0 ≤ v → v ≤ m → Bag I c o' → W I H' ((b, o') :: M) → Q (.int v) H'
theorem use_length {I H : Hp} {M : List (Addr × HO)} {b c : Addr} {o : HO} {m : Int} {Q : VK} {E : XK} (w : W I H ((b, o) :: M)) (hb : Bag I c o) (h0 : 0 ≤ m) (h1 : m ≤ 1000000000000) (q : ∀ v o' H', 0 ≤ v → v ≤ m → Bag I c o' → W I H' ((b, o') :: M) → Q (.int v) H') : sp__law_length ([.ref b, .int m] ++ []) H Q E :=
  ⟨I, M, b, c, o, m, rfl, w, hb, h0, h1, q⟩

theorem ok__law_length {f : Addr} {fd : FuncData} (F : Fun K "_law_length" "_law_length" s__law_length f fd) (B : Bn mg) (c__law_take : Cal P w K mg base "_law_take" 1 ["_law_bag_here", "_law_many"] [] sp__law_take)  : FnOk P w K mg base CX0 2 f fd ["_law_bag_here", "_law_most"] sp__law_length := by
  refine F.ok sc__law_length (fun vs H Q E h => ?_) (fun cdv A outer s H vs Q E hr h => ?_)
  · obtain ⟨I, M, b, c, o, m, rfl, w, hb, h0, h1, k⟩ := h
    rfl
  · obtain ⟨I, M, b, c, o, m, rfl, w, hb, h0, h1, k⟩ := h
    refine ⟨_, (pss_cons (ps_set (i := 2) sc__law_length.nd rfl (Or.inl rfl) (pe_cal c__law_take (hr.mono (by decide)) (by rfl) (pa_cons (pv 0) (pa_cons pe_int pa_nil))))
      (pss_cons (ps_if (pt_cmpR (k_eq (K := K) rfl hr.units) (pv 2) pe_int (nomark _)) (pss_one (ps_ret (pe_cal c__law_take (hr.mono (by decide)) (by rfl) (pa_cons (pv 0) (pa_cons (pe_op (k_add (K := K) rfl) (pe_callB (k_min (K := K) rfl rfl) (by rfl) B.min_ (by decide +kernel) (pa_cons (pv 1) (pa_cons pe_int pa_nil))) pe_int) pa_nil))))) pss_nil)
      (pss_cons (ps_if (pt_cmpR (k_eq (K := K) rfl hr.units) (pv 2) pe_int (nomark _)) (pss_one (ps_ret (pe_cal c__law_take (hr.mono (by decide)) (by rfl) (pa_cons (pv 0) (pa_cons (pe_op (k_add (K := K) rfl) (pe_callB (k_min (K := K) rfl rfl) (by rfl) B.min_ (by decide +kernel) (pa_cons (pv 1) (pa_cons pe_int pa_nil))) pe_int) pa_nil))))) pss_nil)
      (pss_cons (ps_if (pt_cmpR (k_eq (K := K) rfl hr.units) (pv 2) pe_int (nomark _)) (pss_one (ps_ret (pe_op op_sub (pv 1) (pe_cal c__law_take (hr.mono (by decide)) (by rfl) (pa_cons (pv 0) (pa_cons (pe_op (k_add (K := K) rfl) (pe_callB (k_min (K := K) rfl rfl) (by rfl) B.min_ (by decide +kernel) (pa_cons (pv 1) (pa_cons pe_int pa_nil))) pe_int) pa_nil)))))) pss_nil)
      (pss_one (ps_ret (pe_cal c__law_take (hr.mono (by decide)) (by rfl) (pa_cons (pv 0) (pa_cons (pe_op (k_add (K := K) rfl) (pv 1) pe_int) pa_nil))))))))), ?_⟩
    try dsimp only [cxOf, Cx.nox, Cx.wish, Cx.blk]
    walk_at "go"
    refine use_take w hb (by omega) (by omega) fun v o1 H1 v0 v1 hb1 w1 => ?_
    walk_at "go"
    walk_at "fork"
    · walk_at "go"
      refine use_take w1 hb1 (by split <;> omega) (by split <;> omega) fun u o2 H2 u0 u1 hb2 w2 => ?_
      exact k u o2 H2 u0 (by split at u1 <;> omega) hb2 w2
    walk_at "go"
    walk_at "fork"
    · walk_at "go"
      refine use_take w1 hb1 (by split <;> omega) (by split <;> omega) fun u o2 H2 u0 u1 hb2 w2 => ?_
      exact k u o2 H2 u0 (by split at u1 <;> omega) hb2 w2
    walk_at "go"
    walk_at "fork"
    · walk_at "go"
      refine use_take w1 hb1 (by split <;> omega) (by split <;> omega) fun u o2 H2 u0 u1 hb2 w2 => ?_
      walk_at "go"
      exact k _ o2 H2 (by split at u1 <;> omega) (by omega) hb2 w2
    walk_at "go"
    refine use_take w1 hb1 (by omega) (by omega) fun u o2 H2 u0 u1 hb2 w2 => ?_
    exact k u o2 H2 u0 (by omega) hb2 w2
abbrev s__law_weight : Stmt := top 24
theorem sc__law_weight : FnScope ["_law_bag_here", "_law_way"] ["_law_bag_here"] (defScope s__law_weight) := ⟨rfl, rfl, rfl, by decide +kernel, rfl, by decide +kernel, by decide +kernel⟩
def sp__law_weight : Sp := fun vs H Q _ => ∃ I M b c o, vs = [.ref b] ∧ W I H ((b, o) :: M) ∧ Bag I c o ∧ ∀ v o' H', 0 ≤ v → v ≤ 1000 → Bag I c o' → W I H' ((b, o') :: M) → Q (.int v) H'
theorem use_weight {I H : Hp} {M : List (Addr × HO)} {b c : Addr} {o : HO} {Q : VK} {E : XK} (w : W I H ((b, o) :: M)) (hb : Bag I c o) (q : ∀ v o' H', 0 ≤ v → v ≤ 1000 → Bag I c o' → W I H' ((b, o') :: M) → Q (.int v) H') : sp__law_weight ([.ref b] ++ []) H Q E :=
  ⟨I, M, b, c, o, rfl, w, hb, q⟩

theorem ok__law_weight {f : Addr} {fd : FuncData} (F : Fun K "_law_weight" "_law_weight" s__law_weight f fd) (B : Bn mg) (c__law_take : Cal P w K mg base "_law_take" 1 ["_law_bag_here", "_law_many"] [] sp__law_take) (c__law_length : Cal P w K mg base "_law_length" 2 ["_law_bag_here", "_law_most"] [] sp__law_length)  : FnOk P w K mg base CX0 3 f fd ["_law_bag_here"] sp__law_weight := by
  refine F.ok sc__law_weight (fun vs H Q E h => ?_) (fun cdv A outer s H vs Q E hr h => ?_)
  · obtain ⟨I, M, b, c, o, rfl, w, hb, k⟩ := h
    rfl
  · obtain ⟨I, M, b, c, o, rfl, w, hb, k⟩ := h
    refine ⟨_, (pss_cons (ps_set (i := 1) sc__law_weight.nd rfl (Or.inl rfl) (pe_cal c__law_take (hr.mono (by decide)) (by rfl) (pa_cons (pv 0) (pa_cons pe_int pa_nil))))
      (pss_cons (ps_if (pt_cmpR op_lt (pv 1) pe_int (nomark _)) (pss_one (ps_ret (pv 1))) pss_nil)
      (pss_cons (ps_if (pt_cmpR (k_eq (K := K) rfl hr.units) (pv 1) pe_int (nomark _)) (pss_one (ps_ret (pe_cal c__law_take (hr.mono (by decide)) (by rfl) (pa_cons (pv 0) (pa_cons pe_int pa_nil))))) pss_nil)
      (pss_one (ps_ret (pe_op op_sub pe_int (pe_cal c__law_length (hr.mono (by decide)) (by rfl) (pa_cons (pv 0) (pa_cons pe_int pa_nil))))))))), ?_⟩
    try dsimp only [cxOf, Cx.nox, Cx.wish, Cx.blk]
    walk_at "go"
    refine use_take w hb (by omega) (by omega) fun v o1 H1 v0 v1 hb1 w1 => ?_
    walk_at "go"
    walk_at "fork"
    · walk_at "go"
      exact k v o1 H1 v0 (by omega) hb1 w1
    walk_at "go"
    walk_at "fork"
    · walk_at "go"
      refine use_take w1 hb1 (by omega) (by omega) fun u o2 H2 u0 u1 hb2 w2 => ?_
      exact k u o2 H2 u0 (by omega) hb2 w2
    walk_at "go"
    refine use_length w1 hb1 (by omega) (by omega) fun u o2 H2 u0 u1 hb2 w2 => ?_
    walk_at "go"
    exact k _ o2 H2 (by omega) (by omega) hb2 w2
abbrev s__law_part : Stmt := top 25
theorem sc__law_part : FnScope ["_law_bag_here", "_law_start", "_law_low", "_law_high", "_law_way"] ["_law_bag_here"] (defScope s__law_part) := ⟨rfl, rfl, rfl, by decide +kernel, rfl, by decide +kernel, by decide +kernel⟩
def sp__law_part : Sp := fun vs H Q _ => ∃ I M b c o, vs = [.ref b] ∧ W I H ((b, o) :: M) ∧ Bag I c o ∧ ∀ r J o' H' a l g w s, Same I J → PartOk a l g w s → Bag J c o' → W J H' ((b, o') :: M) → Is J r (rowD a l g w s) → Q r H'
theorem use_part {I H : Hp} {M : List (Addr × HO)} {b c : Addr} {o : HO} {Q : VK} {E : XK} (w : W I H ((b, o) :: M)) (hb : Bag I c o) (q : ∀ r J o' H' a l g w s, Same I J → PartOk a l g w s → Bag J c o' → W J H' ((b, o') :: M) → Is J r (rowD a l g w s) → Q r H') : sp__law_part ([.ref b] ++ []) H Q E :=
  ⟨I, M, b, c, o, rfl, w, hb, q⟩

theorem ok__law_part {f : Addr} {fd : FuncData} (F : Fun K "_law_part" "_law_part" s__law_part f fd) (B : Bn mg) (c__law_length : Cal P w K mg base "_law_length" 2 ["_law_bag_here", "_law_most"] [] sp__law_length) (c__law_take : Cal P w K mg base "_law_take" 1 ["_law_bag_here", "_law_many"] [] sp__law_take) (c__law_weight : Cal P w K mg base "_law_weight" 3 ["_law_bag_here"] [] sp__law_weight)  : FnOk P w K mg base CX0 4 f fd ["_law_bag_here"] sp__law_part := by
  refine F.ok sc__law_part (fun vs H Q E h => ?_) (fun cdv A outer s H vs Q E hr h => ?_)
  · obtain ⟨I, M, b, c, o, rfl, w, hb, k⟩ := h
    rfl
  · obtain ⟨I, M, b, c, o, rfl, w, hb, k⟩ := h
    refine ⟨_, (pss_cons (ps_set (i := 1) sc__law_part.nd rfl (Or.inl rfl) (pe_cal c__law_length (hr.mono (by decide)) (by rfl) (pa_cons (pv 0) (pa_cons (pe_op (op_powC 1000000000000) pe_int pe_int) pa_nil))))
      (pss_cons (ps_asg (pe_tup (pa_cons pe_int (pa_cons pe_non pa_nil))) (kpg_tup (K := K) rfl rfl (pgs_cons (pg_name (i := 2) sc__law_part.nd rfl (Or.inl rfl)) (pgs_cons (pg_name (i := 3) sc__law_part.nd rfl (Or.inl rfl)) pgs_nil))))
      (pss_cons (ps_set (i := 4) sc__law_part.nd rfl (Or.inl rfl) (pe_cal c__law_take (hr.mono (by decide)) (by rfl) (pa_cons (pv 0) (pa_cons pe_int pa_nil))))
      (pss_cons (ps_if (pt_cmpR (k_eq (K := K) rfl hr.units) (pv 4) pe_int (nomark _)) (pss_one (ps_set (i := 2) sc__law_part.nd rfl (Or.inl rfl) (pv 1))) pss_nil)
      (pss_cons (ps_if (pt_cmpR op_gt (pv 4) pe_int (nomark _)) (pss_one (ps_set (i := 2) sc__law_part.nd rfl (Or.inl rfl) (pe_cal c__law_length (hr.mono (by decide)) (by rfl) (pa_cons (pv 0) (pa_cons (pv 1) pa_nil))))) pss_nil)
      (pss_cons (ps_set (i := 4) sc__law_part.nd rfl (Or.inl rfl) (pe_cal c__law_take (hr.mono (by decide)) (by rfl) (pa_cons (pv 0) (pa_cons pe_int pa_nil))))
      (pss_cons (ps_if (pt_cmpR (k_eq (K := K) rfl hr.units) (pv 4) pe_int (nomark _)) (pss_one (ps_set (i := 3) sc__law_part.nd rfl (Or.inl rfl) (pv 1))) pss_nil)
      (pss_cons (ps_if (pt_cmpR op_gt (pv 4) pe_int (nomark _)) (pss_one (ps_set (i := 3) sc__law_part.nd rfl (Or.inl rfl) (pe_op (k_add (K := K) rfl) (pv 1) (pe_cal c__law_length (hr.mono (by decide)) (by rfl) (pa_cons (pv 0) (pa_cons (pe_op op_sub (pe_op (op_powC 1000000000000) pe_int pe_int) (pv 1)) pa_nil)))))) pss_nil)
      (pss_one (ps_ret (pe_tup (pa_cons (pv 1) (pa_cons (pv 2) (pa_cons (pv 3) (pa_cons (pe_cal c__law_weight (hr.mono (by decide)) (by rfl) (pa_cons (pv 0) pa_nil)) (pa_cons (pe_cal c__law_weight (hr.mono (by decide)) (by rfl) (pa_cons (pv 0) pa_nil)) pa_nil)))))))))))))))), ?_⟩
    try dsimp only [cxOf, Cx.nox, Cx.wish, Cx.blk]
    walk_at "go"
    refine use_length w hb (by omega) (by omega) fun a o1 H1 a0 a1 hb1 w1 => ?_
    walk_at "go"
    refine s_newT w1 (by walk_at "isa") (by simp) fun p J1 H1 s1 _ w1 h1 => ?_
    refine s_gtup2 w1 h1 fun z1 z2 hz1 hz2 => ?_
    cases hz1.int_eq
    cases hz2.non_eq
    have hb1 := hb1.mono s1
    walk_at "go"
    refine use_take w1 hb1 (by omega) (by omega) fun v o2 H2 v0 v1 hb2 w2 => ?_
    walk_at "s1"
    with_reducible refine s_mid (fun σ' H' => H' = H2 ∧ ∃ l, σ' = [some (.ref b), some (.int a), some (.int l), some .non, some (.int v)] ∧ 0 ≤ l ∧ l ≤ a) ?_ (fun N fin => ?_)
    case refine_2 =>
      walk_at "go"
      walk_at "fork"
      · walk_at "go"
        exact fin _ _ ⟨rfl, _, rfl, by omega, by omega⟩
      · walk_at "go"
        exact fin _ _ ⟨rfl, _, rfl, by omega, by omega⟩
    rintro σ' H' ⟨rfl, l, rfl, l0, l1⟩
    with_reducible refine s_mid (fun σ' H' => ∃ o3 l x4, σ' = [some (.ref b), some (.int a), some (.int l), some .non, x4] ∧ Bag J1 c o3 ∧ W J1 H' ((b, o3) :: M) ∧ 0 ≤ l ∧ l ≤ a) ?_ (fun N fin => ?_)
    case refine_2 =>
      walk_at "go"
      walk_at "fork"
      · walk_at "go"
        refine use_length w2 hb2 (by omega) (by omega) fun y o5 H5 y0 y1 hb5 w5 => ?_
        walk_at "go"
        exact fin _ _ ⟨o5, _, _, rfl, hb5, w5, y0, y1⟩
      · walk_at "go"
        exact fin _ _ ⟨o2, _, _, rfl, hb2, w2, l0, l1⟩
    clear l0 l1
    rintro σ' H' ⟨o3, l, x4, rfl, hb3, w3, l0, l1⟩
    walk_at "go"
    refine use_take w3 hb3 (by omega) (by omega) fun v o4 H4 v0 v1 hb4 w4 => ?_
    walk_at "s1"
    with_reducible refine s_mid (fun σ' H' => H' = H4 ∧ ∃ u g, σ' = [some (.ref b), some (.int a), some (.int l), some u, some (.int v)] ∧ Is J1 u g ∧ Gr a g) ?_ (fun N fin => ?_)
    case refine_2 =>
      walk_at "go"
      walk_at "fork"
      · walk_at "go"
        exact fin _ _ ⟨rfl, _, _, rfl, .int _, .inr ⟨_, rfl, by omega, by omega⟩⟩
      · walk_at "go"
        exact fin _ _ ⟨rfl, _, _, rfl, .non, .inl rfl⟩
    rintro σ' H' ⟨rfl, u, g, rfl, hu, hg⟩
    with_reducible refine s_mid (fun σ' H' => ∃ o3 u g x4, σ' = [some (.ref b), some (.int a), some (.int l), some u, x4] ∧ Bag J1 c o3 ∧ W J1 H' ((b, o3) :: M) ∧ Is J1 u g ∧ Gr a g) ?_ (fun N fin => ?_)
    case refine_2 =>
      walk_at "go"
      walk_at "fork"
      · walk_at "go"
        refine use_length w4 hb4 (by omega) (by omega) fun y o5 H5 y0 y1 hb5 w5 => ?_
        walk_at "go"
        exact fin _ _ ⟨o5, _, _, _, rfl, hb5, w5, .int _, .inr ⟨_, rfl, by omega, by omega⟩⟩
      · walk_at "go"
        exact fin _ _ ⟨o4, _, _, _, rfl, hb4, w4, hu, hg⟩
    clear hu hg
    rintro σ' H' ⟨o5, u, g, x4, rfl, hb5, w5, hu, hg⟩
    walk_at "go"
    refine use_weight w5 hb5 fun x o6 H6 x0 x1 hb6 w6 => ?_
    walk_at "go"
    refine use_weight w6 hb6 fun y o7 H7 y0 y1 hb7 w7 => ?_
    walk_at "go"
    refine s_newT w7 (by walk_at "isa") (by simp) fun p J8 H8 s8 _ w8 h8 => ?_
    exact k _ J8 o7 H8 a l g x y (s1.trans s8) ⟨l0, l1, a1, hg, x0, x1, y0, y1⟩ (hb7.mono s8) w8 h8
abbrev s__law_size : Stmt := top 26
theorem sc__law_size : FnScope ["_law_row", "_law_price_here", "_law_top", "_law_bottom", "_law_raw"] ["_law_row", "_law_price_here"] (defScope s__law_size) := ⟨rfl, rfl, rfl, by decide +kernel, rfl, by decide +kernel, by decide +kernel⟩
def sp__law_size : Sp := fun vs H Q _ => ∃ I M u v b l g w s, ∃ p : Rat, vs = [u, v] ∧ W I H M ∧ Is I u (rowD b l g w s) ∧ Is I v (frq p) ∧ PartOk b l g w s ∧ Sz 7000 p ∧ ∀ r J H', Same I J → W J H' M → Is J r (frq (sizQ b l g w s p)) → Q r H'
theorem use_size {I H : Hp} {M : List (Addr × HO)} {u v : V} {b l w s : Int} {g : D} {p : Rat} {Q : VK} {E : XK} (ww : W I H M) (hu : Is I u (rowD b l g w s)) (hv : Is I v (frq p)) (ok : PartOk b l g w s) (hp : Sz 7000 p) (f : ∀ r J H', Same I J → W J H' M → Is J r (frq (sizQ b l g w s p)) → Q r H') : sp__law_size ([u, v] ++ []) H Q E := ⟨I, M, u, v, b, l, g, w, s, p, rfl, ww, hu, hv, ok, hp, f⟩

theorem ok__law_size {f : Addr} {fd : FuncData} (F : Fun K "_law_size" "_law_size" s__law_size f fd) (B : Bn mg) (c__law_lowest : Cal P w K mg base "_law_lowest" 2 ["_law_top", "_law_bottom"] [] sp__law_lowest)  : FnOk P w K mg base CX0 3 f fd ["_law_row", "_law_price_here"] sp__law_size := by
  refine F.ok sc__law_size (fun vs H Q E h => ?_) (fun cdv A outer s H vs Q E hr h => ?_)
  · obtain ⟨I, M, u, v, b, l, g, w, s, p, rfl, ww, hu, hv, ok, hp, k⟩ := h
    rfl
  · obtain ⟨I, M, u, v, b, l, g, w, s, p, rfl, ww, hu, hv, ok, hp, k⟩ := h
    refine ⟨_, (pss_cons (ps_asg (pv 1) (kpg_tup (K := K) rfl rfl (pgs_cons (pg_name (i := 2) sc__law_size.nd rfl (Or.inl rfl)) (pgs_cons (pg_name (i := 3) sc__law_size.nd rfl (Or.inl rfl)) pgs_nil))))
      (pss_cons (ps_if (pt_cmpR op_ge (pv 2) pe_int (nomark _)) (pss_cons (ps_set (i := 4) sc__law_size.nd rfl (Or.inl rfl) (pe_op (k_add (K := K) rfl) (pe_op uo_mul (pe_ix (k_ix (K := K) rfl) (pv 0) pe_int (fun _ _ => rfl)) (pv 3)) (pe_op uo_mul (pe_ix (k_ix (K := K) rfl) (pv 0) pe_int (fun _ _ => rfl)) (pv 2))))
      (pss_cons (ps_if (pw_and (pt_cmp (pc_notN (pe_ix (k_ix (K := K) rfl) (pv 0) pe_int (fun _ _ => rfl)))) (pw_and1 (pt_cmpR op_gt (pv 4) (pe_op uo_mul (pe_ix (k_ix (K := K) rfl) (pv 0) pe_int (fun _ _ => rfl)) (pv 3)) (nomark _)))).pt (pss_one (ps_ret (pe_tup (pa_cons (pe_ix (k_ix (K := K) rfl) (pv 0) pe_int (fun _ _ => rfl)) (pa_cons pe_int pa_nil))))) pss_nil)
      (pss_one (ps_ret (pe_cal c__law_lowest (hr.mono (by decide)) (by rfl) (pa_cons (pv 4) (pa_cons (pv 3) pa_nil))))))) pss_nil)
      (pss_cons (ps_set (i := 4) sc__law_size.nd rfl (Or.inl rfl) (pe_op (k_add (K := K) rfl) (pe_op uo_mul (pe_ix (k_ix (K := K) rfl) (pv 0) pe_int (fun _ _ => rfl)) (pv 3)) (pe_op uo_mul (pe_ix (k_ix (K := K) rfl) (pv 0) pe_int (fun _ _ => rfl)) (pv 2))))
      (pss_cons (ps_if (pt_cmpR op_lt (pv 4) (pe_op uo_mul (pe_ix (k_ix (K := K) rfl) (pv 0) pe_int (fun _ _ => rfl)) (pv 3)) (nomark _)) (pss_one (ps_ret (pe_tup (pa_cons (pe_ix (k_ix (K := K) rfl) (pv 0) pe_int (fun _ _ => rfl)) (pa_cons pe_int pa_nil))))) pss_nil)
      (pss_one (ps_ret (pe_cal c__law_lowest (hr.mono (by decide)) (by rfl) (pa_cons (pv 4) (pa_cons (pv 3) pa_nil))))))))), ?_⟩
    try dsimp only [cxOf, Cx.nox, Cx.wish, Cx.blk]
    have l0 := ok.l0; have lb := ok.lb; have bm := ok.bm; have w0 := ok.w0; have w1 := ok.w1; have s0 := ok.s0; have s1 := ok.s1
    have bB : Bd 40 b := bd12 (by omega) bm
    have bL : Bd 40 l := bd12 l0 (by omega)
    have bW : Bd 10 w := bd3 w0 w1
    have bS : Bd 10 s := bd3 s0 s1
    have dp := den_pos' p
    walk_at "go"
    refine s_gtup2 ww hv fun z1 z2 hz1 hz2 => ?_
    cases hz1.int_eq
    cases hz2.int_eq
    walk_at "go"
    walk_at "fork"
    · rename_i hn
      have hp0 : ¬ p < 0 := fun z => by have := lt_zero.mp z; omega
      walk_at "go"
      refine s_mul (bB.cm hp.d) ?_
      walk_at "go"
      refine s_mul (bW.cm hp.n) ?_
      rcases ok.gr with rfl | ⟨n, rfl, g1, g2⟩
      · walk_at "go"
        refine use_lowest ww (den_ne p) (hp.d.mono (by decide)) fun r J1 H1 e1 ww1 h1 => ?_
        rw [lin_dv] at h1
        refine k _ J1 H1 e1 ww1 ?_
        rw [sizQ, if_neg hp0]
        exact h1
      · walk_at "go"
        refine s_mul ((bd12 (by omega) g2).cm hp.d) ?_
        walk_at "go"
        walk_at "fork"
        · rename_i hl
          walk_at "go"
          refine s_newT ww (by walk_at "isa") (by simp) fun q J3 H3 e3 _ ww3 h3 => ?_
          refine k _ J3 H3 e3 ww3 ?_
          rw [sizQ, if_neg hp0, capG, if_pos (by rw [← lin_dv]; exact (lt_dv dp).mpr (by omega))]
          exact h3
        · rename_i hl
          walk_at "go"
          refine use_lowest ww (den_ne p) (hp.d.mono (by decide)) fun r J1 H1 e1 ww1 h1 => ?_
          rw [lin_dv] at h1
          refine k _ J1 H1 e1 ww1 ?_
          rw [sizQ, if_neg hp0, capG, if_neg (fun z => hl (by rw [← lin_dv] at z; have := (lt_dv dp).mp z; omega))]
          exact h1
    rename_i hn
    have hp0 : p < 0 := lt_zero.mpr (by omega)
    walk_at "go"
    refine s_mul (bB.cm hp.d) ?_
    walk_at "go"
    refine s_mul (bS.cm hp.n) ?_
    walk_at "go"
    refine s_mul (bL.cm hp.d) ?_
    walk_at "go"
    walk_at "fork"
    · rename_i hl
      walk_at "go"
      refine s_newT ww (by walk_at "isa") (by simp) fun q J3 H3 e3 _ ww3 h3 => ?_
      refine k _ J3 H3 e3 ww3 ?_
      rw [sizQ, if_pos hp0, if_pos (by rw [← lin_dv]; exact (dv_lt dp).mpr (by omega))]
      exact h3
    · rename_i hl
      walk_at "go"
      refine use_lowest ww (den_ne p) (hp.d.mono (by decide)) fun r J1 H1 e1 ww1 h1 => ?_
      rw [lin_dv] at h1
      refine k _ J1 H1 e1 ww1 ?_
      rw [sizQ, if_pos hp0, if_neg (fun z => hl (by rw [← lin_dv] at z; have := (dv_lt dp).mp z; omega))]
      exact h1
abbrev s__law_price : Stmt := top 27
theorem sc__law_price : FnScope ["_law_bag_here", "_law_row", "_law_way", "_law_price_here", "_law_far"] ["_law_bag_here", "_law_row"] (defScope s__law_price) := ⟨rfl, rfl, rfl, by decide +kernel, rfl, by decide +kernel, by decide +kernel⟩
def sp__law_price : Sp := fun vs H Q _ => ∃ I M b c o u a l g w s, vs = [.ref b, u] ∧ W I H ((b, o) :: M) ∧ Bag I c o ∧ Is I u (rowD a l g w s) ∧ PartOk a l g w s ∧ ∀ r J o' H', ∀ q : Rat, Same I J → Bag J c o' → W J H' ((b, o') :: M) → Is J r (frq q) → Sz 600 q → Q r H'
theorem use_price {I H : Hp} {M : List (Addr × HO)} {b c : Addr} {o : HO} {u : V} {a l w s : Int} {g : D} {Q : VK} {E : XK} (ww : W I H ((b, o) :: M)) (hb : Bag I c o) (hu : Is I u (rowD a l g w s)) (ok : PartOk a l g w s) (k : ∀ r J o' H', ∀ q : Rat, Same I J → Bag J c o' → W J H' ((b, o') :: M) → Is J r (frq q) → Sz 600 q → Q r H') : sp__law_price ([.ref b, u] ++ []) H Q E := ⟨I, M, b, c, o, u, a, l, g, w, s, rfl, ww, hb, hu, ok, k⟩

theorem ok__law_price {f : Addr} {fd : FuncData} (F : Fun K "_law_price" "_law_price" s__law_price f fd) (B : Bn mg) (c__law_take : Cal P w K mg base "_law_take" 1 ["_law_bag_here", "_law_many"] [] sp__law_take) (c__law_lowest : Cal P w K mg base "_law_lowest" 2 ["_law_top", "_law_bottom"] [] sp__law_lowest)  : FnOk P w K mg base CX0 3 f fd ["_law_bag_here", "_law_row"] sp__law_price := by
  refine F.ok sc__law_price (fun vs H Q E h => ?_) (fun cdv A outer s H vs Q E hr h => ?_)
  · obtain ⟨I, M, b, c, o, u, a, l, g, w, s, rfl, ww, hb, hu, ok, k⟩ := h
    rfl
  · obtain ⟨I, M, b, c, o, u, a, l, g, w, s, rfl, ww, hb, hu, ok, k⟩ := h
    refine ⟨_, (pss_cons (ps_set (i := 2) sc__law_price.nd rfl (Or.inl rfl) (pe_cal c__law_take (hr.mono (by decide)) (by rfl) (pa_cons (pv 0) (pa_cons pe_int pa_nil))))
      (pss_cons (ps_set (i := 3) sc__law_price.nd rfl (Or.inl rfl) (pe_cal c__law_lowest (hr.mono (by decide)) (by rfl) (pa_cons (pe_op op_sub (pe_cal c__law_take (hr.mono (by decide)) (by rfl) (pa_cons (pv 0) (pa_cons pe_int pa_nil))) pe_int) (pa_cons (pe_op (k_add (K := K) rfl) pe_int (pe_cal c__law_take (hr.mono (by decide)) (by rfl) (pa_cons (pv 0) (pa_cons pe_int pa_nil)))) pa_nil))))
      (pss_cons (ps_if (pt_cmpR (k_eq (K := K) rfl hr.units) (pv 2) pe_int (nomark _)) (pss_one (ps_set (i := 3) sc__law_price.nd rfl (Or.inl rfl) (pe_tup (pa_cons pe_int (pa_cons pe_int pa_nil))))) pss_nil)
      (pss_cons (ps_if (pt_cmpR (k_eq (K := K) rfl hr.units) (pv 2) pe_int (nomark _)) (pss_one (ps_set (i := 3) sc__law_price.nd rfl (Or.inl rfl) (pe_cal c__law_lowest (hr.mono (by decide)) (by rfl) (pa_cons (pe_op op_sub (pe_cal c__law_take (hr.mono (by decide)) (by rfl) (pa_cons (pv 0) (pa_cons (pe_op (op_powC 10000000000000) pe_int pe_int) pa_nil))) (pe_op uo_mul pe_int (pe_op (op_powC 1000000000000) pe_int pe_int))) (pa_cons (pe_op (k_add (K := K) rfl) pe_int (pe_cal c__law_take (hr.mono (by decide)) (by rfl) (pa_cons (pv 0) (pa_cons (pe_op (op_powC 1000000000) pe_int pe_int) pa_nil)))) pa_nil))))) pss_nil)
      (pss_cons (ps_if (pw_and (pt_cmpR op_gt (pv 2) pe_int (nomark _)) (pw_and (pt_cmpR op_lt (pv 2) pe_int (nomark _)) (pw_and (pt_cmpR op_gt (pe_ix (k_ix (K := K) rfl) (pv 1) pe_int (fun _ _ => rfl)) pe_int (nomark _)) (pw_and1 (pt_cmp (pc_notN (pe_ix (k_ix (K := K) rfl) (pv 1) pe_int (fun _ _ => rfl)))))))).pt (pss_one (ps_set (i := 3) sc__law_price.nd rfl (Or.inl rfl) (pe_cal c__law_lowest (hr.mono (by decide)) (by rfl) (pa_cons (pe_op op_sub (pe_ix (k_ix (K := K) rfl) (pv 1) pe_int (fun _ _ => rfl)) (pe_ix (k_ix (K := K) rfl) (pv 1) pe_int (fun _ _ => rfl))) (pa_cons (pe_ix (k_ix (K := K) rfl) (pv 1) pe_int (fun _ _ => rfl)) pa_nil))))) pss_nil)
      (pss_cons (ps_if (pw_and (pt_cmpR op_gt (pv 2) pe_int (nomark _)) (pw_and1 (pt_cmpR op_gt (pe_ix (k_ix (K := K) rfl) (pv 1) pe_int (fun _ _ => rfl)) pe_int (nomark _)))).pt (pss_one (ps_set (i := 3) sc__law_price.nd rfl (Or.inl rfl) (pe_cal c__law_lowest (hr.mono (by decide)) (by rfl) (pa_cons (pe_op op_sub (pe_ix (k_ix (K := K) rfl) (pv 1) pe_int (fun _ _ => rfl)) (pe_ix (k_ix (K := K) rfl) (pv 1) pe_int (fun _ _ => rfl))) (pa_cons (pe_ix (k_ix (K := K) rfl) (pv 1) pe_int (fun _ _ => rfl)) pa_nil))))) pss_nil)
      (pss_cons (ps_if (pt_cmpR (k_eq (K := K) rfl hr.units) (pe_cal c__law_take (hr.mono (by decide)) (by rfl) (pa_cons (pv 0) (pa_cons pe_int pa_nil))) pe_int (nomark _)) (pss_cons (ps_set (i := 4) sc__law_price.nd rfl (Or.inl rfl) (pe_op (k_add (K := K) rfl) pe_int (pe_cal c__law_take (hr.mono (by decide)) (by rfl) (pa_cons (pv 0) (pa_cons (pe_op (op_powC 1000000) pe_int pe_int) pa_nil)))))
      (pss_cons (ps_if (pt_cmpR (k_eq (K := K) rfl hr.units) (pe_cal c__law_take (hr.mono (by decide)) (by rfl) (pa_cons (pv 0) (pa_cons pe_int pa_nil))) pe_int (nomark _)) (pss_one (ps_set (i := 4) sc__law_price.nd rfl (Or.inl rfl) (pe_op (k_add (K := K) rfl) pe_int (pe_op uo_mul (pe_cal c__law_take (hr.mono (by decide)) (by rfl) (pa_cons (pv 0) (pa_cons (pe_op (op_powC 100000000000000000000000000000000000000000000000000) pe_int pe_int) pa_nil))) (pe_op (op_powC 100000000000000000000000000000000000000000000000000) pe_int pe_int))))) pss_nil)
      (pss_one (ps_set (i := 3) sc__law_price.nd rfl (Or.inl rfl) (pe_cal c__law_lowest (hr.mono (by decide)) (by rfl) (pa_cons (pe_op op_sub (pe_op (k_add (K := K) rfl) (pe_op uo_mul (pe_ix (k_ix (K := K) rfl) (pv 3) pe_int (fun _ _ => rfl)) (pv 4)) (pe_cal c__law_take (hr.mono (by decide)) (by rfl) (pa_cons (pv 0) (pa_cons pe_int pa_nil)))) pe_int) (pa_cons (pe_op uo_mul (pe_ix (k_ix (K := K) rfl) (pv 3) pe_int (fun _ _ => rfl)) (pv 4)) pa_nil))))))) pss_nil)
      (pss_one (ps_ret (pv 3)))))))))), ?_⟩
    try dsimp only [cxOf, Cx.nox, Cx.wish, Cx.blk]
    have l0 := ok.l0; have lb := ok.lb; have bm := ok.bm; have w0 := ok.w0; have w1 := ok.w1; have s0 := ok.s0; have s1 := ok.s1
    have hu0 := hu
    walk_at "go"
    refine use_take ww hb (by omega) (by omega) fun v o1 H1 v0 v1 hb1 ww1 => ?_
    walk_at "s1"
    with_reducible refine s_mid (fun σ' H' => ∃ J o r x4, ∃ q : Rat, σ' = [some (.ref b), some u, some (.int v), some r, x4] ∧ Same I J ∧ Bag J c o ∧ W J H' ((b, o) :: M) ∧ Is J r (frq q) ∧ Sz 60 q) ?_ (fun N fin => ?_)
    case refine_2 =>
      walk_at "go"
      refine use_take ww1 hb1 (by omega) (by omega) fun x o2 H2 x0 x1 hb2 ww2 => ?_
      walk_at "go"
      refine use_take ww2 hb2 (by omega) (by omega) fun y o3 H3 y0 y1 hb3 ww3 => ?_
      walk_at "go"
      refine use_lowest ww3 (by omega) ((Bd.of 1000 (by omega) : Bd 10 _).mono (by decide)) fun r J4 H4 e4 ww4 h4 => ?_
      exact fin _ _ ⟨J4, _, _, _, _, rfl, e4, hb3.mono e4, ww4, h4, Sz.divInt (by omega) (Bd.of 2000000000000 (by omega) : Bd 41 _) (Bd.of 1000 (by omega) : Bd 10 _) 60⟩
    clear ww1 hb1
    rintro σ' H' ⟨J, o, r, x4, q, rfl, e, hb, ww, hr', hq⟩
    have hu := hu0.mono e
    with_reducible refine s_mid (fun σ' H' => ∃ J o r x4, ∃ q : Rat, σ' = [some (.ref b), some u, some (.int v), some r, x4] ∧ Same I J ∧ Bag J c o ∧ W J H' ((b, o) :: M) ∧ Is J r (frq q) ∧ Sz 60 q) ?_ (fun N fin => ?_)
    case refine_2 =>
      walk_at "go"
      walk_at "fork"
      · walk_at "go"
        refine s_newT ww (by walk_at "isa") (by simp) fun p J2 H2 e2 _ ww2 h2 => ?_
        exact fin _ _ ⟨J2, _, _, _, ((0 : Int) : Rat), rfl, e.trans e2, hb.mono e2, ww2, h2, Sz.int (Bd.of 0 (by decide))⟩
      · walk_at "go"
        exact fin _ _ ⟨J, o, _, _, q, rfl, e, hb, ww, hr', hq⟩
    clear hq hr' ww hb e hu
    rintro σ' H' ⟨J, o, r, x4, q, rfl, e, hb, ww, hr', hq⟩
    have hu := hu0.mono e
    with_reducible refine s_mid (fun σ' H' => ∃ J o r x4, ∃ q : Rat, σ' = [some (.ref b), some u, some (.int v), some r, x4] ∧ Same I J ∧ Bag J c o ∧ W J H' ((b, o) :: M) ∧ Is J r (frq q) ∧ Sz 60 q) ?_ (fun N fin => ?_)
    case refine_2 =>
      walk_at "go"
      walk_at "fork"
      · walk_at "goo"
        refine use_take ww hb (by omega) (by omega) fun x o2 H2 x0 x1 hb2 ww2 => ?_
        walk_at "goo"
        refine use_take ww2 hb2 (by omega) (by omega) fun y o3 H3 y0 y1 hb3 ww3 => ?_
        walk_at "go"
        refine use_lowest ww3 (by omega) ((Bd.of 1000000000 (by omega) : Bd 40 _).mono (by decide)) fun r J4 H4 e4 ww4 h4 => ?_
        exact fin _ _ ⟨J4, _, _, _, _, rfl, e.trans e4, hb3.mono e4, ww4, h4, Sz.divInt (by omega) (Bd.of 10000000000000 (by omega) : Bd 44 _) (Bd.of 1000000000 (by omega) : Bd 30 _) 60⟩
      · walk_at "go"
        exact fin _ _ ⟨J, o, _, _, q, rfl, e, hb, ww, hr', hq⟩
    clear hq hr' ww hb e hu
    rintro σ' H' ⟨J, o, r, x4, q, rfl, e, hb, ww, hr', hq⟩
    have hu := hu0.mono e
    with_reducible refine s_mid (fun σ' H' => ∃ J o r x4, ∃ q : Rat, σ' = [some (.ref b), some u, some (.int v), some r, x4] ∧ Same I J ∧ Bag J c o ∧ W J H' ((b, o) :: M) ∧ Is J r (frq q) ∧ Sz 60 q) ?_ (fun N fin => ?_)
    case refine_2 =>
      have keep : N [some (.ref b), some u, some (.int v), some r, x4] H' := fin _ _ ⟨J, o, _, _, q, rfl, e, hb, ww, hr', hq⟩
      walk_at "go"
      walk_at "fork"
      · walk_at "go"
        walk_at "fork"
        · walk_at "go"
          walk_at "fork"
          · rcases ok.gr with rfl | ⟨n, rfl, g1, g2⟩
            · walk_at "go"
              exact keep
            · walk_at "go"
              refine use_lowest ww (by omega) ((Bd.of 1000 (by omega) : Bd 40 _).mono (by decide)) fun r J4 H4 e4 ww4 h4 => ?_
              exact fin _ _ ⟨J4, _, _, _, _, rfl, e.trans e4, hb.mono e4, ww4, h4, Sz.divInt (by omega) (Bd.of 10000000000000 (by omega) : Bd 44 _) (Bd.of 1000 (by omega) : Bd 30 _) 60⟩
          · walk_at "go"
            exact keep
        · walk_at "go"
          exact keep
      · walk_at "go"
        exact keep
    clear hq hr' ww hb e hu
    rintro σ' H' ⟨J, o, r, x4, q, rfl, e, hb, ww, hr', hq⟩
    have hu := hu0.mono e
    with_reducible refine s_mid (fun σ' H' => ∃ J o r x4, ∃ q : Rat, σ' = [some (.ref b), some u, some (.int v), some r, x4] ∧ Same I J ∧ Bag J c o ∧ W J H' ((b, o) :: M) ∧ Is J r (frq q) ∧ Sz 60 q) ?_ (fun N fin => ?_)
    case refine_2 =>
      have keep : N [some (.ref b), some u, some (.int v), some r, x4] H' := fin _ _ ⟨J, o, _, _, q, rfl, e, hb, ww, hr', hq⟩
      walk_at "go"
      walk_at "fork"
      · walk_at "go"
        walk_at "fork"
        · walk_at "go"
          refine use_lowest ww (by omega) ((Bd.of 1000 (by omega) : Bd 40 _).mono (by decide)) fun r J4 H4 e4 ww4 h4 => ?_
          exact fin _ _ ⟨J4, _, _, _, _, rfl, e.trans e4, hb.mono e4, ww4, h4, Sz.divInt (by omega) (Bd.of 10000000000000 (by omega) : Bd 44 _) (Bd.of 1000 (by omega) : Bd 30 _) 60⟩
        · walk_at "go"
          exact keep
      · walk_at "go"
        exact keep
    clear hq hr' ww hb e hu
    rintro σ' H' ⟨J, o, r, x4, q, rfl, e, hb, ww, hr', hq⟩
    have hu := hu0.mono e
    with_reducible refine s_mid (fun σ' H' => ∃ J o r x4, ∃ q : Rat, σ' = [some (.ref b), some u, some (.int v), some r, x4] ∧ Same I J ∧ Bag J c o ∧ W J H' ((b, o) :: M) ∧ Is J r (frq q) ∧ Sz 600 q) ?_ (fun N fin => ?_)
    case refine_2 =>
      walk_at "go"
      refine use_take ww hb (by omega) (by omega) fun x o2 H2 x0 x1 hb2 ww2 => ?_
      walk_at "go"
      walk_at "fork"
      · with_reducible refine s_mid (fun σ' H' => ∃ o, ∃ f : Int, σ' = [some (.ref b), some u, some (.int v), some r, some (.int f)] ∧ Bag J c o ∧ W J H' ((b, o) :: M) ∧ 0 < f ∧ Bd 340 f) ?_ (fun N fin => ?_)
        case refine_2 =>
          walk_at "go"
          refine use_take ww2 hb2 (by omega) (by omega) fun x o3 H3 x0 x1 hb3 ww3 => ?_
          walk_at "go"
          exact fin _ _ ⟨o3, _, rfl, hb3, ww3, by omega, (Bd.of 1000000 (by omega) : Bd 20 _).mono (by decide)⟩
        rintro σ' H' ⟨o5, f, rfl, hb5, ww5, f0, fB⟩
        with_reducible refine s_mid (fun σ' H' => ∃ o, ∃ f : Int, σ' = [some (.ref b), some u, some (.int v), some r, some (.int f)] ∧ Bag J c o ∧ W J H' ((b, o) :: M) ∧ 0 < f ∧ Bd 340 f) ?_ (fun N fin => ?_)
        case refine_2 =>
          walk_at "go"
          refine use_take ww5 hb5 (by omega) (by omega) fun y o6 H6 y0 y1 hb6 ww6 => ?_
          walk_at "go"
          walk_at "fork"
          · walk_at "go"
            refine use_take ww6 hb6 (by omega) (by omega) fun z o7 H7 z0 z1 hb7 ww7 => ?_
            walk_at "go"
            refine s_mul (Bd.cm (j := 167) (k := 167) (Bd.of 100000000000000000000000000000000000000000000000000 (by omega)) (Bd.of 100000000000000000000000000000000000000000000000000 (by decide))) ?_
            walk_at "go"
            exact fin _ _ ⟨o7, _, rfl, hb7, ww7, by omega, (Bd.of (10 ^ 100) (by omega) (by decide) : Bd 340 _)⟩
          · walk_at "go"
            exact fin _ _ ⟨o6, _, rfl, hb6, ww6, f0, fB⟩
        clear f0 fB
        rintro σ' H' ⟨o5, f, rfl, hb5, ww5, f0, fB⟩
        walk_at "go"
        refine s_mul (hq.n.cm fB) ?_
        walk_at "go"
        refine use_take ww5 hb5 (by omega) (by omega) fun z o7 H7 z0 z1 hb7 ww7 => ?_
        walk_at "go"
        refine s_mul (hq.d.cm fB) ?_
        walk_at "go"
        have hne : (q.den : Int) * f ≠ 0 := Int.mul_ne_zero (den_ne q) (by omega)
        refine use_lowest ww7 hne ((hq.d.mul fB).mono (by decide)) fun r J8 H8 e8 ww8 h8 => ?_
        exact fin _ _ ⟨J8, _, _, _, _, rfl, e.trans e8, hb7.mono e8, ww8, h8, Sz.divInt hne (Bd.sub (Bd.add (hq.n.mul fB) ((Bd.of 3 (by omega) : Bd 2 _).mono (by decide))) ((Bd.of 1 (by decide) : Bd 1 1).mono (by decide))) (hq.d.mul fB) 600⟩
      · walk_at "go"
        exact fin _ _ ⟨J, o2, _, _, q, rfl, e, hb2, ww2, hr', hq.mono (by decide)⟩
    clear hq hr' ww hb e hu
    rintro σ' H' ⟨J, o, r, x4, q, rfl, e, hb, ww, hr', hq⟩
    have hu := hu0.mono e
    walk_at "go"
    exact k _ J o _ q e hb ww hr' hq
abbrev s__law_fields : Stmt := top 28
theorem sc__law_fields : FnScope ["_law_part_here", "_law_row", "_law_due", "_law_found", "_law_one", "_law_other"] ["_law_part_here", "_law_row"] (defScope s__law_fields) := ⟨rfl, rfl, rfl, by decide +kernel, rfl, by decide +kernel, by decide +kernel⟩
def sp__law_fields (C : Addr) : Sp := fun vs H Q _ => ∃ I M u v b l g w s, vs = [u, v] ∧ W I H M ∧ Is I u (prt C b l g w s) ∧ Is I v (rowD b l g w s) ∧ Gr b g ∧ ∀ J H', Same I J → W J H' M → Q (.bl true) H'
theorem use_fields {C : Addr} {I H : Hp} {M : List (Addr × HO)} {u v : V} {b l w s : Int} {g : D} {Q : VK} {E : XK} (ww : W I H M) (hu : Is I u (prt C b l g w s)) (hv : Is I v (rowD b l g w s)) (hg : Gr b g) (f : ∀ J H', Same I J → W J H' M → Q (.bl true) H') : sp__law_fields C ([u, v] ++ []) H Q E := ⟨I, M, u, v, b, l, g, w, s, rfl, ww, hu, hv, hg, f⟩

theorem ok__law_fields {f : Addr} {fd : FuncData} (F : Fun K "_law_fields" "_law_fields" s__law_fields f fd) (B : Bn mg) (c__law_whole : Cal P w K mg base "_law_whole" 1 ["_law_found"] [] sp__law_whole) (o_Part : OwnC K C_Part) (n_Part : ∀ f ∈ (["base", "least", "greatest", "grow", "shrink"] : List Str), NoAttr K C_Part f)  : FnOk P w K mg base CX0 2 f fd ["_law_part_here", "_law_row"] (sp__law_fields C_Part) := by
  refine F.ok sc__law_fields (fun vs H Q E h => ?_) (fun cdv A outer s H vs Q E hr h => ?_)
  · obtain ⟨I, M, u, v, b, l, g, w, s, rfl, ww, hu, hv, hg, k⟩ := h
    rfl
  · obtain ⟨I, M, u, v, b, l, g, w, s, rfl, ww, hu, hv, hg, k⟩ := h
    refine ⟨_, (pss_cons (ps_set (i := 2) sc__law_fields.nd rfl (Or.inl rfl) (pe_lst (pa_cons (pe_ix (k_ix (K := K) rfl) (pv 1) pe_int (fun _ _ => rfl)) (pa_cons (pe_ix (k_ix (K := K) rfl) (pv 1) pe_int (fun _ _ => rfl)) (pa_cons (pe_ix (k_ix (K := K) rfl) (pv 1) pe_int (fun _ _ => rfl)) (pa_cons (pe_ix (k_ix (K := K) rfl) (pv 1) pe_int (fun _ _ => rfl)) pa_nil))))))
      (pss_cons (ps_set (i := 3) sc__law_fields.nd rfl (Or.inl rfl) (pe_lst (pa_cons (kpe_fld (K := K) rfl (pv 0) rfl) (pa_cons (kpe_fld (K := K) rfl (pv 0) rfl) (pa_cons (kpe_fld (K := K) rfl (pv 0) rfl) (pa_cons (kpe_fld (K := K) rfl (pv 0) rfl) pa_nil))))))
      (pss_cons (ps_for PassesOwn.never rfl (pi_zip (by rfl) B.zip_ (pa_cons (pv 3) (pa_cons (pv 2) pa_nil))) (kpg_tup (K := K) rfl rfl (pgs_cons (pg_name (i := 4) sc__law_fields.nd rfl (Or.inl rfl)) (pgs_cons (pg_name (i := 5) sc__law_fields.nd rfl (Or.inl rfl)) pgs_nil))) (pss_one (ps_if (pw_or (pt_not (pt_val (pe_cal c__law_whole (hr.mono (by decide)) (by rfl) (pa_cons (pv 4) pa_nil)))) (pw_or1 (pt_cmpR (k_ne (K := K) rfl hr.units) (pv 4) (pv 5) (nomark _)))).pt (pss_one (ps_ret pe_bl)) pss_nil)))
      (pss_cons (ps_if (pt_cmp (pc_isN (pe_ix (k_ix (K := K) rfl) (pv 1) pe_int (fun _ _ => rfl)))) (pss_one (ps_ret (pe_cmp (pc_isN (kpe_fld (K := K) rfl (pv 0) rfl))))) pss_nil)
      (pss_one (ps_ret (pe_and (pe_cal c__law_whole (hr.mono (by decide)) (by rfl) (pa_cons (kpe_fld (K := K) rfl (pv 0) rfl) pa_nil)) (pe_one (pe_cmpR (k_eq (K := K) rfl hr.units) (kpe_fld (K := K) rfl (pv 0) rfl) (pe_ix (k_ix (K := K) rfl) (pv 1) pe_int (fun _ _ => rfl)) (nomark _)))))))))), ?_⟩
    try dsimp only [cxOf, Cx.nox, Cx.wish, Cx.blk]
    walk_at "go"
    refine s_newL ww (by walk_at "isa") (by simp) fun p1 J1 H1 e1 _ ww1 h1 => ?_
    have hu1 := hu.mono e1
    walk_at "go"
    refine s_newL ww1 (by walk_at "isa") (by simp) fun p2 J2 H2 e2 _ ww2 h2 => ?_
    have h12 := h1.mono e2
    have e12 := e1.trans e2
    have hu2 := hu1.mono e2
    have hv2 := hv.mono e12
    walk_at "go"
    refine s_zipL ww2 h2 h12 rfl (fun i σ' Hx => W J2 Hx M ∧ ∃ x4 x5, σ' = [some u, some v, some (.ref p1), some (.ref p2), x4, x5]) ⟨ww2, _, _, rfl⟩ ?_ ?_ ?_
    · rintro i σ' Hx ⟨w3, _⟩
      exact w3.imm
    · rintro i d e x y T σ' H' H1 q1 q2 hx hy ⟨w3, x4, x5, rfl⟩ nT eH
      have w4 := w3.newI (o := .tup [x, y]) nT
      rw [← eH] at w4
      have s4 : Same J2 (upd J2 T (.tup [x, y])) := w3.same nT
      have ed : d = e := Option.some.inj (q1.symm.trans q2)
      subst ed
      obtain ⟨n, rfl⟩ : ∃ n, d = .int n := by
        have hm := List.mem_of_getElem? q1
        simp only [List.mem_cons, List.not_mem_nil, or_false] at hm
        rcases hm with h | h | h | h <;> exact ⟨_, h⟩
      cases hx.int_eq
      cases hy.int_eq
      refine s_gtup2 w4 (.tup upd_same (.cons (.int _) (.cons (.int _) .nil))) fun x' y' hx' hy' => ?_
      cases hx'.int_eq
      cases hy'.int_eq
      walk_at "go"
      refine use_wholeI w4 ?_
      walk_at "go"
      exact ⟨w4.sub s4, _, _, rfl⟩
    · rintro σ' Hx ⟨w3, x4, x5, rfl⟩
      rcases hg with rfl | ⟨n, rfl, g1, g2⟩
      · walk_at "go"
        exact k J2 _ e12 w3
      · walk_at "go"
        refine use_wholeI w3 ?_
        walk_at "go"
        simpa using k J2 _ e12 w3
abbrev s__law_shorter : Stmt := top 29
theorem sc__law_shorter : FnScope ["_law_bag_here", "_law_row", "_law_way"] ["_law_bag_here", "_law_row"] (defScope s__law_shorter) := ⟨rfl, rfl, rfl, by decide +kernel, rfl, by decide +kernel, by decide +kernel⟩
def sp__law_shorter (C : Addr) : Sp := fun vs H Q _ => ∃ I M b c o u a l g w s, vs = [.ref b, u] ∧ W I H ((b, o) :: M) ∧ Bag I c o ∧ Is I u (rowD a l g w s) ∧ PartOk a l g w s ∧ ∀ r J o' H' a l g w s, Same I J → PartOk a l g w s → Bag J c o' → W J H' ((b, o') :: M) → Is J r (.tup [prt C a l g w s, rowD a l g w s]) → Q r H'
theorem use_shorter {C : Addr} {I H : Hp} {M : List (Addr × HO)} {b c : Addr} {o : HO} {u : V} {a l w s : Int} {g : D} {Q : VK} {E : XK} (ww : W I H ((b, o) :: M)) (hb : Bag I c o) (hu : Is I u (rowD a l g w s)) (ok : PartOk a l g w s) (k : ∀ r J o' H' a l g w s, Same I J → PartOk a l g w s → Bag J c o' → W J H' ((b, o') :: M) → Is J r (.tup [prt C a l g w s, rowD a l g w s]) → Q r H') : sp__law_shorter C ([.ref b, u] ++ []) H Q E := ⟨I, M, b, c, o, u, a, l, g, w, s, rfl, ww, hb, hu, ok, k⟩

theorem ok__law_shorter {f : Addr} {fd : FuncData} (F : Fun K "_law_shorter" "_law_shorter" s__law_shorter f fd) (B : Bn mg) (c__law_take : Cal P w K mg base "_law_take" 1 ["_law_bag_here", "_law_many"] [] sp__law_take) (m_Part_at1 : Mak P w K mg base "Part" C_Part 3 ["self", "base", "least", "greatest", "grow", "shrink"] [.int 0, .non, .int 1, .int 1] (sp_Part___init__ C_Part)) (m_Part_at2 : Mak P w K mg base "Part" C_Part 3 ["self", "base", "least", "greatest", "grow", "shrink"] [.non, .int 1, .int 1] (sp_Part___init__ C_Part)) (m_Part_at3 : Mak P w K mg base "Part" C_Part 3 ["self", "base", "least", "greatest", "grow", "shrink"] [.int 1, .int 1] (sp_Part___init__ C_Part)) (m_Part_at4 : Mak P w K mg base "Part" C_Part 3 ["self", "base", "least", "greatest", "grow", "shrink"] [.int 1] (sp_Part___init__ C_Part)) (m_Part_at1_least_grow_shrink : MakK P w K mg base "Part" C_Part 3 ["self", "base", "least", "greatest", "grow", "shrink"] 1 ["least", "grow", "shrink"] (fun vs zs => ((((vs ++ (zs.drop 0).take 1) ++ (([.int 0, .non, .int 1, .int 1] : List V).drop 1).take 1) ++ (zs.drop 1).take 1) ++ (zs.drop 2).take 1)) (sp_Part___init__ C_Part)) (m_Part_at0_base_greatest : MakK P w K mg base "Part" C_Part 3 ["self", "base", "least", "greatest", "grow", "shrink"] 0 ["base", "greatest"] (fun vs zs => (((((vs ++ (zs.drop 0).take 1) ++ (([.int 0, .non, .int 1, .int 1] : List V).drop 0).take 1) ++ (zs.drop 1).take 1) ++ (([.int 0, .non, .int 1, .int 1] : List V).drop 2).take 1) ++ (([.int 0, .non, .int 1, .int 1] : List V).drop 3).take 1)) (sp_Part___init__ C_Part))  : FnOk P w K mg base CX0 5 f fd ["_law_bag_here", "_law_row"] (sp__law_shorter C_Part) := by
  refine F.ok sc__law_shorter (fun vs H Q E h => ?_) (fun cdv A outer s H vs Q E hr h => ?_)
  · obtain ⟨I, M, b, c, o, u, a, l, g, w, s, rfl, ww, hb, hu, ok, k⟩ := h
    rfl
  · obtain ⟨I, M, b, c, o, u, a, l, g, w, s, rfl, ww, hb, hu, ok, k⟩ := h
    refine ⟨_, (pss_cons (ps_set (i := 2) sc__law_shorter.nd rfl (Or.inl rfl) (pe_cal c__law_take (hr.mono (by decide)) (by rfl) (pa_cons (pv 0) (pa_cons pe_int pa_nil))))
      (pss_cons (ps_if (pt_cmpR (k_eq (K := K) rfl hr.units) (pv 2) pe_int (nomark _)) (pss_one (ps_ret (pe_tup (pa_cons (pe_mk m_Part_at1 (hr.mono (by decide)) rfl (pa_cons (pe_ix (k_ix (K := K) rfl) (pv 1) pe_int (fun _ _ => rfl)) pa_nil)) (pa_cons (pe_tup (pa_cons (pe_ix (k_ix (K := K) rfl) (pv 1) pe_int (fun _ _ => rfl)) (pa_cons pe_int (pa_cons pe_non (pa_cons pe_int (pa_cons pe_int pa_nil)))))) pa_nil))))) pss_nil)
      (pss_cons (ps_if (pt_cmpR (k_eq (K := K) rfl hr.units) (pv 2) pe_int (nomark _)) (pss_one (ps_ret (pe_tup (pa_cons (pe_mk m_Part_at2 (hr.mono (by decide)) rfl (pa_cons (pe_ix (k_ix (K := K) rfl) (pv 1) pe_int (fun _ _ => rfl)) (pa_cons (pe_ix (k_ix (K := K) rfl) (pv 1) pe_int (fun _ _ => rfl)) pa_nil))) (pa_cons (pe_tup (pa_cons (pe_ix (k_ix (K := K) rfl) (pv 1) pe_int (fun _ _ => rfl)) (pa_cons (pe_ix (k_ix (K := K) rfl) (pv 1) pe_int (fun _ _ => rfl)) (pa_cons pe_non (pa_cons pe_int (pa_cons pe_int pa_nil)))))) pa_nil))))) pss_nil)
      (pss_cons (ps_if (pt_cmpR (k_eq (K := K) rfl hr.units) (pv 2) pe_int (nomark _)) (pss_one (ps_ret (pe_tup (pa_cons (pe_mk m_Part_at3 (hr.mono (by decide)) rfl (pa_cons (pe_ix (k_ix (K := K) rfl) (pv 1) pe_int (fun _ _ => rfl)) (pa_cons (pe_ix (k_ix (K := K) rfl) (pv 1) pe_int (fun _ _ => rfl)) (pa_cons (pe_ix (k_ix (K := K) rfl) (pv 1) pe_int (fun _ _ => rfl)) pa_nil)))) (pa_cons (pe_tup (pa_cons (pe_ix (k_ix (K := K) rfl) (pv 1) pe_int (fun _ _ => rfl)) (pa_cons (pe_ix (k_ix (K := K) rfl) (pv 1) pe_int (fun _ _ => rfl)) (pa_cons (pe_ix (k_ix (K := K) rfl) (pv 1) pe_int (fun _ _ => rfl)) (pa_cons pe_int (pa_cons pe_int pa_nil)))))) pa_nil))))) pss_nil)
      (pss_cons (ps_if (pt_cmpR (k_eq (K := K) rfl hr.units) (pv 2) pe_int (nomark _)) (pss_one (ps_ret (pe_tup (pa_cons (pe_mk m_Part_at4 (hr.mono (by decide)) rfl (pa_cons (pe_ix (k_ix (K := K) rfl) (pv 1) pe_int (fun _ _ => rfl)) (pa_cons (pe_ix (k_ix (K := K) rfl) (pv 1) pe_int (fun _ _ => rfl)) (pa_cons (pe_ix (k_ix (K := K) rfl) (pv 1) pe_int (fun _ _ => rfl)) (pa_cons (pe_ix (k_ix (K := K) rfl) (pv 1) pe_int (fun _ _ => rfl)) pa_nil))))) (pa_cons (pe_tup (pa_cons (pe_ix (k_ix (K := K) rfl) (pv 1) pe_int (fun _ _ => rfl)) (pa_cons (pe_ix (k_ix (K := K) rfl) (pv 1) pe_int (fun _ _ => rfl)) (pa_cons (pe_ix (k_ix (K := K) rfl) (pv 1) pe_int (fun _ _ => rfl)) (pa_cons (pe_ix (k_ix (K := K) rfl) (pv 1) pe_int (fun _ _ => rfl)) (pa_cons pe_int pa_nil)))))) pa_nil))))) pss_nil)
      (pss_cons (ps_if (pt_cmpR (k_eq (K := K) rfl hr.units) (pv 2) pe_int (nomark _)) (pss_one (ps_ret (pe_tup (pa_cons (pe_mkK m_Part_at1_least_grow_shrink (hr.mono (by decide)) rfl (pa_cons (pe_ix (k_ix (K := K) rfl) (pv 1) pe_int (fun _ _ => rfl)) pa_nil) (pk_cons (pe_ix (k_ix (K := K) rfl) (pv 1) pe_int (fun _ _ => rfl)) (pk_cons (pe_ix (k_ix (K := K) rfl) (pv 1) pe_int (fun _ _ => rfl)) (pk_cons (pe_ix (k_ix (K := K) rfl) (pv 1) pe_int (fun _ _ => rfl)) pk_nil)))) (pa_cons (pe_tup (pa_cons (pe_ix (k_ix (K := K) rfl) (pv 1) pe_int (fun _ _ => rfl)) (pa_cons (pe_ix (k_ix (K := K) rfl) (pv 1) pe_int (fun _ _ => rfl)) (pa_cons pe_non (pa_cons (pe_ix (k_ix (K := K) rfl) (pv 1) pe_int (fun _ _ => rfl)) (pa_cons (pe_ix (k_ix (K := K) rfl) (pv 1) pe_int (fun _ _ => rfl)) pa_nil)))))) pa_nil))))) pss_nil)
      (pss_one (ps_ret (pe_tup (pa_cons (pe_mkK0 m_Part_at0_base_greatest (hr.mono (by decide)) rfl (pk_cons (pe_ix (k_ix (K := K) rfl) (pv 1) pe_int (fun _ _ => rfl)) (pk_cons (pe_ix (k_ix (K := K) rfl) (pv 1) pe_int (fun _ _ => rfl)) pk_nil))) (pa_cons (pe_tup (pa_cons (pe_ix (k_ix (K := K) rfl) (pv 1) pe_int (fun _ _ => rfl)) (pa_cons pe_int (pa_cons (pe_ix (k_ix (K := K) rfl) (pv 1) pe_int (fun _ _ => rfl)) (pa_cons pe_int (pa_cons pe_int pa_nil)))))) pa_nil))))))))))), ?_⟩
    try dsimp only [cxOf, Cx.nox, Cx.wish, Cx.blk]
    have l0 := ok.l0; have lb := ok.lb; have bm := ok.bm; have w0 := ok.w0; have w1 := ok.w1; have s0 := ok.s0; have s1 := ok.s1
    obtain ⟨ug, hug⟩ : ∃ v, Is I v g := by
      obtain ⟨_, us, rfl, _, au⟩ := hu.tup_ex
      cases au with | cons _ au =>
      cases au with | cons _ au =>
      cases au with | cons h _ =>
      exact ⟨_, h⟩
    walk_at "go"
    refine use_take ww hb (by omega) (by omega) fun v o1 H1 v0 v1 hb1 ww1 => ?_
    walk_at "go"
    walk_at "fork"
    · walk_at "go"
      refine use_Part ww1 (u := .non) .non ⟨by omega, by omega, bm, .inl rfl, by omega, by omega, by omega, by omega⟩ fun r J2 H2 e2 ww2 h2 => ?_
      have hu2 := hu.mono e2
      walk_at "go"
      refine s_newT ww2 (by walk_at "isa") (by simp) fun p J3 H3 e3 _ ww3 h3 => ?_
      walk_at "go"
      refine s_newT ww3 (.cons (h2.mono e3) (.cons h3 .nil)) (by simp) fun p J4 H4 e4 _ ww4 h4 => ?_
      exact k _ J4 o1 H4 _ _ _ _ _ ((e2.trans e3).trans e4) ⟨by omega, by omega, bm, .inl rfl, by omega, by omega, by omega, by omega⟩ (((hb1.mono e2).mono e3).mono e4) ww4 h4
    walk_at "go"
    walk_at "fork"
    · walk_at "go"
      refine use_Part ww1 (u := .non) .non ⟨by omega, by omega, bm, .inl rfl, by omega, by omega, by omega, by omega⟩ fun r J2 H2 e2 ww2 h2 => ?_
      have hu2 := hu.mono e2
      walk_at "go"
      refine s_newT ww2 (by walk_at "isa") (by simp) fun p J3 H3 e3 _ ww3 h3 => ?_
      walk_at "go"
      refine s_newT ww3 (.cons (h2.mono e3) (.cons h3 .nil)) (by simp) fun p J4 H4 e4 _ ww4 h4 => ?_
      exact k _ J4 o1 H4 _ _ _ _ _ ((e2.trans e3).trans e4) ⟨by omega, by omega, bm, .inl rfl, by omega, by omega, by omega, by omega⟩ (((hb1.mono e2).mono e3).mono e4) ww4 h4
    walk_at "go"
    walk_at "fork"
    · walk_at "go"
      refine use_Part ww1 (by assumption) ⟨by omega, by omega, bm, ok.gr, by omega, by omega, by omega, by omega⟩ fun r J2 H2 e2 ww2 h2 => ?_
      have hu2 := hu.mono e2
      walk_at "go"
      refine s_newT ww2 (by walk_at "isa") (by simp) fun p J3 H3 e3 _ ww3 h3 => ?_
      walk_at "go"
      refine s_newT ww3 (.cons (h2.mono e3) (.cons h3 .nil)) (by simp) fun p J4 H4 e4 _ ww4 h4 => ?_
      exact k _ J4 o1 H4 _ _ _ _ _ ((e2.trans e3).trans e4) ⟨by omega, by omega, bm, ok.gr, by omega, by omega, by omega, by omega⟩ (((hb1.mono e2).mono e3).mono e4) ww4 h4
    walk_at "go"
    walk_at "fork"
    · walk_at "go"
      refine use_Part ww1 (by assumption) ⟨by omega, by omega, bm, ok.gr, by omega, by omega, by omega, by omega⟩ fun r J2 H2 e2 ww2 h2 => ?_
      have hu2 := hu.mono e2
      walk_at "go"
      refine s_newT ww2 (by walk_at "isa") (by simp) fun p J3 H3 e3 _ ww3 h3 => ?_
      walk_at "go"
      refine s_newT ww3 (.cons (h2.mono e3) (.cons h3 .nil)) (by simp) fun p J4 H4 e4 _ ww4 h4 => ?_
      exact k _ J4 o1 H4 _ _ _ _ _ ((e2.trans e3).trans e4) ⟨by omega, by omega, bm, ok.gr, by omega, by omega, by omega, by omega⟩ (((hb1.mono e2).mono e3).mono e4) ww4 h4
    walk_at "go"
    walk_at "fork"
    · walk_at "go"
      refine ⟨rfl, rfl, s_mkKQ (us := [.int a, .int l, .non, .int w, .int s]) (fun _ => rfl) ?_⟩
      refine use_Part (b := a) (l := l) (w := w) (s := s) ww1 (u := .non) .non ⟨by omega, by omega, bm, .inl rfl, by omega, by omega, by omega, by omega⟩ fun r J2 H2 e2 ww2 h2 => ?_
      have hu2 := hu.mono e2
      walk_at "go"
      refine s_newT ww2 (by walk_at "isa") (by simp) fun p J3 H3 e3 _ ww3 h3 => ?_
      walk_at "go"
      refine s_newT ww3 (.cons (h2.mono e3) (.cons h3 .nil)) (by simp) fun p J4 H4 e4 _ ww4 h4 => ?_
      exact k _ J4 o1 H4 _ _ _ _ _ ((e2.trans e3).trans e4) ⟨by omega, by omega, bm, .inl rfl, by omega, by omega, by omega, by omega⟩ (((hb1.mono e2).mono e3).mono e4) ww4 h4
    walk_at "go"
    refine ⟨rfl, rfl, s_mkKQ (us := [.int a, .int 0, _, .int 1, .int 1]) (fun _ => rfl) ?_⟩
    refine use_Part (b := a) (l := 0) (w := 1) (s := 1) ww1 (by assumption) ⟨by omega, by omega, bm, ok.gr, by omega, by omega, by omega, by omega⟩ fun r J2 H2 e2 ww2 h2 => ?_
    have hu2 := hu.mono e2
    walk_at "go"
    refine s_newT ww2 (by walk_at "isa") (by simp) fun p J3 H3 e3 _ ww3 h3 => ?_
    walk_at "go"
    refine s_newT ww3 (.cons (h2.mono e3) (.cons h3 .nil)) (by simp) fun p J4 H4 e4 _ ww4 h4 => ?_
    exact k _ J4 o1 H4 _ _ _ _ _ ((e2.trans e3).trans e4) ⟨by omega, by omega, bm, ok.gr, by omega, by omega, by omega, by omega⟩ (((hb1.mono e2).mono e3).mono e4) ww4 h4
def sp_law (K : PySem.W.Frag) : Sp := fun vs H Q _ => ∃ a, ∃ ns : List Int, vs = [.ref a] ∧ SqL K H a (ns.map V.int) ∧ Only H ∧ ns.length ≤ 63 ∧ (∀ z ∈ ns, Builtin.Int.intBits z ≤ 1048576) ∧ ∀ H', Q (.bl true) H'

abbrev s_law : Stmt := top 30
theorem sc_law : FnScope ["_law_script", "_law_bag_here", "_law_one", "_law_other", "_law_pairs", "_law_prices", "_law_k", "_law_price_here", "_law_part_here", "_law_row"] ["_law_script"] (defScope s_law) := ⟨rfl, rfl, rfl, by decide +kernel, rfl, by decide +kernel, by decide +kernel⟩
def PrD (C : Addr) (d : D) : Prop := ∃ a l g w s, d = .tup [prt C a l g w s, rowD a l g w s] ∧ PartOk a l g w s

theorem ok_law {f : Addr} {fd : FuncData} (F : Fun K "law" "law" s_law f fd) (B : Bn mg) (c__law_bag : Cal P w K mg base "_law_bag" 1 ["_law_script"] [] (sp__law_bag K)) (c__law_part : Cal P w K mg base "_law_part" 4 ["_law_bag_here"] [] sp__law_part) (c__law_shorter : Cal P w K mg base "_law_shorter" 5 ["_law_bag_here", "_law_row"] [] (sp__law_shorter C_Part)) (c__law_price : Cal P w K mg base "_law_price" 3 ["_law_bag_here", "_law_row"] [] sp__law_price) (c__law_alike : Cal P w K mg base "_law_alike" 2 ["_law_found", "_law_due"] [] sp__law_alike) (c__law_size : Cal P w K mg base "_law_size" 3 ["_law_row", "_law_price_here"] [] sp__law_size) (c__law_fields : Cal P w K mg base "_law_fields" 2 ["_law_part_here", "_law_row"] [] (sp__law_fields C_Part)) (m_Part : Mak P w K mg base "Part" C_Part 3 ["self", "base", "least", "greatest", "grow", "shrink"] [] (sp_Part___init__ C_Part)) (t_Part_size_at : Met P w K mg base "size_at" C_Part 3 ["self", "price"] [] (sp_Part_size_at C_Part))  : FnOk P w K mg base CX0 6 f fd ["_law_script"] (sp_law K) := by
  refine F.ok sc_law (fun vs H Q E h => ?_) (fun cdv A outer s H vs Q E hr h => ?_)
  · obtain ⟨a, ns, rfl, hS, hO, hl, hbits, k⟩ := h
    rfl
  · obtain ⟨a, ns, rfl, hS, hO, hl, hbits, k⟩ := h
    refine ⟨_, (pss_cons (ps_set (i := 1) sc_law.nd rfl (Or.inl rfl) (pe_cal c__law_bag (hr.mono (by decide)) (by rfl) (pa_cons (pv 0) pa_nil)))
      (pss_cons (ps_set (i := 2) sc_law.nd rfl (Or.inl rfl) (pe_cal c__law_part (hr.mono (by decide)) (by rfl) (pa_cons (pv 1) pa_nil)))
      (pss_cons (ps_set (i := 3) sc_law.nd rfl (Or.inl rfl) (pe_cal c__law_part (hr.mono (by decide)) (by rfl) (pa_cons (pv 1) pa_nil)))
      (pss_cons (ps_set (i := 4) sc_law.nd rfl (Or.inl rfl) (pe_lst (pa_cons (pe_tup (pa_cons (pe_mk m_Part (hr.mono (by decide)) rfl (pa_cons (pe_ix (k_ix (K := K) rfl) (pv 2) pe_int (fun _ _ => rfl)) (pa_cons (pe_ix (k_ix (K := K) rfl) (pv 2) pe_int (fun _ _ => rfl)) (pa_cons (pe_ix (k_ix (K := K) rfl) (pv 2) pe_int (fun _ _ => rfl)) (pa_cons (pe_ix (k_ix (K := K) rfl) (pv 2) pe_int (fun _ _ => rfl)) (pa_cons (pe_ix (k_ix (K := K) rfl) (pv 2) pe_int (fun _ _ => rfl)) pa_nil)))))) (pa_cons (pv 2) pa_nil))) pa_nil)))
      (pss_cons (ps_expr (pe_bm PySem.F.plainAttrs_list PySem.F.slot_list_append PySem.F.type_list_append mt_append (pv 4) (pa_cons (pe_tup (pa_cons (pe_mk m_Part (hr.mono (by decide)) rfl (pa_cons (pe_ix (k_ix (K := K) rfl) (pv 3) pe_int (fun _ _ => rfl)) (pa_cons (pe_ix (k_ix (K := K) rfl) (pv 3) pe_int (fun _ _ => rfl)) (pa_cons (pe_ix (k_ix (K := K) rfl) (pv 3) pe_int (fun _ _ => rfl)) (pa_cons (pe_ix (k_ix (K := K) rfl) (pv 3) pe_int (fun _ _ => rfl)) (pa_cons (pe_ix (k_ix (K := K) rfl) (pv 3) pe_int (fun _ _ => rfl)) pa_nil)))))) (pa_cons (pv 3) pa_nil))) pa_nil)))
      (pss_cons (ps_expr (pe_bm PySem.F.plainAttrs_list PySem.F.slot_list_append PySem.F.type_list_append mt_append (pv 4) (pa_cons (pe_cal c__law_shorter (hr.mono (by decide)) (by rfl) (pa_cons (pv 1) (pa_cons (pv 2) pa_nil))) pa_nil)))
      (pss_cons (ps_set (i := 5) sc_law.nd rfl (Or.inl rfl) (pe_lst pa_nil))
      (pss_cons (ps_for PassesOwn.never rfl (pi_range1 (by rfl) B.range_ (pa_cons pe_int pa_nil)) (pg_name (i := 6) sc_law.nd rfl (Or.inl rfl)) (pss_one (ps_expr (pe_bm PySem.F.plainAttrs_list PySem.F.slot_list_append PySem.F.type_list_append mt_append (pv 5) (pa_cons (pe_cal c__law_price (hr.mono (by decide)) (by rfl) (pa_cons (pv 1) (pa_cons (pe_ix (k_ix (K := K) rfl) (pe_lst (pa_cons (pv 2) (pa_cons (pv 3) pa_nil))) (pe_op op_mod (pv 6) pe_int) (fun _ _ => rfl)) pa_nil))) pa_nil)))))
      (pss_cons (ps_expr (pe_bm PySem.F.plainAttrs_list PySem.F.slot_list_append PySem.F.type_list_append mt_append (pv 5) (pa_cons (pe_tup (pa_cons pe_int (pa_cons pe_int pa_nil))) pa_nil)))
      (pss_cons (ps_for PassesOwn.never rfl (kpi_list (K := K) rfl (pe_op (k_add (K := K) rfl) (pv 5) (pe_revL (pv 5)))) (pg_name (i := 7) sc_law.nd rfl (Or.inl rfl)) (pss_one (ps_for PassesOwn.never rfl (kpi_list (K := K) rfl (pv 4)) (kpg_tup (K := K) rfl rfl (pgs_cons (pg_name (i := 8) sc_law.nd rfl (Or.inl rfl)) (pgs_cons (pg_name (i := 9) sc_law.nd rfl (Or.inl rfl)) pgs_nil))) (pss_one (ps_if (pt_not (pt_val (pe_cal c__law_alike (hr.mono (by decide)) (by rfl) (pa_cons (pe_met (pv 8) t_Part_size_at (hr.mono (by decide)) (pa_cons (pv 7) pa_nil)) (pa_cons (pe_cal c__law_size (hr.mono (by decide)) (by rfl) (pa_cons (pv 9) (pa_cons (pv 7) pa_nil))) pa_nil))))) (pss_one (ps_ret pe_bl)) pss_nil)))))
      (pss_cons (ps_for PassesOwn.never rfl (kpi_list (K := K) rfl (pv 4)) (kpg_tup (K := K) rfl rfl (pgs_cons (pg_name (i := 8) sc_law.nd rfl (Or.inl rfl)) (pgs_cons (pg_name (i := 9) sc_law.nd rfl (Or.inl rfl)) pgs_nil))) (pss_one (ps_if (pt_not (pt_val (pe_cal c__law_fields (hr.mono (by decide)) (by rfl) (pa_cons (pv 8) (pa_cons (pv 9) pa_nil))))) (pss_one (ps_ret pe_bl)) pss_nil)))
      (pss_one (ps_ret pe_bl))))))))))))), ?_⟩
    try dsimp only [cxOf, Cx.nox, Cx.wish, Cx.blk]
    walk_at "go"
    refine use_bag hS fun b c o J0 H0 w0 hb0 => ?_
    walk_at "go"
    refine use_part w0 hb0 fun r1 J1 o1 H1 a1 l1 g1 x1 y1 e1 ok1 hb1 w1 h1 => ?_
    walk_at "go"
    refine use_part w1 hb1 fun r2 J2 o2 H2 a2 l2 g2 x2 y2 e2 ok2 hb2 w2 h2 => ?_
    have h12 := h1.mono e2
    walk_at "go"
    refine use_Part w2 (by assumption) ok1 fun p1 J3 H3 e3 w3 hp1 => ?_
    have h13 := h12.mono e3
    have h23 := h2.mono e3
    walk_at "go"
    refine s_newT w3 (.cons hp1 (.cons h13 .nil)) (by simp) fun t1 J4 H4 e4 _ w4 ht1 => ?_
    have h14 := h13.mono e4
    have h24 := h23.mono e4
    have hb4 := (hb2.mono e3).mono e4
    walk_at "go"
    refine s_newM2 w4 (by simp) fun pl H5 w5 => ?_
    walk_at "go"
    refine use_Part w5 (by assumption) ok2 fun p2 J6 H6 e6 w6 hp2 => ?_
    have h16 := h14.mono e6
    have h26 := h24.mono e6
    walk_at "go"
    refine s_newT w6 (.cons hp2 (.cons h26 .nil)) (by simp) fun t2 J7 H7 e7 _ w7 ht2 => ?_
    have h17 := h16.mono e7
    have h27 := h26.mono e7
    walk_at "go"
    refine s_appW1 w7 (by simp) fun H8 w8 => ?_
    walk_at "go"
    refine use_shorter w8 ((hb4.mono e6).mono e7) h17 ok1 fun t3 J9 o9 H9 a3 l3 g3 x3 y3 e9 ok3 hb9 w9 ht3 => ?_
    have h19 := h17.mono e9
    have h29 := h27.mono e9
    walk_at "go"
    refine s_appW1 w9 (by simp) fun H10 w10 => ?_
    have hA : IsA J9 [.ref t1, .ref t2, t3] _ := .cons (((ht1.mono e6).mono e7).mono e9) (.cons (ht2.mono e9) (.cons ht3 .nil))
    obtain ⟨J11, e11, w11, hpl⟩ := w10.done1 hA
    have hpr : ∀ d ∈ [D.tup [prt C_Part a1 l1 g1 x1 y1, rowD a1 l1 g1 x1 y1], D.tup [prt C_Part a2 l2 g2 x2 y2, rowD a2 l2 g2 x2 y2], D.tup [prt C_Part a3 l3 g3 x3 y3, rowD a3 l3 g3 x3 y3]], PrD C_Part d := by
      intro d hd
      simp only [List.mem_cons, List.not_mem_nil, or_false] at hd
      rcases hd with rfl | rfl | rfl
      · exact ⟨_, _, _, _, _, rfl, ok1⟩
      · exact ⟨_, _, _, _, _, rfl, ok2⟩
      · exact ⟨_, _, _, _, _, rfl, ok3⟩
    have h1B := h19.mono e11
    have h2B := h29.mono e11
    have hbB := hb9.mono e11
    walk_at "go"
    refine s_newM2 w11 (by simp) fun l H12 w12 => ?_
    walk_at "go"
    refine s_rng1' (by omega) (by omega) ?_
    refine s_forR (fun i σ' H' => ∃ o' J' vs ds x6 x7 x8 x9, σ' = [some (.ref a), some (.ref b), some r1, some r2, some (.ref pl), some (.ref l), x6, x7, x8, x9] ∧ Same J11 J' ∧ Bag J' c o' ∧ W J' H' ((b, o') :: (l, .lst vs) :: []) ∧ IsA J' vs ds ∧ vs.length ≤ i ∧ ∀ d ∈ ds, ∃ q : Rat, d = frq q ∧ Sz 600 q) ⟨o9, J11, [], [], none, none, none, none, rfl, Same.refl _, hbB, w12, .nil, Nat.le_refl _, fun _ h => (nomatch h)⟩ ?_ ?_
    · rintro i σ' H' hi ⟨o', J', vs, ds, x6, x7, x8, x9, rfl, s, hb, w, hA, hlen, hgp⟩
      have hi' : i < 4 := by omega
      walk_at "go"
      refine s_newL w (by walk_at "isa") (by simp) fun t J6 H6 e6 _ w6 h6 => ?_
      walk_at "go"
      refine s_I (by decide) ?_
      walk_at "go"
      refine s_ixAny w6 h6 (by omega) (by simp only [List.length_cons, List.length_nil]; omega) fun d x hd hx => ?_
      obtain ⟨a0, l0, g0, x0, y0, rfl, ok0⟩ : ∃ a0 l0 g0 x0 y0, d = rowD a0 l0 g0 x0 y0 ∧ PartOk a0 l0 g0 x0 y0 := by
        rcases List.mem_cons.mp hd with h | h
        · exact ⟨_, _, _, _, _, h, ok1⟩
        · exact ⟨_, _, _, _, _, List.mem_singleton.mp h, ok2⟩
      walk_at "go"
      refine use_price w6 (hb.mono e6) hx ok0 fun r J7 o7 H7 q e7 hb7 w7 h7 hq => ?_
      walk_at "go"
      refine s_appW1 w7 (by omega) fun H8 w8 => ?_
      have sa := e6.trans e7
      exact ⟨o7, J7, _, _, _, _, _, _, rfl, (s.trans e6).trans e7, hb7, w8, (hA.mono sa).app (.one h7), by rw [List.length_append]; exact Nat.add_le_add_right hlen 1, fun d hd => by
        rcases List.mem_append.mp hd with h | h
        · exact hgp d h
        · rw [List.mem_singleton.mp h]
          exact ⟨q, rfl, hq⟩⟩
    · rintro σ' H' ⟨o', J', vs, ds, x6, x7, x8, x9, rfl, s, hb, w, hA, hlen, hgp⟩
      walk_at "go"
      refine s_newT w (by walk_at "isa") (by simp) fun t J4 H4 e4 _ w4 h4 => ?_
      walk_at "go"
      refine s_appW1 w4 (by omega) fun H8 w8 => ?_
      obtain ⟨J5, e5, w6, h6⟩ := w8.done1 ((hA.mono e4).app (.one h4))
      have s5 := (s.trans e4).trans e5
      have hpl5 := hpl.mono s5
      have hgp5 : ∀ d ∈ ds ++ [fr 0 1], ∃ q : Rat, d = frq q ∧ Sz 600 q := fun d hd => by
        rcases List.mem_append.mp hd with h | h
        · exact hgp d h
        · rw [List.mem_singleton.mp h]
          exact ⟨((0 : Int) : Rat), rfl, Sz.int (Bd.of 0 (by decide))⟩
      have hln : (ds ++ [fr 0 1]).length ≤ 8 := by
        have := hA.length
        rw [List.length_append, List.length_singleton]
        omega
      generalize ds ++ [fr 0 1] = es at *
      walk_at "go"
      refine s_rev' w6 h6 fun rv J7 H7 e7 _ w7 h7 => ?_
      refine s_catI w7 (h6.mono e7) h7 (by simp; omega) fun cc J8 H8 e8 _ w8 h8 => ?_
      have e78 := e7.trans e8
      have hpl8 := hpl5.mono e78
      walk_at "go"
      refine s_forL w8 h8 (fun i σ' Hx => ∃ J9, Same J8 J9 ∧ W J9 Hx ((b, o') :: []) ∧ ∃ x6 x7 x8 x9, σ' = [some (.ref a), some (.ref b), some r1, some r2, some (.ref pl), some (.ref l), x6, x7, x8, x9]) ⟨J8, Same.refl _, w8, _, _, _, _, rfl⟩ ?_ ?_ ?_
      · rintro i σ' Hx ⟨J9, s9, w9, _⟩
        exact s9.trans w9.imm
      · rintro i d x σ' Hx hd hx ⟨J9, s9, w9, y6, y7, y8, y9, rfl⟩
        have hm : d ∈ es := by
          have := List.mem_of_getElem? hd
          rcases List.mem_append.mp this with h | h
          · exact h
          · exact List.mem_reverse.mp h
        obtain ⟨q, rfl, hq⟩ := hgp5 d hm
        have hx9 := hx.mono s9
        have hpl9 := hpl8.mono s9
        walk_at "go"
        refine s_forL w9 hpl9 (fun i σ' Hx => ∃ J10, Same J9 J10 ∧ W J10 Hx ((b, o') :: []) ∧ ∃ x6 x8 x9, σ' = [some (.ref a), some (.ref b), some r1, some r2, some (.ref pl), some (.ref l), x6, some x, x8, x9]) ⟨J9, Same.refl _, w9, _, _, _, rfl⟩ ?_ ?_ ?_
        · rintro i σ' Hx ⟨J10, s10, w10, _⟩
          exact s10.trans w10.imm
        · rintro i d z σ' Hx hd hz ⟨J10, s10, w10, y6, y8, y9, rfl⟩
          obtain ⟨aa, ll, gg, ww, ss, rfl, okp⟩ := hpr d (List.mem_of_getElem? hd)
          refine s_gtup2 w10 (hz.mono s10) fun z1 z2 hz1 hz2 => ?_
          have hx10 := hx9.mono s10
          walk_at "go"
          refine s_methAt w10 hz1 (by simp only [List.map_cons, List.map_nil]; decide) ?_
          walk_at "go"
          refine use_size_at w10 hz1 hx10 okp (hq.mono (by decide)) fun r3 J11 H11 e11 w11 h11 => ?_
          walk_at "go"
          refine use_size w11 (hz2.mono e11) (hx10.mono e11) okp (hq.mono (by decide)) fun r4 J12 H12 e12 w12 h12 => ?_
          walk_at "go"
          refine use_alike w12 (h11.mono e12) h12 ?_
          walk_at "go"
          exact ⟨J12, (s10.trans e11).trans e12, w12, _, _, _, rfl⟩
        · rintro σ' Hx ⟨J10, s10, w10, y6, y8, y9, rfl⟩
          exact ⟨J10, s9.trans s10, w10, _, _, _, _, rfl⟩
      · rintro σ' Hx ⟨J9, s9, w9, y6, y7, y8, y9, rfl⟩
        have hpl9 := hpl8.mono s9
        walk_at "go"
        refine s_forL w9 hpl9 (fun i σ' Hx => ∃ J10, Same J9 J10 ∧ W J10 Hx ((b, o') :: []) ∧ ∃ x6 x7 x8 x9, σ' = [some (.ref a), some (.ref b), some r1, some r2, some (.ref pl), some (.ref l), x6, x7, x8, x9]) ⟨J9, Same.refl _, w9, _, _, _, _, rfl⟩ ?_ ?_ ?_
        · rintro i σ' Hx ⟨J10, s10, w10, _⟩
          exact s10.trans w10.imm
        · rintro i d z σ' Hx hd hz ⟨J10, s10, w10, y6, y7, y8, y9, rfl⟩
          obtain ⟨aa, ll, gg, ww, ss, rfl, okp⟩ := hpr d (List.mem_of_getElem? hd)
          refine s_gtup2 w10 (hz.mono s10) fun z1 z2 hz1 hz2 => ?_
          walk_at "go"
          refine use_fields w10 hz1 hz2 okp.gr fun J11 H11 e11 w11 => ?_
          walk_at "go"
          exact ⟨J11, s10.trans e11, w11, _, _, _, _, rfl⟩
        · rintro σ' Hx ⟨J10, s10, w10, y6, y7, y8, y9, rfl⟩
          walk_at "go"
          exact k _
end
theorem all_mk {l : PySem.W.OpenLaw} {w : World} {K : PySem.W.Frag} {h : Heap} {mg : Str → Option Value} {fa : Addr} (X : K.In h) (G : h.Ns mainGlobals mg) (hfa : mg "law" = some (.ref fa))
    {f_is_whole : Addr} {od_is_whole an_is_whole : Option Addr} {sl_is_whole : Array (Option Value)} {oc_is_whole kV_is_whole dc_is_whole pm_is_whole cd_is_whole ct_is_whole : Value}
    (a_is_whole : PySem.W.nsIn K mainGlobals "is_whole" = some (some (.ref f_is_whole)))
    (l_is_whole : K.lookup f_is_whole = some ⟨oc_is_whole, od_is_whole, .func (PySem.W.fnOf "is_whole" "is_whole" (defArgs s_is_whole) (defBody s_is_whole) (defScope s_is_whole) .none kV_is_whole dc_is_whole pm_is_whole an_is_whole cd_is_whole ct_is_whole), sl_is_whole⟩)
    (cc_is_whole : PySem.W.codeIn K cd_is_whole "is_whole" = true) (k_is_whole : PySem.W.keepIn K (.ref f_is_whole) = true)
    {f_is_length : Addr} {od_is_length an_is_length : Option Addr} {sl_is_length : Array (Option Value)} {oc_is_length kV_is_length dc_is_length pm_is_length cd_is_length ct_is_length : Value}
    (a_is_length : PySem.W.nsIn K mainGlobals "is_length" = some (some (.ref f_is_length)))
    (l_is_length : K.lookup f_is_length = some ⟨oc_is_length, od_is_length, .func (PySem.W.fnOf "is_length" "is_length" (defArgs s_is_length) (defBody s_is_length) (defScope s_is_length) .none kV_is_length dc_is_length pm_is_length an_is_length cd_is_length ct_is_length), sl_is_length⟩)
    (cc_is_length : PySem.W.codeIn K cd_is_length "is_length" = true) (k_is_length : PySem.W.keepIn K (.ref f_is_length) = true)
    {f_is_weight : Addr} {od_is_weight an_is_weight : Option Addr} {sl_is_weight : Array (Option Value)} {oc_is_weight kV_is_weight dc_is_weight pm_is_weight cd_is_weight ct_is_weight : Value}
    (a_is_weight : PySem.W.nsIn K mainGlobals "is_weight" = some (some (.ref f_is_weight)))
    (l_is_weight : K.lookup f_is_weight = some ⟨oc_is_weight, od_is_weight, .func (PySem.W.fnOf "is_weight" "is_weight" (defArgs s_is_weight) (defBody s_is_weight) (defScope s_is_weight) .none kV_is_weight dc_is_weight pm_is_weight an_is_weight cd_is_weight ct_is_weight), sl_is_weight⟩)
    (cc_is_weight : PySem.W.codeIn K cd_is_weight "is_weight" = true) (k_is_weight : PySem.W.keepIn K (.ref f_is_weight) = true)
    {f_divisor : Addr} {od_divisor an_divisor : Option Addr} {sl_divisor : Array (Option Value)} {oc_divisor kV_divisor dc_divisor pm_divisor cd_divisor ct_divisor : Value}
    (a_divisor : PySem.W.nsIn K mainGlobals "divisor" = some (some (.ref f_divisor)))
    (l_divisor : K.lookup f_divisor = some ⟨oc_divisor, od_divisor, .func (PySem.W.fnOf "divisor" "divisor" (defArgs s_divisor) (defBody s_divisor) (defScope s_divisor) .none kV_divisor dc_divisor pm_divisor an_divisor cd_divisor ct_divisor), sl_divisor⟩)
    (cc_divisor : PySem.W.codeIn K cd_divisor "divisor" = true) (k_divisor : PySem.W.keepIn K (.ref f_divisor) = true)
    {T_fraction : Addr} {to_fraction : Value} {td_fraction : Option Addr} {tn_fraction : Nat} {ts_fraction : Array (Option Value)} {tk_fraction_0 : Tok}
    {f_fraction : Addr} {od_fraction an_fraction : Option Addr} {sl_fraction : Array (Option Value)} {oc_fraction kV_fraction dc_fraction pm_fraction cd_fraction ct_fraction : Value}
    (a_fraction : PySem.W.nsIn K mainGlobals "fraction" = some (some (.ref f_fraction)))
    (l_fraction : K.lookup f_fraction = some ⟨oc_fraction, od_fraction, .func (PySem.W.fnOf "fraction" "fraction" (defArgs s_fraction) (defBody s_fraction) (defScope s_fraction) (.ref T_fraction) kV_fraction dc_fraction pm_fraction an_fraction cd_fraction ct_fraction), sl_fraction⟩)
    (cc_fraction : PySem.W.codeIn K cd_fraction "fraction" = true) (k_fraction : PySem.W.keepIn K (.ref f_fraction) = true)
    (dt_fraction : K.lookup T_fraction = some ⟨to_fraction, td_fraction, .seq [Value.int 1 tk_fraction_0].toArray tn_fraction, ts_fraction⟩)
    {f_is_below : Addr} {od_is_below an_is_below : Option Addr} {sl_is_below : Array (Option Value)} {oc_is_below kV_is_below dc_is_below pm_is_below cd_is_below ct_is_below : Value}
    (a_is_below : PySem.W.nsIn K mainGlobals "is_below" = some (some (.ref f_is_below)))
    (l_is_below : K.lookup f_is_below = some ⟨oc_is_below, od_is_below, .func (PySem.W.fnOf "is_below" "is_below" (defArgs s_is_below) (defBody s_is_below) (defScope s_is_below) .none kV_is_below dc_is_below pm_is_below an_is_below cd_is_below ct_is_below), sl_is_below⟩)
    (cc_is_below : PySem.W.codeIn K cd_is_below "is_below" = true) (k_is_below : PySem.W.keepIn K (.ref f_is_below) = true)
    {C_Part : Addr} (aC_Part : PySem.W.nsIn K mainGlobals "Part" = some (some (.ref C_Part)))
    (pg_Part : PySem.W.plainGet K C_Part Str.empty = true)
    (hd_Part : PySem.W.hasDictIn K C_Part = true)
    (po_Part : PySem.W.plainOver K C_Part = true)
    (sa_Part : PySem.W.findIn K (.ref C_Part) "__setattr__" = some (some (.builtin "object.__setattr__")))
    (mk_Part : PySem.W.makesIn K C_Part = true)
    (kc_Part : PySem.W.keepIn K (.ref C_Part) = true)
    (ha_Part : PySem.W.findIn K (.ref C_Part) "__class__" = some (some (.builtin "object.__class__")))
    (hn_Part : PySem.W.specialIn K (.builtin "object.__class__") "__get__" = some (some (.builtin "getset_descriptor.__get__")))
    (htk_Part : PySem.W.takesIn K (.builtin "object.__class__") = some true)
    (hm_Part : PySem.W.mroIn K C_Part (.type "object") = some true)
    (nf_Part_base : PySem.W.findIn K (.ref C_Part) "base" = some none)
    (nf_Part_least : PySem.W.findIn K (.ref C_Part) "least" = some none)
    (nf_Part_greatest : PySem.W.findIn K (.ref C_Part) "greatest" = some none)
    (nf_Part_grow : PySem.W.findIn K (.ref C_Part) "grow" = some none)
    (nf_Part_shrink : PySem.W.findIn K (.ref C_Part) "shrink" = some none)
    {T_Part___init__ : Addr} {to_Part___init__ : Value} {td_Part___init__ : Option Addr} {tn_Part___init__ : Nat} {ts_Part___init__ : Array (Option Value)} {tk_Part___init___0 tk_Part___init___2 tk_Part___init___3 : Tok}
    {f_Part___init__ : Addr} {od_Part___init__ an_Part___init__ : Option Addr} {sl_Part___init__ : Array (Option Value)} {oc_Part___init__ kV_Part___init__ dc_Part___init__ pm_Part___init__ cd_Part___init__ ct_Part___init__ : Value}
    (a_Part___init__ : PySem.W.findIn K (.ref C_Part) "__init__" = some (some (.ref f_Part___init__))) (i_Part___init__ : PySem.W.isFn K (.ref f_Part___init__) = true)
    (l_Part___init__ : K.lookup f_Part___init__ = some ⟨oc_Part___init__, od_Part___init__, .func (PySem.W.fnOf "__init__" "Part.__init__" (defArgs s_Part___init__) (defBody s_Part___init__) (defScope s_Part___init__) (.ref T_Part___init__) kV_Part___init__ dc_Part___init__ pm_Part___init__ an_Part___init__ cd_Part___init__ ct_Part___init__), sl_Part___init__⟩)
    (cc_Part___init__ : PySem.W.codeIn K cd_Part___init__ "Part.__init__" = true) (k_Part___init__ : PySem.W.keepIn K (.ref f_Part___init__) = true)
    (dt_Part___init__ : K.lookup T_Part___init__ = some ⟨to_Part___init__, td_Part___init__, .seq [Value.int 0 tk_Part___init___0, Value.none, Value.int 1 tk_Part___init___2, Value.int 1 tk_Part___init___3].toArray tn_Part___init__, ts_Part___init__⟩)
    {f_Part_size_at : Addr} {od_Part_size_at an_Part_size_at : Option Addr} {sl_Part_size_at : Array (Option Value)} {oc_Part_size_at kV_Part_size_at dc_Part_size_at pm_Part_size_at cd_Part_size_at ct_Part_size_at : Value}
    (a_Part_size_at : PySem.W.findIn K (.ref C_Part) "size_at" = some (some (.ref f_Part_size_at))) (i_Part_size_at : PySem.W.isFn K (.ref f_Part_size_at) = true)
    (l_Part_size_at : K.lookup f_Part_size_at = some ⟨oc_Part_size_at, od_Part_size_at, .func (PySem.W.fnOf "size_at" "Part.size_at" (defArgs s_Part_size_at) (defBody s_Part_size_at) (defScope s_Part_size_at) .none kV_Part_size_at dc_Part_size_at pm_Part_size_at an_Part_size_at cd_Part_size_at ct_Part_size_at), sl_Part_size_at⟩)
    (cc_Part_size_at : PySem.W.codeIn K cd_Part_size_at "Part.size_at" = true) (k_Part_size_at : PySem.W.keepIn K (.ref f_Part_size_at) = true)
    {f__law_bag : Addr} {od__law_bag an__law_bag : Option Addr} {sl__law_bag : Array (Option Value)} {oc__law_bag kV__law_bag dc__law_bag pm__law_bag cd__law_bag ct__law_bag : Value}
    (a__law_bag : PySem.W.nsIn K mainGlobals "_law_bag" = some (some (.ref f__law_bag)))
    (l__law_bag : K.lookup f__law_bag = some ⟨oc__law_bag, od__law_bag, .func (PySem.W.fnOf "_law_bag" "_law_bag" (defArgs s__law_bag) (defBody s__law_bag) (defScope s__law_bag) .none kV__law_bag dc__law_bag pm__law_bag an__law_bag cd__law_bag ct__law_bag), sl__law_bag⟩)
    (cc__law_bag : PySem.W.codeIn K cd__law_bag "_law_bag" = true) (k__law_bag : PySem.W.keepIn K (.ref f__law_bag) = true)
    {f__law_take : Addr} {od__law_take an__law_take : Option Addr} {sl__law_take : Array (Option Value)} {oc__law_take kV__law_take dc__law_take pm__law_take cd__law_take ct__law_take : Value}
    (a__law_take : PySem.W.nsIn K mainGlobals "_law_take" = some (some (.ref f__law_take)))
    (l__law_take : K.lookup f__law_take = some ⟨oc__law_take, od__law_take, .func (PySem.W.fnOf "_law_take" "_law_take" (defArgs s__law_take) (defBody s__law_take) (defScope s__law_take) .none kV__law_take dc__law_take pm__law_take an__law_take cd__law_take ct__law_take), sl__law_take⟩)
    (cc__law_take : PySem.W.codeIn K cd__law_take "_law_take" = true) (k__law_take : PySem.W.keepIn K (.ref f__law_take) = true)
    {f__law_whole : Addr} {od__law_whole an__law_whole : Option Addr} {sl__law_whole : Array (Option Value)} {oc__law_whole kV__law_whole dc__law_whole pm__law_whole cd__law_whole ct__law_whole : Value}
    (a__law_whole : PySem.W.nsIn K mainGlobals "_law_whole" = some (some (.ref f__law_whole)))
    (l__law_whole : K.lookup f__law_whole = some ⟨oc__law_whole, od__law_whole, .func (PySem.W.fnOf "_law_whole" "_law_whole" (defArgs s__law_whole) (defBody s__law_whole) (defScope s__law_whole) .none kV__law_whole dc__law_whole pm__law_whole an__law_whole cd__law_whole ct__law_whole), sl__law_whole⟩)
    (cc__law_whole : PySem.W.codeIn K cd__law_whole "_law_whole" = true) (k__law_whole : PySem.W.keepIn K (.ref f__law_whole) = true)
    {f__law_divisor : Addr} {od__law_divisor an__law_divisor : Option Addr} {sl__law_divisor : Array (Option Value)} {oc__law_divisor kV__law_divisor dc__law_divisor pm__law_divisor cd__law_divisor ct__law_divisor : Value}
    (a__law_divisor : PySem.W.nsIn K mainGlobals "_law_divisor" = some (some (.ref f__law_divisor)))
    (l__law_divisor : K.lookup f__law_divisor = some ⟨oc__law_divisor, od__law_divisor, .func (PySem.W.fnOf "_law_divisor" "_law_divisor" (defArgs s__law_divisor) (defBody s__law_divisor) (defScope s__law_divisor) .none kV__law_divisor dc__law_divisor pm__law_divisor an__law_divisor cd__law_divisor ct__law_divisor), sl__law_divisor⟩)
    (cc__law_divisor : PySem.W.codeIn K cd__law_divisor "_law_divisor" = true) (k__law_divisor : PySem.W.keepIn K (.ref f__law_divisor) = true)
    {f__law_lowest : Addr} {od__law_lowest an__law_lowest : Option Addr} {sl__law_lowest : Array (Option Value)} {oc__law_lowest kV__law_lowest dc__law_lowest pm__law_lowest cd__law_lowest ct__law_lowest : Value}
    (a__law_lowest : PySem.W.nsIn K mainGlobals "_law_lowest" = some (some (.ref f__law_lowest)))
    (l__law_lowest : K.lookup f__law_lowest = some ⟨oc__law_lowest, od__law_lowest, .func (PySem.W.fnOf "_law_lowest" "_law_lowest" (defArgs s__law_lowest) (defBody s__law_lowest) (defScope s__law_lowest) .none kV__law_lowest dc__law_lowest pm__law_lowest an__law_lowest cd__law_lowest ct__law_lowest), sl__law_lowest⟩)
    (cc__law_lowest : PySem.W.codeIn K cd__law_lowest "_law_lowest" = true) (k__law_lowest : PySem.W.keepIn K (.ref f__law_lowest) = true)
    {f__law_alike : Addr} {od__law_alike an__law_alike : Option Addr} {sl__law_alike : Array (Option Value)} {oc__law_alike kV__law_alike dc__law_alike pm__law_alike cd__law_alike ct__law_alike : Value}
    (a__law_alike : PySem.W.nsIn K mainGlobals "_law_alike" = some (some (.ref f__law_alike)))
    (l__law_alike : K.lookup f__law_alike = some ⟨oc__law_alike, od__law_alike, .func (PySem.W.fnOf "_law_alike" "_law_alike" (defArgs s__law_alike) (defBody s__law_alike) (defScope s__law_alike) .none kV__law_alike dc__law_alike pm__law_alike an__law_alike cd__law_alike ct__law_alike), sl__law_alike⟩)
    (cc__law_alike : PySem.W.codeIn K cd__law_alike "_law_alike" = true) (k__law_alike : PySem.W.keepIn K (.ref f__law_alike) = true)
    {f__law_length : Addr} {od__law_length an__law_length : Option Addr} {sl__law_length : Array (Option Value)} {oc__law_length kV__law_length dc__law_length pm__law_length cd__law_length ct__law_length : Value}
    (a__law_length : PySem.W.nsIn K mainGlobals "_law_length" = some (some (.ref f__law_length)))
    (l__law_length : K.lookup f__law_length = some ⟨oc__law_length, od__law_length, .func (PySem.W.fnOf "_law_length" "_law_length" (defArgs s__law_length) (defBody s__law_length) (defScope s__law_length) .none kV__law_length dc__law_length pm__law_length an__law_length cd__law_length ct__law_length), sl__law_length⟩)
    (cc__law_length : PySem.W.codeIn K cd__law_length "_law_length" = true) (k__law_length : PySem.W.keepIn K (.ref f__law_length) = true)
    {f__law_weight : Addr} {od__law_weight an__law_weight : Option Addr} {sl__law_weight : Array (Option Value)} {oc__law_weight kV__law_weight dc__law_weight pm__law_weight cd__law_weight ct__law_weight : Value}
    (a__law_weight : PySem.W.nsIn K mainGlobals "_law_weight" = some (some (.ref f__law_weight)))
    (l__law_weight : K.lookup f__law_weight = some ⟨oc__law_weight, od__law_weight, .func (PySem.W.fnOf "_law_weight" "_law_weight" (defArgs s__law_weight) (defBody s__law_weight) (defScope s__law_weight) .none kV__law_weight dc__law_weight pm__law_weight an__law_weight cd__law_weight ct__law_weight), sl__law_weight⟩)
    (cc__law_weight : PySem.W.codeIn K cd__law_weight "_law_weight" = true) (k__law_weight : PySem.W.keepIn K (.ref f__law_weight) = true)
    {f__law_part : Addr} {od__law_part an__law_part : Option Addr} {sl__law_part : Array (Option Value)} {oc__law_part kV__law_part dc__law_part pm__law_part cd__law_part ct__law_part : Value}
    (a__law_part : PySem.W.nsIn K mainGlobals "_law_part" = some (some (.ref f__law_part)))
    (l__law_part : K.lookup f__law_part = some ⟨oc__law_part, od__law_part, .func (PySem.W.fnOf "_law_part" "_law_part" (defArgs s__law_part) (defBody s__law_part) (defScope s__law_part) .none kV__law_part dc__law_part pm__law_part an__law_part cd__law_part ct__law_part), sl__law_part⟩)
    (cc__law_part : PySem.W.codeIn K cd__law_part "_law_part" = true) (k__law_part : PySem.W.keepIn K (.ref f__law_part) = true)
    {f__law_size : Addr} {od__law_size an__law_size : Option Addr} {sl__law_size : Array (Option Value)} {oc__law_size kV__law_size dc__law_size pm__law_size cd__law_size ct__law_size : Value}
    (a__law_size : PySem.W.nsIn K mainGlobals "_law_size" = some (some (.ref f__law_size)))
    (l__law_size : K.lookup f__law_size = some ⟨oc__law_size, od__law_size, .func (PySem.W.fnOf "_law_size" "_law_size" (defArgs s__law_size) (defBody s__law_size) (defScope s__law_size) .none kV__law_size dc__law_size pm__law_size an__law_size cd__law_size ct__law_size), sl__law_size⟩)
    (cc__law_size : PySem.W.codeIn K cd__law_size "_law_size" = true) (k__law_size : PySem.W.keepIn K (.ref f__law_size) = true)
    {f__law_price : Addr} {od__law_price an__law_price : Option Addr} {sl__law_price : Array (Option Value)} {oc__law_price kV__law_price dc__law_price pm__law_price cd__law_price ct__law_price : Value}
    (a__law_price : PySem.W.nsIn K mainGlobals "_law_price" = some (some (.ref f__law_price)))
    (l__law_price : K.lookup f__law_price = some ⟨oc__law_price, od__law_price, .func (PySem.W.fnOf "_law_price" "_law_price" (defArgs s__law_price) (defBody s__law_price) (defScope s__law_price) .none kV__law_price dc__law_price pm__law_price an__law_price cd__law_price ct__law_price), sl__law_price⟩)
    (cc__law_price : PySem.W.codeIn K cd__law_price "_law_price" = true) (k__law_price : PySem.W.keepIn K (.ref f__law_price) = true)
    {f__law_fields : Addr} {od__law_fields an__law_fields : Option Addr} {sl__law_fields : Array (Option Value)} {oc__law_fields kV__law_fields dc__law_fields pm__law_fields cd__law_fields ct__law_fields : Value}
    (a__law_fields : PySem.W.nsIn K mainGlobals "_law_fields" = some (some (.ref f__law_fields)))
    (l__law_fields : K.lookup f__law_fields = some ⟨oc__law_fields, od__law_fields, .func (PySem.W.fnOf "_law_fields" "_law_fields" (defArgs s__law_fields) (defBody s__law_fields) (defScope s__law_fields) .none kV__law_fields dc__law_fields pm__law_fields an__law_fields cd__law_fields ct__law_fields), sl__law_fields⟩)
    (cc__law_fields : PySem.W.codeIn K cd__law_fields "_law_fields" = true) (k__law_fields : PySem.W.keepIn K (.ref f__law_fields) = true)
    {f__law_shorter : Addr} {od__law_shorter an__law_shorter : Option Addr} {sl__law_shorter : Array (Option Value)} {oc__law_shorter kV__law_shorter dc__law_shorter pm__law_shorter cd__law_shorter ct__law_shorter : Value}
    (a__law_shorter : PySem.W.nsIn K mainGlobals "_law_shorter" = some (some (.ref f__law_shorter)))
    (l__law_shorter : K.lookup f__law_shorter = some ⟨oc__law_shorter, od__law_shorter, .func (PySem.W.fnOf "_law_shorter" "_law_shorter" (defArgs s__law_shorter) (defBody s__law_shorter) (defScope s__law_shorter) .none kV__law_shorter dc__law_shorter pm__law_shorter an__law_shorter cd__law_shorter ct__law_shorter), sl__law_shorter⟩)
    (cc__law_shorter : PySem.W.codeIn K cd__law_shorter "_law_shorter" = true) (k__law_shorter : PySem.W.keepIn K (.ref f__law_shorter) = true)
    {f_law : Addr} {od_law an_law : Option Addr} {sl_law : Array (Option Value)} {oc_law kV_law dc_law pm_law cd_law ct_law : Value}
    (a_law : PySem.W.nsIn K mainGlobals "law" = some (some (.ref f_law)))
    (l_law : K.lookup f_law = some ⟨oc_law, od_law, .func (PySem.W.fnOf "law" "law" (defArgs s_law) (defBody s_law) (defScope s_law) .none kV_law dc_law pm_law an_law cd_law ct_law), sl_law⟩)
    (cc_law : PySem.W.codeIn K cd_law "law" = true) (k_law : PySem.W.keepIn K (.ref f_law) = true)
    (z_len : PySem.W.nsIn K mainGlobals "len" = some none)
    (z_abs : PySem.W.nsIn K mainGlobals "abs" = some none)
    (z_isinstance : PySem.W.nsIn K mainGlobals "isinstance" = some none)
    (z_min : PySem.W.nsIn K mainGlobals "min" = some none)
    (z_max : PySem.W.nsIn K mainGlobals "max" = some none)
    (z_sum : PySem.W.nsIn K mainGlobals "sum" = some none)
    (z_sorted : PySem.W.nsIn K mainGlobals "sorted" = some none)
    (z_range : PySem.W.nsIn K mainGlobals "range" = some none)
    (z_zip : PySem.W.nsIn K mainGlobals "zip" = some none)
    (z_enumerate : PySem.W.nsIn K mainGlobals "enumerate" = some none)
    (z_reversed : PySem.W.nsIn K mainGlobals "reversed" = some none)
    (z_int : PySem.W.nsIn K mainGlobals "int" = some none)
    (z_bool : PySem.W.nsIn K mainGlobals "bool" = some none)
    (z_tuple : PySem.W.nsIn K mainGlobals "tuple" = some none)
    (z_list : PySem.W.nsIn K mainGlobals "list" = some none)
    (z_str : PySem.W.nsIn K mainGlobals "str" = some none)
    (z_dict : PySem.W.nsIn K mainGlobals "dict" = some none)
    (z_ValueError : PySem.W.nsIn K mainGlobals "ValueError" = some none)
    (z_set : PySem.W.nsIn K mainGlobals "set" = some none)
    (z_any : PySem.W.nsIn K mainGlobals "any" = some none)
    (z_all : PySem.W.nsIn K mainGlobals "all" = some none)
    {t_LENGTH : Tok} (n_LENGTH : PySem.W.nsIn K mainGlobals "LENGTH" = some (some (.int 1000000000000 t_LENGTH)))
    {t_WEIGHT : Tok} (n_WEIGHT : PySem.W.nsIn K mainGlobals "WEIGHT" = some (some (.int 1000 t_WEIGHT)))
    : ∃ fd : FuncData, (∀ (s : Shared) (v : Value), BindsTo s fd ⟨[v], []⟩ [("_law_script", v)]) ∧ ∀ base : Heap, K.In base → base.Ns mainGlobals mg → FnOk l.prog w K mg base CX0 6 fa fd ["_law_script"] (sp_law K) := by
  have e := hfa.symm.trans (PySem.W.mg_of X G a_law)
  cases e
  have B : Bn mg := ⟨PySem.W.mg_none_of X G z_len, PySem.W.mg_none_of X G z_abs, PySem.W.mg_none_of X G z_isinstance, PySem.W.mg_none_of X G z_min, PySem.W.mg_none_of X G z_max, PySem.W.mg_none_of X G z_sum, PySem.W.mg_none_of X G z_sorted, PySem.W.mg_none_of X G z_range, PySem.W.mg_none_of X G z_zip, PySem.W.mg_none_of X G z_enumerate, PySem.W.mg_none_of X G z_reversed, PySem.W.mg_none_of X G z_int, PySem.W.mg_none_of X G z_bool, PySem.W.mg_none_of X G z_tuple, PySem.W.mg_none_of X G z_list, PySem.W.mg_none_of X G z_str, PySem.W.mg_none_of X G z_dict, PySem.W.mg_none_of X G z_ValueError, PySem.W.mg_none_of X G z_set, PySem.W.mg_none_of X G z_any, PySem.W.mg_none_of X G z_all⟩
  have g_LENGTH : ∃ t, mg "LENGTH" = some (.int 1000000000000 t) := ⟨_, PySem.W.mg_of X G n_LENGTH⟩
  have g_WEIGHT : ∃ t, mg "WEIGHT" = some (.int 1000 t) := ⟨_, PySem.W.mg_of X G n_WEIGHT⟩
  have o_Part : OwnC K C_Part := ⟨⟨pg_Part, hd_Part, po_Part, sa_Part⟩, ha_Part, hn_Part, htk_Part, hm_Part⟩
  have n_Part : ∀ f ∈ (["base", "least", "greatest", "grow", "shrink"] : List Str), NoAttr K C_Part f := (List.forall_mem_cons.2 ⟨nf_Part_base, (List.forall_mem_cons.2 ⟨nf_Part_least, (List.forall_mem_cons.2 ⟨nf_Part_greatest, (List.forall_mem_cons.2 ⟨nf_Part_grow, (List.forall_mem_cons.2 ⟨nf_Part_shrink, (fun _ z => nomatch z)⟩)⟩)⟩)⟩)⟩)
  have F_is_whole := fun_mk (st := s_is_whole) l_is_whole cc_is_whole k_is_whole
  have F_is_length := fun_mk (st := s_is_length) l_is_length cc_is_length k_is_length
  have F_is_weight := fun_mk (st := s_is_weight) l_is_weight cc_is_weight k_is_weight
  have F_divisor := fun_mk (st := s_divisor) l_divisor cc_divisor k_divisor
  have F_fraction := funD_mk (st := s_fraction) (dvs := [.int 1]) l_fraction cc_fraction k_fraction dt_fraction (.cons ⟨_, rfl⟩ .nil) (by simp)
  have F_is_below := fun_mk (st := s_is_below) l_is_below cc_is_below k_is_below
  have F_Part___init__ := funD_mk (st := s_Part___init__) (dvs := [.int 0, .non, .int 1, .int 1]) l_Part___init__ cc_Part___init__ k_Part___init__ dt_Part___init__ (.cons ⟨_, rfl⟩ (.cons rfl (.cons ⟨_, rfl⟩ (.cons ⟨_, rfl⟩ .nil)))) (by simp)
  have F_Part_size_at := fun_mk (st := s_Part_size_at) l_Part_size_at cc_Part_size_at k_Part_size_at
  have F__law_bag := fun_mk (st := s__law_bag) l__law_bag cc__law_bag k__law_bag
  have F__law_take := fun_mk (st := s__law_take) l__law_take cc__law_take k__law_take
  have F__law_whole := fun_mk (st := s__law_whole) l__law_whole cc__law_whole k__law_whole
  have F__law_divisor := fun_mk (st := s__law_divisor) l__law_divisor cc__law_divisor k__law_divisor
  have F__law_lowest := fun_mk (st := s__law_lowest) l__law_lowest cc__law_lowest k__law_lowest
  have F__law_alike := fun_mk (st := s__law_alike) l__law_alike cc__law_alike k__law_alike
  have F__law_length := fun_mk (st := s__law_length) l__law_length cc__law_length k__law_length
  have F__law_weight := fun_mk (st := s__law_weight) l__law_weight cc__law_weight k__law_weight
  have F__law_part := fun_mk (st := s__law_part) l__law_part cc__law_part k__law_part
  have F__law_size := fun_mk (st := s__law_size) l__law_size cc__law_size k__law_size
  have F__law_price := fun_mk (st := s__law_price) l__law_price cc__law_price k__law_price
  have F__law_fields := fun_mk (st := s__law_fields) l__law_fields cc__law_fields k__law_fields
  have F__law_shorter := fun_mk (st := s__law_shorter) l__law_shorter cc__law_shorter k__law_shorter
  have F_law := fun_mk (st := s_law) l_law cc_law k_law
  refine ⟨PySem.W.fnOf "law" "law" (defArgs s_law) (defBody s_law) (defScope s_law) .none kV_law dc_law pm_law an_law cd_law ct_law, fun s v => .of_eq rfl, fun base _ _ => ?_⟩
  have c_is_whole : Cal l.prog w K mg base "is_whole" 1 ["thing"] [] (sp_is_whole K) := ⟨_, _, [], ok_is_whole F_is_whole B , PySem.W.mg_of X G a_is_whole, k_is_whole, F_is_whole.binds (ps := ["thing"]) fun _ _ _ _ _ _ us hl => match us, hl with | [_], _ => rfl, .nil⟩
  have c_is_length : Cal l.prog w K mg base "is_length" 2 ["thing"] [] (sp_is_length K) := ⟨_, _, [], ok_is_length F_is_length B c_is_whole g_LENGTH, PySem.W.mg_of X G a_is_length, k_is_length, F_is_length.binds (ps := ["thing"]) fun _ _ _ _ _ _ us hl => match us, hl with | [_], _ => rfl, .nil⟩
  have c_is_weight : Cal l.prog w K mg base "is_weight" 2 ["thing"] [] (sp_is_weight K) := ⟨_, _, [], ok_is_weight F_is_weight B c_is_whole g_WEIGHT, PySem.W.mg_of X G a_is_weight, k_is_weight, F_is_weight.binds (ps := ["thing"]) fun _ _ _ _ _ _ us hl => match us, hl with | [_], _ => rfl, .nil⟩
  have c_divisor : Cal l.prog w K mg base "divisor" 1 ["one", "other"] [] sp_divisor := ⟨_, _, [], ok_divisor F_divisor B , PySem.W.mg_of X G a_divisor, k_divisor, F_divisor.binds (ps := ["one", "other"]) fun _ _ _ _ _ _ us hl => match us, hl with | [_, _], _ => rfl, .nil⟩
  have ok_fraction_ := ok_fraction F_fraction B c_divisor
  have c_fraction_at1 : Cal l.prog w K mg base "fraction" 2 ["top", "bottom"] [.int 1] sp_fraction := by
    obtain ⟨ds, hv, hb⟩ := F_fraction.binds1 (ps := ["top", "bottom"]) 1 0 (by simp) rfl (fun T kV doc pm an cdv ct us its h1 h2 => match us, its, h1, h2 with | [_], [_], _, _ => ⟨_, rfl, rfl⟩)
    exact ⟨_, _, ds, ok_fraction_, PySem.W.mg_of X G a_fraction, k_fraction, hb, hv⟩
  have c_fraction : Cal l.prog w K mg base "fraction" 2 ["top", "bottom"] [] sp_fraction := by
    obtain ⟨ds, hv, hb⟩ := F_fraction.binds1 (ps := ["top", "bottom"]) 2 1 (by simp) rfl (fun T kV doc pm an cdv ct us its h1 h2 => match us, its, h1, h2 with | [_, _], [_], _, _ => ⟨_, rfl, rfl⟩)
    exact ⟨_, _, ds, ok_fraction_, PySem.W.mg_of X G a_fraction, k_fraction, hb, hv⟩
  have c_is_below : Cal l.prog w K mg base "is_below" 1 ["one", "other"] [] sp_is_below := ⟨_, _, [], ok_is_below F_is_below B , PySem.W.mg_of X G a_is_below, k_is_below, F_is_below.binds (ps := ["one", "other"]) fun _ _ _ _ _ _ us hl => match us, hl with | [_, _], _ => rfl, .nil⟩
  have ok_Part___init___ := ok_Part___init__ F_Part___init__ B c_is_length c_is_weight o_Part n_Part
  have m_Part_at0_base_greatest : MakK l.prog w K mg base "Part" C_Part 3 ["self", "base", "least", "greatest", "grow", "shrink"] 0 ["base", "greatest"] (fun vs zs => (((((vs ++ (zs.drop 0).take 1) ++ (([.int 0, .non, .int 1, .int 1] : List V).drop 0).take 1) ++ (zs.drop 1).take 1) ++ (([.int 0, .non, .int 1, .int 1] : List V).drop 2).take 1) ++ (([.int 0, .non, .int 1, .int 1] : List V).drop 3).take 1)) (sp_Part___init__ C_Part) := by
    obtain ⟨its, hb⟩ := F_Part___init__.kbindsD (ps := ["self", "base", "least", "greatest", "grow", "shrink"]) 1 ["base", "greatest"] (fun us its ws => (((((us ++ (ws.drop 0).take 1) ++ (its.drop 0).take 1) ++ (ws.drop 1).take 1) ++ (its.drop 2).take 1) ++ (its.drop 3).take 1)) (by simp) (fun r1 r2 r3 => (((((r1.append (Vals.dt r3 0)).append (Vals.dt r2 0)).append (Vals.dt r3 1)).append (Vals.dt r2 2)).append (Vals.dt r2 3))) (fun T kV doc pm an cdv ct us its ws h1 h2 h3 => match us, its, ws, h1, h2, h3 with | [_], [_, _, _, _], [_, _], _, _, _ => ⟨_, rfl, rfl⟩)
    exact ⟨_, _, _, ⟨mk_Part, a_Part___init__, i_Part___init__, kc_Part⟩, ok_Part___init___, PySem.W.mg_of X G aC_Part, hb⟩
  have m_Part_at1_least_grow_shrink : MakK l.prog w K mg base "Part" C_Part 3 ["self", "base", "least", "greatest", "grow", "shrink"] 1 ["least", "grow", "shrink"] (fun vs zs => ((((vs ++ (zs.drop 0).take 1) ++ (([.int 0, .non, .int 1, .int 1] : List V).drop 1).take 1) ++ (zs.drop 1).take 1) ++ (zs.drop 2).take 1)) (sp_Part___init__ C_Part) := by
    obtain ⟨its, hb⟩ := F_Part___init__.kbindsD (ps := ["self", "base", "least", "greatest", "grow", "shrink"]) 2 ["least", "grow", "shrink"] (fun us its ws => ((((us ++ (ws.drop 0).take 1) ++ (its.drop 1).take 1) ++ (ws.drop 1).take 1) ++ (ws.drop 2).take 1)) (by simp) (fun r1 r2 r3 => ((((r1.append (Vals.dt r3 0)).append (Vals.dt r2 1)).append (Vals.dt r3 1)).append (Vals.dt r3 2))) (fun T kV doc pm an cdv ct us its ws h1 h2 h3 => match us, its, ws, h1, h2, h3 with | [_, _], [_, _, _, _], [_, _, _], _, _, _ => ⟨_, rfl, rfl⟩)
    exact ⟨_, _, _, ⟨mk_Part, a_Part___init__, i_Part___init__, kc_Part⟩, ok_Part___init___, PySem.W.mg_of X G aC_Part, hb⟩
  have m_Part_at1 : Mak l.prog w K mg base "Part" C_Part 3 ["self", "base", "least", "greatest", "grow", "shrink"] [.int 0, .non, .int 1, .int 1] (sp_Part___init__ C_Part) := by
    obtain ⟨ds, hv, hb⟩ := F_Part___init__.binds1 (ps := ["self", "base", "least", "greatest", "grow", "shrink"]) 2 0 (by simp) rfl (fun T kV doc pm an cdv ct us its h1 h2 => match us, its, h1, h2 with | [_, _], [_, _, _, _], _, _ => ⟨_, rfl, rfl⟩)
    exact ⟨_, _, ds, ⟨mk_Part, a_Part___init__, i_Part___init__, kc_Part⟩, ok_Part___init___, PySem.W.mg_of X G aC_Part, hb, hv⟩
  have m_Part_at2 : Mak l.prog w K mg base "Part" C_Part 3 ["self", "base", "least", "greatest", "grow", "shrink"] [.non, .int 1, .int 1] (sp_Part___init__ C_Part) := by
    obtain ⟨ds, hv, hb⟩ := F_Part___init__.binds1 (ps := ["self", "base", "least", "greatest", "grow", "shrink"]) 3 1 (by simp) rfl (fun T kV doc pm an cdv ct us its h1 h2 => match us, its, h1, h2 with | [_, _, _], [_, _, _, _], _, _ => ⟨_, rfl, rfl⟩)
    exact ⟨_, _, ds, ⟨mk_Part, a_Part___init__, i_Part___init__, kc_Part⟩, ok_Part___init___, PySem.W.mg_of X G aC_Part, hb, hv⟩
  have m_Part_at3 : Mak l.prog w K mg base "Part" C_Part 3 ["self", "base", "least", "greatest", "grow", "shrink"] [.int 1, .int 1] (sp_Part___init__ C_Part) := by
    obtain ⟨ds, hv, hb⟩ := F_Part___init__.binds1 (ps := ["self", "base", "least", "greatest", "grow", "shrink"]) 4 2 (by simp) rfl (fun T kV doc pm an cdv ct us its h1 h2 => match us, its, h1, h2 with | [_, _, _, _], [_, _, _, _], _, _ => ⟨_, rfl, rfl⟩)
    exact ⟨_, _, ds, ⟨mk_Part, a_Part___init__, i_Part___init__, kc_Part⟩, ok_Part___init___, PySem.W.mg_of X G aC_Part, hb, hv⟩
  have m_Part_at4 : Mak l.prog w K mg base "Part" C_Part 3 ["self", "base", "least", "greatest", "grow", "shrink"] [.int 1] (sp_Part___init__ C_Part) := by
    obtain ⟨ds, hv, hb⟩ := F_Part___init__.binds1 (ps := ["self", "base", "least", "greatest", "grow", "shrink"]) 5 3 (by simp) rfl (fun T kV doc pm an cdv ct us its h1 h2 => match us, its, h1, h2 with | [_, _, _, _, _], [_, _, _, _], _, _ => ⟨_, rfl, rfl⟩)
    exact ⟨_, _, ds, ⟨mk_Part, a_Part___init__, i_Part___init__, kc_Part⟩, ok_Part___init___, PySem.W.mg_of X G aC_Part, hb, hv⟩
  have m_Part : Mak l.prog w K mg base "Part" C_Part 3 ["self", "base", "least", "greatest", "grow", "shrink"] [] (sp_Part___init__ C_Part) := by
    obtain ⟨ds, hv, hb⟩ := F_Part___init__.binds1 (ps := ["self", "base", "least", "greatest", "grow", "shrink"]) 6 4 (by simp) rfl (fun T kV doc pm an cdv ct us its h1 h2 => match us, its, h1, h2 with | [_, _, _, _, _, _], [_, _, _, _], _, _ => ⟨_, rfl, rfl⟩)
    exact ⟨_, _, ds, ⟨mk_Part, a_Part___init__, i_Part___init__, kc_Part⟩, ok_Part___init___, PySem.W.mg_of X G aC_Part, hb, hv⟩
  have t_Part_size_at : Met l.prog w K mg base "size_at" C_Part 3 ["self", "price"] [] (sp_Part_size_at C_Part) := ⟨_, _, [], o_Part.cl, ⟨a_Part_size_at, i_Part_size_at, k_Part_size_at⟩, ok_Part_size_at F_Part_size_at B c_fraction c_is_below o_Part n_Part, F_Part_size_at.binds (ps := ["self", "price"]) fun _ _ _ _ _ _ us hl => match us, hl with | [_, _], _ => rfl, .nil⟩
  have c__law_bag : Cal l.prog w K mg base "_law_bag" 1 ["_law_script"] [] (sp__law_bag K) := ⟨_, _, [], ok__law_bag F__law_bag B , PySem.W.mg_of X G a__law_bag, k__law_bag, F__law_bag.binds (ps := ["_law_script"]) fun _ _ _ _ _ _ us hl => match us, hl with | [_], _ => rfl, .nil⟩
  have c__law_take : Cal l.prog w K mg base "_law_take" 1 ["_law_bag_here", "_law_many"] [] sp__law_take := ⟨_, _, [], ok__law_take F__law_take B , PySem.W.mg_of X G a__law_take, k__law_take, F__law_take.binds (ps := ["_law_bag_here", "_law_many"]) fun _ _ _ _ _ _ us hl => match us, hl with | [_, _], _ => rfl, .nil⟩
  have c__law_whole : Cal l.prog w K mg base "_law_whole" 1 ["_law_found"] [] sp__law_whole := ⟨_, _, [], ok__law_whole F__law_whole B , PySem.W.mg_of X G a__law_whole, k__law_whole, F__law_whole.binds (ps := ["_law_found"]) fun _ _ _ _ _ _ us hl => match us, hl with | [_], _ => rfl, .nil⟩
  have c__law_divisor : Cal l.prog w K mg base "_law_divisor" 1 ["_law_one", "_law_other"] [] sp__law_divisor := ⟨_, _, [], ok__law_divisor F__law_divisor B , PySem.W.mg_of X G a__law_divisor, k__law_divisor, F__law_divisor.binds (ps := ["_law_one", "_law_other"]) fun _ _ _ _ _ _ us hl => match us, hl with | [_, _], _ => rfl, .nil⟩
  have c__law_lowest : Cal l.prog w K mg base "_law_lowest" 2 ["_law_top", "_law_bottom"] [] sp__law_lowest := ⟨_, _, [], ok__law_lowest F__law_lowest B c__law_divisor, PySem.W.mg_of X G a__law_lowest, k__law_lowest, F__law_lowest.binds (ps := ["_law_top", "_law_bottom"]) fun _ _ _ _ _ _ us hl => match us, hl with | [_, _], _ => rfl, .nil⟩
  have c__law_alike : Cal l.prog w K mg base "_law_alike" 2 ["_law_found", "_law_due"] [] sp__law_alike := ⟨_, _, [], ok__law_alike F__law_alike B c__law_whole, PySem.W.mg_of X G a__law_alike, k__law_alike, F__law_alike.binds (ps := ["_law_found", "_law_due"]) fun _ _ _ _ _ _ us hl => match us, hl with | [_, _], _ => rfl, .nil⟩
  have c__law_length : Cal l.prog w K mg base "_law_length" 2 ["_law_bag_here", "_law_most"] [] sp__law_length := ⟨_, _, [], ok__law_length F__law_length B c__law_take, PySem.W.mg_of X G a__law_length, k__law_length, F__law_length.binds (ps := ["_law_bag_here", "_law_most"]) fun _ _ _ _ _ _ us hl => match us, hl with | [_, _], _ => rfl, .nil⟩
  have c__law_weight : Cal l.prog w K mg base "_law_weight" 3 ["_law_bag_here"] [] sp__law_weight := ⟨_, _, [], ok__law_weight F__law_weight B c__law_take c__law_length, PySem.W.mg_of X G a__law_weight, k__law_weight, F__law_weight.binds (ps := ["_law_bag_here"]) fun _ _ _ _ _ _ us hl => match us, hl with | [_], _ => rfl, .nil⟩
  have c__law_part : Cal l.prog w K mg base "_law_part" 4 ["_law_bag_here"] [] sp__law_part := ⟨_, _, [], ok__law_part F__law_part B c__law_length c__law_take c__law_weight, PySem.W.mg_of X G a__law_part, k__law_part, F__law_part.binds (ps := ["_law_bag_here"]) fun _ _ _ _ _ _ us hl => match us, hl with | [_], _ => rfl, .nil⟩
  have c__law_size : Cal l.prog w K mg base "_law_size" 3 ["_law_row", "_law_price_here"] [] sp__law_size := ⟨_, _, [], ok__law_size F__law_size B c__law_lowest, PySem.W.mg_of X G a__law_size, k__law_size, F__law_size.binds (ps := ["_law_row", "_law_price_here"]) fun _ _ _ _ _ _ us hl => match us, hl with | [_, _], _ => rfl, .nil⟩
  have c__law_price : Cal l.prog w K mg base "_law_price" 3 ["_law_bag_here", "_law_row"] [] sp__law_price := ⟨_, _, [], ok__law_price F__law_price B c__law_take c__law_lowest, PySem.W.mg_of X G a__law_price, k__law_price, F__law_price.binds (ps := ["_law_bag_here", "_law_row"]) fun _ _ _ _ _ _ us hl => match us, hl with | [_, _], _ => rfl, .nil⟩
  have c__law_fields : Cal l.prog w K mg base "_law_fields" 2 ["_law_part_here", "_law_row"] [] (sp__law_fields C_Part) := ⟨_, _, [], ok__law_fields F__law_fields B c__law_whole o_Part n_Part, PySem.W.mg_of X G a__law_fields, k__law_fields, F__law_fields.binds (ps := ["_law_part_here", "_law_row"]) fun _ _ _ _ _ _ us hl => match us, hl with | [_, _], _ => rfl, .nil⟩
  have c__law_shorter : Cal l.prog w K mg base "_law_shorter" 5 ["_law_bag_here", "_law_row"] [] (sp__law_shorter C_Part) := ⟨_, _, [], ok__law_shorter F__law_shorter B c__law_take m_Part_at1 m_Part_at2 m_Part_at3 m_Part_at4 m_Part_at1_least_grow_shrink m_Part_at0_base_greatest, PySem.W.mg_of X G a__law_shorter, k__law_shorter, F__law_shorter.binds (ps := ["_law_bag_here", "_law_row"]) fun _ _ _ _ _ _ us hl => match us, hl with | [_, _], _ => rfl, .nil⟩
  exact ok_law F_law B c__law_bag c__law_part c__law_shorter c__law_price c__law_alike c__law_size c__law_fields m_Part t_Part_size_at
theorem walk {l : PySem.W.OpenLaw} {q : Program} {loose : List Str} {XP : (Str → Option Value) → Heap → Prop} {YP : World → Heap → Prop} {d : DefRec} {K : Params → PySem.W.Frag} (hn : l.most = some 63) (hdf : d.params.defaults = [])
    (hY : ∀ (w : World) (h : Heap), YP w h → (K w.params).In h)
    (F : ∀ (w : World) (mg : Str → Option Value) (fa : Addr) (h : Heap), (K w.params).In h → h.Ns mainGlobals mg → mg d.name = some (.ref fa) →
      ∃ fd : FuncData, (∀ (s : Shared) (u : Value), BindsTo s fd ⟨[u], []⟩ [("_law_script", u)]) ∧ ∀ base : Heap, (K w.params).In base → base.Ns mainGlobals mg → FnOk l.prog w (K w.params) mg base CX0 6 fa fd ["_law_script"] (sp_law (K w.params))) :
    PySem.W.WalkO q loose XP YP l.row.toRowW d [] (fun f vs => PySem.call f vs) :=
  L2.walk_ofB (n := 63) (k := 6) (x := "_law_script") (CX := fun _ => CX0) (sp := fun w => sp_law (K w.params)) hn (by decide) hdf ⟨rfl, by decide, by decide⟩ hY F (fun _ _ a ns hl hb hO hS => ⟨a, ns, rfl, hS, hO, hl, hb, fun _ => rfl⟩) fun _ _ _ _ _ z => z
end Fs
open PySem PySem.W PyProof.Rows
set_option maxRecDepth 100000 in
set_option maxHeartbeats 0 in
theorem PySem.Challenge.cw_fairsheet_k14_size_by_price_holds : PySem.Challenge.rw_fairsheet_k14_size_by_price.Holds := by
  w_on; o_law; k_head; (case hw => w_witness2)
  k_fill
  refine Fs.walk (l := PySem.Challenge.rw_fairsheet_k14_size_by_price) rfl rfl (fun w h Y => PySem.W.kIn_of Y) ?F
  case F =>
    intro w mg fa h KX G hmg
    refine' Fs.all_mk KX G hmg ?a_is_whole ?l_is_whole ?cc_is_whole ?k_is_whole ?a_is_length ?l_is_length ?cc_is_length ?k_is_length ?a_is_weight ?l_is_weight ?cc_is_weight ?k_is_weight ?a_divisor ?l_divisor ?cc_divisor ?k_divisor ?a_fraction ?l_fraction ?cc_fraction ?k_fraction ?dt_fraction ?a_is_below ?l_is_below ?cc_is_below ?k_is_below ?aC_Part ?pg_Part ?hd_Part ?po_Part ?sa_Part ?mk_Part ?kc_Part ?ha_Part ?hn_Part ?htk_Part ?hm_Part ?nf_Part_base ?nf_Part_least ?nf_Part_greatest ?nf_Part_grow ?nf_Part_shrink ?a_Part___init__ ?i_Part___init__ ?l_Part___init__ ?cc_Part___init__ ?k_Part___init__ ?dt_Part___init__ ?a_Part_size_at ?i_Part_size_at ?l_Part_size_at ?cc_Part_size_at ?k_Part_size_at ?a__law_bag ?l__law_bag ?cc__law_bag ?k__law_bag ?a__law_take ?l__law_take ?cc__law_take ?k__law_take ?a__law_whole ?l__law_whole ?cc__law_whole ?k__law_whole ?a__law_divisor ?l__law_divisor ?cc__law_divisor ?k__law_divisor ?a__law_lowest ?l__law_lowest ?cc__law_lowest ?k__law_lowest ?a__law_alike ?l__law_alike ?cc__law_alike ?k__law_alike ?a__law_length ?l__law_length ?cc__law_length ?k__law_length ?a__law_weight ?l__law_weight ?cc__law_weight ?k__law_weight ?a__law_part ?l__law_part ?cc__law_part ?k__law_part ?a__law_size ?l__law_size ?cc__law_size ?k__law_size ?a__law_price ?l__law_price ?cc__law_price ?k__law_price ?a__law_fields ?l__law_fields ?cc__law_fields ?k__law_fields ?a__law_shorter ?l__law_shorter ?cc__law_shorter ?k__law_shorter ?a_law ?l_law ?cc_law ?k_law ?z_len ?z_abs ?z_isinstance ?z_min ?z_max ?z_sum ?z_sorted ?z_range ?z_zip ?z_enumerate ?z_reversed ?z_int ?z_bool ?z_tuple ?z_list ?z_str ?z_dict ?z_ValueError ?z_set ?z_any ?z_all ?n_LENGTH ?n_WEIGHT
    (case a_is_whole => k_is)
    (case l_is_whole => k_is)
    (case cc_is_whole => k_is)
    (case k_is_whole => k_is)
    (case a_is_length => k_is)
    (case l_is_length => k_is)
    (case cc_is_length => k_is)
    (case k_is_length => k_is)
    (case a_is_weight => k_is)
    (case l_is_weight => k_is)
    (case cc_is_weight => k_is)
    (case k_is_weight => k_is)
    (case a_divisor => k_is)
    (case l_divisor => k_is)
    (case cc_divisor => k_is)
    (case k_divisor => k_is)
    (case a_fraction => k_is)
    (case l_fraction => k_is)
    (case cc_fraction => k_is)
    (case k_fraction => k_is)
    (case dt_fraction => k_is)
    (case a_is_below => k_is)
    (case l_is_below => k_is)
    (case cc_is_below => k_is)
    (case k_is_below => k_is)
    (case aC_Part => k_is)
    (case pg_Part => k_is)
    (case hd_Part => k_is)
    (case po_Part => k_is)
    (case sa_Part => k_is)
    (case mk_Part => k_is)
    (case kc_Part => k_is)
    (case ha_Part => k_is)
    (case hn_Part => k_is)
    (case htk_Part => k_is)
    (case hm_Part => k_is)
    (case nf_Part_base => k_is)
    (case nf_Part_least => k_is)
    (case nf_Part_greatest => k_is)
    (case nf_Part_grow => k_is)
    (case nf_Part_shrink => k_is)
    (case a_Part___init__ => k_is)
    (case i_Part___init__ => k_is)
    (case l_Part___init__ => k_is)
    (case cc_Part___init__ => k_is)
    (case k_Part___init__ => k_is)
    (case dt_Part___init__ => k_is)
    (case a_Part_size_at => k_is)
    (case i_Part_size_at => k_is)
    (case l_Part_size_at => k_is)
    (case cc_Part_size_at => k_is)
    (case k_Part_size_at => k_is)
    (case a__law_bag => k_is)
    (case l__law_bag => k_is)
    (case cc__law_bag => k_is)
    (case k__law_bag => k_is)
    (case a__law_take => k_is)
    (case l__law_take => k_is)
    (case cc__law_take => k_is)
    (case k__law_take => k_is)
    (case a__law_whole => k_is)
    (case l__law_whole => k_is)
    (case cc__law_whole => k_is)
    (case k__law_whole => k_is)
    (case a__law_divisor => k_is)
    (case l__law_divisor => k_is)
    (case cc__law_divisor => k_is)
    (case k__law_divisor => k_is)
    (case a__law_lowest => k_is)
    (case l__law_lowest => k_is)
    (case cc__law_lowest => k_is)
    (case k__law_lowest => k_is)
    (case a__law_alike => k_is)
    (case l__law_alike => k_is)
    (case cc__law_alike => k_is)
    (case k__law_alike => k_is)
    (case a__law_length => k_is)
    (case l__law_length => k_is)
    (case cc__law_length => k_is)
    (case k__law_length => k_is)
    (case a__law_weight => k_is)
    (case l__law_weight => k_is)
    (case cc__law_weight => k_is)
    (case k__law_weight => k_is)
    (case a__law_part => k_is)
    (case l__law_part => k_is)
    (case cc__law_part => k_is)
    (case k__law_part => k_is)
    (case a__law_size => k_is)
    (case l__law_size => k_is)
    (case cc__law_size => k_is)
    (case k__law_size => k_is)
    (case a__law_price => k_is)
    (case l__law_price => k_is)
    (case cc__law_price => k_is)
    (case k__law_price => k_is)
    (case a__law_fields => k_is)
    (case l__law_fields => k_is)
    (case cc__law_fields => k_is)
    (case k__law_fields => k_is)
    (case a__law_shorter => k_is)
    (case l__law_shorter => k_is)
    (case cc__law_shorter => k_is)
    (case k__law_shorter => k_is)
    (case a_law => k_is)
    (case l_law => k_is)
    (case cc_law => k_is)
    (case k_law => k_is)
    (case z_len => k_is)
    (case z_abs => k_is)
    (case z_isinstance => k_is)
    (case z_min => k_is)
    (case z_max => k_is)
    (case z_sum => k_is)
    (case z_sorted => k_is)
    (case z_range => k_is)
    (case z_zip => k_is)
    (case z_enumerate => k_is)
    (case z_reversed => k_is)
    (case z_int => k_is)
    (case z_bool => k_is)
    (case z_tuple => k_is)
    (case z_list => k_is)
    (case z_str => k_is)
    (case z_dict => k_is)
    (case z_ValueError => k_is)
    (case z_set => k_is)
    (case z_any => k_is)
    (case z_all => k_is)
    (case n_LENGTH => k_is)
    (case n_WEIGHT => k_is)
