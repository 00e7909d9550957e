import PyProof.Rows.All
import Wide.All
import OpenK.AllK
import Wide.FinOn
import HandS.ForMost
import HandS.Wide
import HandS.Walk
import HandS.IsInst
import HandS.Flow
import HandS.Style
import HandS.Zip
import HandS.EndBits
import HandS.Defaults
import HandS.More
import HandS.MakeKwOnly
import HandS.MakeKw
import HandS.Text
import PyProof.StrOps2
import HandS.SortInts
import HandS.Exc
import HandS.ExcOwn
import HandS.WordsExc
import HandS.ExcIs
import HandS.ExcInit
import KE.KExcIs
import HandS.DictComp
import PySem.Challenge.RW_fairsheet_k72_pieces_high
set_option Elab.async false
set_option linter.all false
set_option maxRecDepth 100000
set_option maxHeartbeats 20000000
set_option exponentiation.threshold 20000
namespace Fs
open PySem PySem.Spec PyProof.Rows L2

/-! ### data and what denotes it -/
inductive D where
  | non | bl (b : Bool) | int (i : Int) | str (x : Str) | ref (a : Addr) | ty (n : String)
  | tup (ds : List D) | lst (ds : List D) | obj (C : Addr) (fs : List (Str × D)) | dict

mutual
inductive Is (I : Hp) : V → D → Prop
  | non : Is I .non .non
  | bl (b : Bool) : Is I (.bl b) (.bl b)
  | int (i : Int) : Is I (.int i) (.int i)
  | str (x : Str) : Is I (.str x) (.str x)
  | ref (a : Addr) : Is I (.ref a) (.ref a)
  | ty (n : String) : Is I (.ty n) (.ty n)
  | tup {p : Addr} {vs : List V} {ds : List D} : I p = some (.tup vs) → IsA I vs ds → Is I (.ref p) (.tup ds)
  | lst {p : Addr} {vs : List V} {ds : List D} : I p = some (.lst vs) → IsA I vs ds → Is I (.ref p) (.lst ds)
  | obj {p C dx : Addr} {fs : List (Str × V)} {ds : List (Str × D)} : I p = some (.ins C dx fs) → IsF I fs ds → Is I (.ref p) (.obj C ds)
  | dct {p : Addr} {kvs : List (Key × V)} : I p = some (.dK kvs) → Is I (.ref p) .dict
inductive IsA (I : Hp) : List V → List D → Prop
  | nil : IsA I [] []
  | cons {v : V} {d : D} {vs : List V} {ds : List D} : Is I v d → IsA I vs ds → IsA I (v :: vs) (d :: ds)
inductive IsF (I : Hp) : List (Str × V) → List (Str × D) → Prop
  | nil : IsF I [] []
  | cons {f : Str} {v : V} {d : D} {vs : List (Str × V)} {ds : List (Str × D)} : Is I v d → IsF I vs ds → IsF I ((f, v) :: vs) ((f, d) :: ds)
end
mutual
theorem Is.mono {I J : Hp} (s : Same I J) : ∀ {v : V} {d : D}, Is I v d → Is J v d
  | _, _, .non => .non
  | _, _, .bl b => .bl b
  | _, _, .int i => .int i
  | _, _, .str x => .str x
  | _, _, .ref a => .ref a
  | _, _, .ty n => .ty n
  | _, _, .tup h a => .tup (s _ _ h) (IsA.mono s a)
  | _, _, .lst h a => .lst (s _ _ h) (IsA.mono s a)
  | _, _, .obj h a => .obj (s _ _ h) (IsF.mono s a)
  | _, _, .dct h => .dct (s _ _ h)
theorem IsA.mono {I J : Hp} (s : Same I J) : ∀ {vs : List V} {ds : List D}, IsA I vs ds → IsA J vs ds
  | _, _, .nil => .nil
  | _, _, .cons h a => .cons (Is.mono s h) (IsA.mono s a)
theorem IsF.mono {I J : Hp} (s : Same I J) : ∀ {vs : List (Str × V)} {ds : List (Str × D)}, IsF I vs ds → IsF J vs ds
  | _, _, .nil => .nil
  | _, _, .cons h a => .cons (Is.mono s h) (IsF.mono s a)
end
section
variable {I J : Hp} {v : V} {vs : List V} {ds es : List D} {d : D}
theorem Is.int_eq {n : Int} (h : Is I v (.int n)) : v = .int n := by cases h; rfl
theorem Is.bl_eq {n : Bool} (h : Is I v (.bl n)) : v = .bl n := by cases h; rfl
theorem Is.str_eq {n : Str} (h : Is I v (.str n)) : v = .str n := by cases h; rfl
theorem Is.non_eq (h : Is I v .non) : v = .non := by cases h; rfl
theorem Is.ref_eq {a : Addr} (h : Is I v (.ref a)) : v = .ref a := by cases h; rfl
theorem Is.tup_ex (h : Is I v (.tup ds)) : ∃ p vs, v = .ref p ∧ I p = some (.tup vs) ∧ IsA I vs ds := by
  cases h with | tup h a => exact ⟨_, _, rfl, h, a⟩
theorem Is.lst_ex (h : Is I v (.lst ds)) : ∃ p vs, v = .ref p ∧ I p = some (.lst vs) ∧ IsA I vs ds := by
  cases h with | lst h a => exact ⟨_, _, rfl, h, a⟩
theorem Is.obj_ex {C : Addr} {fs : List (Str × D)} (h : Is I v (.obj C fs)) : ∃ p dx vs, v = .ref p ∧ I p = some (.ins C dx vs) ∧ IsF I vs fs := by
  cases h with | obj h a => exact ⟨_, _, _, rfl, h, a⟩
theorem IsA.length : ∀ {vs : List V} {ds : List D}, IsA I vs ds → vs.length = ds.length
  | _, _, .nil => rfl
  | _, _, .cons _ a => by rw [List.length_cons, List.length_cons, a.length]
theorem IsA.get : ∀ {vs : List V} {ds : List D} {i : Nat} {d : D}, IsA I vs ds → ds[i]? = some d → ∃ v, vs[i]? = some v ∧ Is I v d
  | _, _, _, _, .nil, h => by simp at h
  | _, _, 0, _, .cons h _, e => by simp at e; subst e; exact ⟨_, rfl, h⟩
  | _, _, i + 1, d, .cons _ a, e => by
    obtain ⟨v, h1, h2⟩ := IsA.get (i := i) (d := d) a (by simpa using e)
    exact ⟨v, by simpa using h1, h2⟩
theorem IsA.of : ∀ {vs : List V} {ds : List D} {i : Nat} {v : V}, IsA I vs ds → vs[i]? = some v → ∃ d, ds[i]? = some d ∧ Is I v d
  | _, _, _, _, .nil, h => by simp at h
  | _, _, 0, _, .cons h _, e => by simp at e; subst e; exact ⟨_, rfl, h⟩
  | _, _, i + 1, d, .cons _ a, e => by
    obtain ⟨v, h1, h2⟩ := IsA.of (i := i) a (by simpa using e)
    exact ⟨v, by simpa using h1, h2⟩
theorem IsA.app : ∀ {vs us : List V} {ds es : List D}, IsA I vs ds → IsA I us es → IsA I (vs ++ us) (ds ++ es)
  | _, _, _, _, .nil, b => b
  | _, _, _, _, .cons h a, b => .cons h (IsA.app a b)
theorem IsA.one (h : Is I v d) : IsA I [v] [d] := .cons h .nil
theorem IsA.rev : ∀ {vs : List V} {ds : List D}, IsA I vs ds → IsA I vs.reverse ds.reverse
  | _, _, .nil => .nil
  | _, _, .cons h a => by rw [List.reverse_cons, List.reverse_cons]; exact (IsA.rev a).app (.one h)
theorem IsA.take : ∀ {vs : List V} {ds : List D} (n : Nat), IsA I vs ds → IsA I (vs.take n) (ds.take n)
  | _, _, 0, _ => .nil
  | _, _, _ + 1, .nil => .nil
  | _, _, n + 1, .cons h a => .cons h (IsA.take n a)
theorem IsA.drop : ∀ {vs : List V} {ds : List D} (n : Nat), IsA I vs ds → IsA I (vs.drop n) (ds.drop n)
  | _, _, 0, a => a
  | _, _, _ + 1, .nil => .nil
  | _, _, n + 1, .cons h a => IsA.drop n a
theorem IsA.ints : ∀ (ns : List Int), IsA I (ns.map V.int) (ns.map D.int)
  | [] => .nil
  | n :: r => .cons (.int n) (IsA.ints r)
theorem IsA.ints_eq : ∀ {vs : List V} {ns : List Int}, IsA I vs (ns.map D.int) → vs = ns.map V.int
  | _, [], h => by cases h; rfl
  | _, n :: r, h => by
    cases h with
    | cons h a => rw [h.int_eq, IsA.ints_eq a]; rfl
theorem IsF.get : ∀ {fs : List (Str × V)} {ds : List (Str × D)} {f : Str} {d : D}, IsF I fs ds → ds.lookup f = some d → ∃ v, fs.lookup f = some v ∧ Is I v d
  | _, _, _, _, .nil, e => by simp at e
  | _, _, f, d, .cons (f := g) h a, e => by
    rw [List.lookup_cons] at e
    cases hc : f == g with
    | true => rw [hc] at e; simp at e; subst e; exact ⟨_, by rw [List.lookup_cons, hc], h⟩
    | false =>
      rw [hc] at e
      obtain ⟨v, h1, h2⟩ := IsF.get a e
      exact ⟨v, by rw [List.lookup_cons, hc]; exact h1, h2⟩
theorem IsF.no : ∀ {fs : List (Str × V)} {ds : List (Str × D)} {f : Str}, IsF I fs ds → ds.lookup f = none → fs.lookup f = none
  | _, _, _, .nil, _ => rfl
  | _, _, f, .cons (f := g) h a, e => by
    rw [List.lookup_cons] at e ⊢
    cases hc : f == g with
    | true => rw [hc] at e; cases e
    | false => rw [hc] at e; exact IsF.no a e
end

/-! ### the heap: what stays (I), what may be changed (M) -/
structure W (I H : Hp) (M : List (Addr × HO)) : Prop where
  imm : Same I H
  mu : ∀ p ∈ M, H p.1 = some p.2 ∧ I p.1 = none
  nd : (M.map (·.1)).Nodup
section
variable {I H : Hp} {M M1 M2 : List (Addr × HO)} {p : Addr} {o o' : HO} {m : Addr × HO}
theorem same_new (h : H p = none) : Same H (upd H p o) := fun b x e => by
  rw [upd_ne (ne_of_none e h)]
  exact e
theorem W.fresh (w : W I H M) (h : H p = none) : I p = none := w.imm.free h
theorem W.notin (w : W I H M) (h : H p = none) : p ∉ M.map (·.1) := fun q => by
  obtain ⟨x, hx, e⟩ := List.mem_map.mp q
  have := (w.mu x hx).1
  rw [e, h] at this
  cases this
/-- a new thing that stays -/
theorem W.newI (w : W I H M) (h : H p = none) : W (upd I p o) (upd H p o) M where
  imm := fun b x e => by
    by_cases hb : b = p
    · subst hb; rw [upd_same] at e ⊢; exact e
    · rw [upd_ne hb] at e ⊢; exact w.imm b x e
  mu := fun x hx => by
    have q : x.1 ≠ p := fun e => w.notin h (e ▸ List.mem_map_of_mem hx)
    rw [upd_ne q, upd_ne q]
    exact w.mu x hx
  nd := w.nd
theorem W.same (w : W I H M) (h : H p = none) : Same I (upd I p o) := same_new (w.fresh h)
/-- a new thing that may be changed -/
theorem W.newM (w : W I H M) (h : H p = none) : W I (upd H p o) ((p, o) :: M) where
  imm := fun b x e => by
    rw [upd_ne (ne_of_none e (w.fresh h))]
    exact w.imm b x e
  mu := fun x hx => by
    rcases List.mem_cons.mp hx with e | hx
    · subst e; exact ⟨upd_same, w.fresh h⟩
    · have q : x.1 ≠ p := fun e => w.notin h (e ▸ List.mem_map_of_mem hx)
      rw [upd_ne q]
      exact w.mu x hx
  nd := List.nodup_cons.mpr ⟨w.notin h, w.nd⟩
theorem W.newM2 (w : W I H (m :: M)) (h : H p = none) : W I (upd H p o) (m :: (p, o) :: M) := by
  have q := w.newM (o := o) h
  refine ⟨q.imm, fun x hx => q.mu x ?_, ?_⟩
  · rcases List.mem_cons.mp hx with e | hx
    · exact List.mem_cons.mpr (.inr (List.mem_cons.mpr (.inl e)))
    · rcases List.mem_cons.mp hx with e | hx
      · exact List.mem_cons.mpr (.inl e)
      · exact List.mem_cons.mpr (.inr (List.mem_cons.mpr (.inr hx)))
  · have n := q.nd
    simp only [List.map_cons, List.nodup_cons, List.mem_cons, not_or] at n ⊢
    exact ⟨⟨fun e => n.1.1 e.symm, n.2.1⟩, n.1.2, n.2.2⟩
/-- a change -/
theorem W.put (w : W I H (M1 ++ (p, o) :: M2)) : W I (upd H p o') (M1 ++ (p, o') :: M2) := by
  have n := w.nd
  simp only [List.map_append, List.map_cons] at n
  have hp := w.mu (p, o) (List.mem_append_right _ List.mem_cons_self)
  refine ⟨fun b x e => ?_, fun x hx => ?_, by simpa only [List.map_append, List.map_cons] using n⟩
  · rw [upd_ne (ne_of_none e hp.2)]
    exact w.imm b x e
  · have n2 := List.nodup_append.mp n
    have n3 := List.nodup_cons.mp n2.2.1
    rcases List.mem_append.mp hx with h | h
    · have q : x.1 ≠ p := n2.2.2 _ (List.mem_map_of_mem h) _ List.mem_cons_self
      rw [upd_ne q]
      exact w.mu x (List.mem_append_left _ h)
    · rcases List.mem_cons.mp h with e | h
      · subst e; exact ⟨upd_same, hp.2⟩
      · have q : x.1 ≠ p := fun e => n3.1 (e ▸ List.mem_map_of_mem h)
        rw [upd_ne q]
        exact w.mu x (List.mem_append_right _ (List.mem_cons_of_mem _ h))
theorem W.put0 (w : W I H ((p, o) :: M2)) : W I (upd H p o') ((p, o') :: M2) := W.put (M1 := []) w
theorem W.put1 {m0 : Addr × HO} (w : W I H (m0 :: (p, o) :: M2)) : W I (upd H p o') (m0 :: (p, o') :: M2) := W.put (M1 := [m0]) w
theorem W.put2 {m0 m1 : Addr × HO} (w : W I H (m0 :: m1 :: (p, o) :: M2)) : W I (upd H p o') (m0 :: m1 :: (p, o') :: M2) := W.put (M1 := [m0, m1]) w
/-- what may be changed stays from now on -/
theorem W.frz (w : W I H (M1 ++ (p, o) :: M2)) : W (upd I p o) H (M1 ++ M2) := by
  have n := w.nd
  simp only [List.map_append, List.map_cons] at n
  have hp := w.mu (p, o) (List.mem_append_right _ List.mem_cons_self)
  have n2 := List.nodup_append.mp n
  have n3 := List.nodup_cons.mp n2.2.1
  refine ⟨fun b x e => ?_, fun x hx => ?_, ?_⟩
  · by_cases hb : b = p
    · subst hb; rw [upd_same] at e; cases e; exact hp.1
    · rw [upd_ne hb] at e; exact w.imm b x e
  · have q : x.1 ≠ p := by
      rcases List.mem_append.mp hx with h | h
      · exact n2.2.2 _ (List.mem_map_of_mem h) _ List.mem_cons_self
      · exact fun e => n3.1 (e ▸ List.mem_map_of_mem h)
    rw [upd_ne q]
    refine w.mu x ?_
    rcases List.mem_append.mp hx with h | h
    · exact List.mem_append_left _ h
    · exact List.mem_append_right _ (List.mem_cons_of_mem _ h)
  · rw [List.map_append]
    exact n.sublist (List.Sublist.append_left (List.sublist_cons_self _ _) _)
theorem W.frzS (w : W I H (M1 ++ (p, o) :: M2)) : Same I (upd I p o) := same_new (w.mu (p, o) (List.mem_append_right _ List.mem_cons_self)).2
theorem W.at (w : W I H (M1 ++ (p, o) :: M2)) : H p = some o := (w.mu (p, o) (List.mem_append_right _ List.mem_cons_self)).1
theorem W.at0 (w : W I H ((p, o) :: M2)) : H p = some o := W.at (M1 := []) w
theorem W.at1 {m0 : Addr × HO} (w : W I H (m0 :: (p, o) :: M2)) : H p = some o := W.at (M1 := [m0]) w
theorem W.at2 {m0 m1 : Addr × HO} (w : W I H (m0 :: m1 :: (p, o) :: M2)) : H p = some o := W.at (M1 := [m0, m1]) w
/-- the heap has more -/
theorem W.more {H' : Hp} (w : W I H M) (s : Same H H') : W I H' M := ⟨w.imm.trans s, fun x hx => ⟨s _ _ (w.mu x hx).1, (w.mu x hx).2⟩, w.nd⟩
end
end Fs

namespace Fs
open PySem PySem.Spec PyProof.Rows L2

/-! ### rules for several kinds at once -/
section
variable {X : Cx}
theorem opOr {f : Value → Value → Sem Value} {r r' : R2} (a : OpR X f r) (b : OpR X f r') : OpR X f (fun x y H Q => r x y H Q ∨ r' x y H Q) := by
  intro pins s σ H x y v u Q I rx ry h
  rcases h with h | h
  · exact a pins s σ H x y v u Q I rx ry h
  · exact b pins s σ H x y v u Q I rx ry h
theorem callOr {f : Value} {r r' : List V → Hp → VK → Prop} (a : CallR X f r) (b : CallR X f r') : CallR X f (fun xs H Q => r xs H Q ∨ r' xs H Q) := by
  intro pins s σ H xs us Q I rx h
  rcases h with h | h
  · exact a pins s σ H xs us Q I rx h
  · exact b pins s σ H xs us Q I rx h
theorem piOr {tg iter : Expr} {w w' : TI} (a : PI X tg iter w) (b : PI X tg iter w') : PI X tg iter (fun σ H R => w σ H R ∨ w' σ H R) := by
  refine ⟨fun pins s σ H R I h => ?_⟩
  rcases h with h | h
  · exact a.run pins s σ H R I h
  · exact b.run pins s σ H R I h
def rAddS : R2 := fun x y H Q => ∃ i j, x = .str i ∧ y = .str j ∧ i.length + j.length ≤ sizeLine ∧ Q (.str (i ++ j)) H
def rAddU (K : PySem.W.Frag) : R2 := fun x y H Q => rI0 (fun i j => .int (i + j)) x y H Q ∨ (rAddS x y H Q ∨ (rCat x y H Q ∨ rCatT K x y H Q))
theorem uo_add : OpR X (binaryOp .Add) (rAddU X.K) := opOr op_add (opOr op_add_str (opOr op_cat op_catT))
def rMulU : R2 := fun x y H Q => rI CMulW (fun i j => .int (i * j)) x y H Q ∨ rRep x y H Q
theorem uo_mul : OpR X (binaryOp .Mult) rMulU := opOr op_mulW op_rep
def rEqU (K : PySem.W.Frag) : R2 := fun x y H Q => rEq x y H Q ∨ rEqD K x y H Q
def rNeU (K : PySem.W.Frag) : R2 := fun x y H Q => rNe x y H Q ∨ rNeD K x y H Q
theorem uo_eq (hu : X.A.units + 64 < cLine) : OpR X (compareOp .Eq) (rEqU X.K) := opOr op_eq (op_eqD hu)
theorem uo_ne (hu : X.A.units + 64 < cLine) : OpR X (compareOp .NotEq) (rNeU X.K) := opOr op_ne (op_neD hu)
def rLenQ (K : PySem.W.Frag) : List V → Hp → VK → Prop := fun xs H Q => ∃ p ys, xs = [.ref p] ∧ (SqL K H p ys ∨ SqT K H p ys) ∧ Q (.int ys.length) H
def rLenStr : List V → Hp → VK → Prop := fun xs H Q => ∃ z, xs = [.str z] ∧ z.length ≤ sizeLine ∧ Q (.int z.length) H
def rLenU (K : PySem.W.Frag) : List V → Hp → VK → Prop := fun xs H Q => rLenQ K xs H Q ∨ rLenStr xs H Q
theorem uc_len : CallR X (.builtin "len") (rLenU X.K) := callOr call_len_seq call_len_str
def rAbs : List V → Hp → VK → Prop := fun xs H Q => ∃ i, xs = [.int i] ∧ Q (.int (if i < 0 then -i else i)) H
theorem uc_abs : CallR X (.builtin "abs") rAbs := call_abs
def rIsiU (K : PySem.W.Frag) : List V → Hp → VK → Prop := fun xs H Q => rIsi K xs H Q ∨ rIsiT K xs H Q
theorem uc_isi : CallR X (.builtin "isinstance") (rIsiU X.K) := callOr call_isi call_isiT
def rInt1 : List V → Hp → VK → Prop := fun xs H Q => (∃ i, xs = [.int i] ∧ Q (.int i) H) ∨ ∃ k, xs = [.bl k] ∧ Q (.int (if k then 1 else 0)) H
theorem uc_int : CallR X (.type "int") rInt1 := call_int1
def rMin2 : List V → Hp → VK → Prop := fun xs H Q => ∃ i j, xs = [.int i, .int j] ∧ Q (.int (if j < i then j else i)) H
def rMax2 : List V → Hp → VK → Prop := fun xs H Q => ∃ i j, xs = [.int i, .int j] ∧ Q (.int (if j > i then j else i)) H
def rMinU (K : PySem.W.Frag) : List V → Hp → VK → Prop := fun xs H Q => rMin2 xs H Q ∨ rMin K xs H Q
def rMaxU (K : PySem.W.Frag) : List V → Hp → VK → Prop := fun xs H Q => rMax2 xs H Q ∨ rMax K xs H Q
theorem uc_min (hc : X.calm = true) : CallR X (.builtin "min") (rMinU X.K) := callOr (call_min2 hc) (cr_min hc)
theorem uc_max (hc : X.calm = true) : CallR X (.builtin "max") (rMaxU X.K) := callOr (call_max2 hc) (cr_max hc)
def rListOf (K : PySem.W.Frag) : List V → Hp → VK → Prop := fun xs H Q => ∃ p ys, xs = [.ref p] ∧ (SqL K H p ys ∨ SqT K H p ys) ∧ ∀ l, H l = none → Q (.ref l) (upd H l (.lst ys))
theorem uc_list : CallR X (.type "list") (rListOf X.K) := call_list_of
def iSeqU (K : PySem.W.Frag) (tl : TE) : TI := fun σ H R => iList K tl σ H R ∨ iTup K tl σ H R
theorem pi_seq {tg l : Expr} {tl : TE} (h : PE X l tl) : PI X tg l (iSeqU X.K tl) := piOr (pi_list h) (pi_tup h)
end

/-! ### a def that may be called -/
structure Cal (P : Program) (w : World) (K : PySem.W.Frag) (mg : Str → Option Value) (base : Heap) (x : Str) (k : Nat) (ps : List Str) (dvs : List V) (sp : Sp) : Prop where
  ex : ∃ (f : Addr) (fd : FuncData) (ds : List Value), FnOk P w K mg base CX0 k f fd ps sp ∧ mg x = some (.ref f) ∧ PySem.W.keepIn K (.ref f) = true ∧ Binds K fd ps ds ∧ Vals dvs ds
section
variable {X : Cx} {x : Str} {p pos : Pos} {e : Expr} {es : List Expr} {t : TA} {k : Nat} {ps : List Str} {dvs : List V} {sp : Sp}
theorem pe_cal (c : Cal X.prog X.w X.K X.mg X.base x k ps dvs sp) (hr : Room k X.A) (hg : Gl X x) (ha : PA X (e :: es) t) (hdb : (x == ("__debug__" : Str)) = false := by decide)
    (he : starEach (e :: es) X.env = (false, eval e X.env) :: starEach es X.env := by rfl) (hpl : (backTo pos (starEach es X.env)).any (·.1) = false := by rfl) : PE X (.Call (.Name x p) (e :: es) [] pos) (tCall sp dvs E0 t) := by
  obtain ⟨f, fd, ds, F, hm, hk, hb, hd⟩ := c.ex
  exact pe_call F hr hg hm hk hb hd pass0 ha hdb he hpl
theorem pe_cal0 (c : Cal X.prog X.w X.K X.mg X.base x k ps dvs sp) (hr : Room k X.A) (hg : Gl X x) (hdb : (x == ("__debug__" : Str)) = false := by decide) : PE X (.Call (.Name x p) [] [] pos) (tCall sp dvs E0 tNil) := by
  obtain ⟨f, fd, ds, F, hm, hk, hb, hd⟩ := c.ex
  exact pe_call0 F hr hg hm hk hb hd pass0 hdb
end

/-! ### steps of a reading -/
section
variable {K : PySem.W.Frag} {σ σ' : L2.St} {I H : Hp} {M M1 M2 : List (Addr × HO)} {Q : VK} {R : Bool → Hp → Prop} {RA : List V → Hp → Prop} {G : Ends} {ta tb tc te : TE} {t u : TS} {c c' : TT} {tA tr : TA} {g : TG} {r r' : R2} {i : Nat} {v x y : V} {xs vs : List V} {d : D} {ds es : List D}
-- statements
theorem s_seq (h : t { G with nx := u G } σ H) : tSeq t u G σ H := h
theorem s_next (h : G.nx σ H) : tNext G σ H := h
theorem s_brk (h : G.bk σ H) : tBreak G σ H := h
theorem s_cnt (h : G.ct σ H) : tCont G σ H := h
theorem s_ifS (h : c σ H fun b H1 => if b = true then t G σ H1 else u G σ H1) : tIfS c t u G σ H := h
theorem s_asg (h : te σ H fun x H1 => g x σ H1 G.nx) : tAsg te g G σ H := h
theorem s_ret (h : te σ H G.rt) : tRet te G σ H := h
theorem s_retN (h : G.rt .non H) : tRetN G σ H := h
theorem s_drop (h : te σ H fun _ H1 => G.nx σ H1) : tDrop te G σ H := h
theorem s_par {i j : Nat} (h : tA σ H fun vs H1 => ∃ v w, vs = [v, w] ∧ G.nx ((σ.set i (some v)).set j (some w)) H1) : tPar i j tA G σ H := h
theorem s_par2 {P : V → V → Prop} (h : P x y) : ∃ v w, [x, y] = [v, w] ∧ P v w := ⟨x, y, rfl, h⟩
theorem s_gname {T : L2.St → Hp → Prop} (h : T (σ.set i (some v)) H) : gName i v σ H T := h
/-- a mid-word: the ways of a statement meet -/
theorem s_mid (Mid : L2.St → Hp → Prop) (k : ∀ σ H, Mid σ H → u G σ H) (h : ∀ N : L2.St → Hp → Prop, (∀ σ' H', Mid σ' H' → N σ' H') → t { G with nx := N } σ H) : tSeq t u G σ H := h _ k
/-- .. (elder form) -/
theorem s_cut (Mid : L2.St → Hp → Prop) (h : t { G with nx := Mid } σ H) (k : ∀ σ H, Mid σ H → u G σ H) (mono : ∀ {G' : Ends}, True := by trivial) (hm : (∀ σ H, Mid σ H → u G σ H) → t { G with nx := Mid } σ H → t { G with nx := u G } σ H) : tSeq t u G σ H := hm k h
-- expressions
theorem s_var (h : σ[i]? = some (some v)) (q : Q v H) : tVar i σ H Q := ⟨v, h, q⟩
theorem s_c (q : Q v H) : tC v σ H Q := q
theorem s_op (h : ta σ H fun x H1 => tb σ H1 fun y H2 => r x y H2 Q) : tOp r ta tb σ H Q := h
theorem s_un {r : V → Hp → VK → Prop} (h : ta σ H fun x H1 => r x H1 Q) : tUn r ta σ H Q := h
theorem s_test (h : ta σ H fun x H' => ∃ k, x = .bl k ∧ R k H') : tTest ta σ H R := h
theorem s_B (h : ta σ H fun x H' => ∃ k, x = .bl k ∧ R k H') : tB ta σ H R := h
theorem s_k {b : Bool} {P : Bool → Prop} (h : P b) : ∃ k, V.bl b = .bl k ∧ P k := ⟨b, rfl, h⟩
theorem s_and (h : c σ H fun b H1 => if b = true then c' σ H1 R else R false H1) : tAnd c c' σ H R := h
theorem s_or (h : c σ H fun b H1 => if b = true then R true H1 else c' σ H1 R) : tOr c c' σ H R := h
theorem s_not (h : c σ H fun b H1 => R (!b) H1) : tNot c σ H R := h
theorem s_andV (h : ta σ H fun x H1 => ∃ c, x = .bl c ∧ if c = true then tb σ H1 Q else Q (.bl false) H1) : tAndV ta tb σ H Q := h
theorem s_orV (h : ta σ H fun x H1 => ∃ c, x = .bl c ∧ if c = true then Q (.bl true) H1 else tb σ H1 Q) : tOrV ta tb σ H Q := h
theorem s_notV (h : ta σ H fun x H1 => ∃ c, x = .bl c ∧ Q (.bl (!c)) H1) : tNotV ta σ H Q := h
theorem s_if (h : c σ H fun b H1 => if b = true then ta σ H1 Q else tb σ H1 Q) : tIf c ta tb σ H Q := h
theorem s_isN (h : ta σ H fun x H1 => Q (.bl (decide (x = .non))) H1) : tIsN ta σ H Q := h
theorem s_notN (h : ta σ H fun x H1 => Q (.bl (!decide (x = .non))) H1) : tNotN ta σ H Q := h
theorem s_chain (h : ta σ H fun x H1 => tb σ H1 fun y H2 => r x y H2 fun z H3 => ∃ k, z = .bl k ∧ if k = true then tc σ H3 fun w H4 => r' y w H4 Q else Q (.bl false) H3) : tChain r r' ta tb tc σ H Q := by
  unfold tChain
  exact h
theorem s_nil (h : RA [] H) : tNil σ H RA := h
theorem s_cons (h : ta σ H fun x H1 => tr σ H1 fun xs H2 => RA (x :: xs) H2) : tCons ta tr σ H RA := h
theorem s_call {sp : Sp} {dvs : List V} {E : XK} (h : tA σ H fun vs H1 => sp (vs ++ dvs) H1 Q E) : tCall sp dvs E tA σ H Q := h
theorem s_cb {r : List V → Hp → VK → Prop} (h : tA σ H fun vs H1 => r vs H1 Q) : tCB r tA σ H Q := h
-- ifs
theorem s_ite {b : Bool} {A B : Prop} (h1 : b = true → A) (h2 : b = false → B) : if b = true then A else B := by
  cases b with
  | true => exact iteT (h1 rfl)
  | false => exact iteF (h2 rfl)
theorem s_iteN {b : Bool} {A B : Prop} (h : if b = true then B else A) : if (!b) = true then A else B := by
  cases b with
  | true => exact iteF (by simpa using h)
  | false => exact iteT (by simpa using h)
theorem s_iteD {p : Prop} [Decidable p] {A B : Prop} (h1 : p → A) (h2 : ¬ p → B) : if decide p = true then A else B := s_ite (fun h => h1 (of_decide_eq_true h)) fun h => h2 (of_decide_eq_false h)
theorem s_iteDp {p : Prop} [Decidable p] {A B : Prop} (hp : p) (h1 : A) : if decide p = true then A else B := s_iteD (fun _ => h1) fun q => absurd hp q
theorem s_iteDn {p : Prop} [Decidable p] {A B : Prop} (hp : ¬ p) (h1 : B) : if decide p = true then A else B := s_iteD (fun q => absurd q hp) fun _ => h1
theorem s_iteI {i j : Int} {A B : Prop} (h1 : i = j → A) (h2 : i ≠ j → B) : if decide (V.int i = V.int j) = true then A else B := s_iteD (fun h => h1 (V.int.inj h)) fun h => h2 fun e => h (congrArg V.int e)
theorem s_iteIp {i j : Int} {A B : Prop} (hp : i = j) (h1 : A) : if decide (V.int i = V.int j) = true then A else B := s_iteI (fun _ => h1) fun q => absurd hp q
theorem s_iteIn {i j : Int} {A B : Prop} (hp : i ≠ j) (h1 : B) : if decide (V.int i = V.int j) = true then A else B := s_iteI (fun q => absurd q hp) fun _ => h1
-- ints
theorem s_I0 {f : Int → Int → V} {i j : Int} (q : Q (f i j) H) : rI0 f (.int i) (.int j) H Q := ⟨i, j, rfl, rfl, q⟩
theorem s_I {C : Int → Int → Prop} {f : Int → Int → V} {i j : Int} (hc : C i j) (q : Q (f i j) H) : rI C f (.int i) (.int j) H Q := ⟨i, j, rfl, rfl, hc, q⟩
theorem s_U {f : Int → V} {i : Int} (q : Q (f i) H) : rU f (.int i) H Q := ⟨i, rfl, q⟩
theorem s_add {i j : Int} (q : Q (.int (i + j)) H) : rAddU K (.int i) (.int j) H Q := .inl ⟨i, j, rfl, rfl, q⟩
theorem s_addS {i j : Str} (h : i.length + j.length ≤ sizeLine) (q : Q (.str (i ++ j)) H) : rAddU K (.str i) (.str j) H Q := .inr (.inl ⟨i, j, rfl, rfl, h, q⟩)
theorem s_mul {i j : Int} (hc : CMulW i j) (q : Q (.int (i * j)) H) : rMulU (.int i) (.int j) H Q := .inl ⟨i, j, rfl, rfl, hc, q⟩
theorem s_eq (h : scal x y = true) (q : Q (.bl (decide (x = y))) H) : rEqU K x y H Q := .inl ⟨h, q⟩
theorem s_ne (h : scal x y = true) (q : Q (.bl (!decide (x = y))) H) : rNeU K x y H Q := .inl ⟨h, q⟩
theorem s_abs {i : Int} (q : Q (.int (if i < 0 then -i else i)) H) : rAbs [.int i] H Q := ⟨i, rfl, q⟩
theorem s_intB {b : Bool} (q : Q (.int (if b then 1 else 0)) H) : rInt1 [.bl b] H Q := .inr ⟨b, rfl, q⟩
theorem s_intI {i : Int} (q : Q (.int i) H) : rInt1 [.int i] H Q := .inl ⟨i, rfl, q⟩
theorem s_min2 {i j : Int} (q : Q (.int (if j < i then j else i)) H) : rMinU K [.int i, .int j] H Q := .inl ⟨i, j, rfl, q⟩
theorem s_max2 {i j : Int} (q : Q (.int (if j > i then j else i)) H) : rMaxU K [.int i, .int j] H Q := .inl ⟨i, j, rfl, q⟩
-- reading what stays
theorem atI_isa {i : Int} (a : IsA I vs ds) (h : atI ds i = some d) : ∃ v, atI vs i = some v ∧ Is I v d := by
  unfold atI at h ⊢
  rw [a.length]
  cases e : ixN ds.length i with
  | none => rw [e] at h; cases h
  | some j => rw [e] at h; exact a.get h
theorem s_ixT {i : Int} (w : W I H M) (h : Is I v (.tup ds)) (hd : atI ds i = some d) (q : ∀ u, Is I u d → Q u H) : rIx K v (.int i) H Q := by
  obtain ⟨p, vs, rfl, hp, a⟩ := h.tup_ex
  obtain ⟨u, e, hu⟩ := atI_isa a hd
  exact .inr (.inl ⟨p, vs, i, u, rfl, rfl, .inl (.inl (w.imm _ _ hp)), e, q u hu⟩)
theorem s_ixL {i : Int} (w : W I H M) (h : Is I v (.lst ds)) (hd : atI ds i = some d) (q : ∀ u, Is I u d → Q u H) : rIx K v (.int i) H Q := by
  obtain ⟨p, vs, rfl, hp, a⟩ := h.lst_ex
  obtain ⟨u, e, hu⟩ := atI_isa a hd
  exact .inl ⟨p, vs, i, u, rfl, rfl, .inl (.inl (w.imm _ _ hp)), e, q u hu⟩
/-- .. of a list that may be changed -/
theorem s_ixM {p : Addr} {i : Int} (h : H p = some (.lst vs)) (hd : atI vs i = some v) (q : Q v H) : rIx K (.ref p) (.int i) H Q := .inl ⟨p, vs, i, v, rfl, rfl, .inl (.inl h), hd, q⟩
theorem s_lenL (w : W I H M) (h : Is I v (.lst ds)) (q : Q (.int ds.length) H) : rLenU K [v] H Q := by
  obtain ⟨p, vs, rfl, hp, a⟩ := h.lst_ex
  exact .inl ⟨p, vs, rfl, .inl (.inl (.inl (w.imm _ _ hp))), by rw [a.length]; exact q⟩
theorem s_lenT (w : W I H M) (h : Is I v (.tup ds)) (q : Q (.int ds.length) H) : rLenU K [v] H Q := by
  obtain ⟨p, vs, rfl, hp, a⟩ := h.tup_ex
  exact .inl ⟨p, vs, rfl, .inr (.inl (.inl (w.imm _ _ hp))), by rw [a.length]; exact q⟩
theorem s_lenM {p : Addr} (h : H p = some (.lst vs)) (q : Q (.int vs.length) H) : rLenU K [.ref p] H Q := .inl ⟨p, vs, rfl, .inl (.inl (.inl h)), q⟩
-- new things
def NewT (Q : VK) (xs : List V) (H : Hp) : Prop := xs.length ≤ sizeLine ∧ ∀ p, H p = none → Q (.ref p) (upd H p (.tup xs))
def NewL (Q : VK) (xs : List V) (H : Hp) : Prop := xs.length ≤ sizeLine ∧ ∀ p, H p = none → Q (.ref p) (upd H p (.lst xs))
theorem s_tup (h : tA σ H fun xs H1 => NewT Q xs H1) : tTup tA σ H Q := h
theorem s_lst (h : tA σ H fun xs H1 => NewL Q xs H1) : tLst tA σ H Q := h
theorem s_newT (w : W I H M) (a : IsA I xs ds) (hz : xs.length ≤ 1000) (q : ∀ p J H', Same I J → I p = none → W J H' M → Is J (.ref p) (.tup ds) → Q (.ref p) H') : NewT Q xs H :=
  ⟨Nat.le_trans hz (by decide), fun p hp => q p _ _ (w.same hp) (w.fresh hp) (w.newI hp) (.tup upd_same (a.mono (w.same hp)))⟩
theorem s_newL (w : W I H M) (a : IsA I xs ds) (hz : xs.length ≤ 1000) (q : ∀ p J H', Same I J → I p = none → W J H' M → Is J (.ref p) (.lst ds) → Q (.ref p) H') : NewL Q xs H :=
  ⟨Nat.le_trans hz (by decide), fun p hp => q p _ _ (w.same hp) (w.fresh hp) (w.newI hp) (.lst upd_same (a.mono (w.same hp)))⟩
theorem s_newM (w : W I H M) (hz : xs.length ≤ 1000) (q : ∀ p H', W I H' ((p, .lst xs) :: M) → Q (.ref p) H') : NewL Q xs H :=
  ⟨Nat.le_trans hz (by decide), fun p hp => q p _ (w.newM hp)⟩
/-- .. behind the head (the bag) -/
theorem s_newM2 {m : Addr × HO} (w : W I H (m :: M)) (hz : xs.length ≤ 1000) (q : ∀ p H', W I H' (m :: (p, .lst xs) :: M) → Q (.ref p) H') : NewL Q xs H :=
  ⟨Nat.le_trans hz (by decide), fun p hp => q p _ (w.newM2 hp)⟩
-- unpacking
theorem s_gtup {n : Nat} {gs : TGs} {T : L2.St → Hp → Prop} (w : W I H M) (h : Is I v (.tup ds)) (hn : ds.length = n) (q : ∀ xs, IsA I xs ds → gs xs σ H T) : gTup K n gs v σ H T := by
  obtain ⟨p, vs, rfl, hp, a⟩ := h.tup_ex
  exact ⟨p, vs, rfl, .inl (.inl (w.imm _ _ hp)), by rw [a.length]; exact hn, q vs a⟩
theorem s_gtup2 {gs : TGs} {T : L2.St → Hp → Prop} {d0 d1 : D} (w : W I H M) (h : Is I v (.tup [d0, d1])) (q : ∀ x y, Is I x d0 → Is I y d1 → gs [x, y] σ H T) : gTup K 2 gs v σ H T :=
  s_gtup w h rfl fun _ a => by
    cases a with | cons h0 a =>
    cases a with | cons h1 a =>
    cases a
    exact q _ _ h0 h1
theorem s_gtup3 {gs : TGs} {T : L2.St → Hp → Prop} {d0 d1 d2 : D} (w : W I H M) (h : Is I v (.tup [d0, d1, d2])) (q : ∀ x y z, Is I x d0 → Is I y d1 → Is I z d2 → gs [x, y, z] σ H T) : gTup K 3 gs v σ H T :=
  s_gtup w h rfl fun _ a => by
    cases a with | cons h0 a =>
    cases a with | cons h1 a =>
    cases a with | cons h2 a =>
    cases a
    exact q _ _ _ h0 h1 h2
theorem s_gtup4 {gs : TGs} {T : L2.St → Hp → Prop} {d0 d1 d2 d3 : D} (w : W I H M) (h : Is I v (.tup [d0, d1, d2, d3])) (q : ∀ x y z u, Is I x d0 → Is I y d1 → Is I z d2 → Is I u d3 → gs [x, y, z, u] σ H T) : gTup K 4 gs v σ H T :=
  s_gtup w h rfl fun _ a => by
    cases a with | cons h0 a =>
    cases a with | cons h1 a =>
    cases a with | cons h2 a =>
    cases a with | cons h3 a =>
    cases a
    exact q _ _ _ _ h0 h1 h2 h3
theorem s_gtup5 {gs : TGs} {T : L2.St → Hp → Prop} {d0 d1 d2 d3 d4 : D} (w : W I H M) (h : Is I v (.tup [d0, d1, d2, d3, d4])) (q : ∀ x y z u t, Is I x d0 → Is I y d1 → Is I z d2 → Is I u d3 → Is I t d4 → gs [x, y, z, u, t] σ H T) : gTup K 5 gs v σ H T :=
  s_gtup w h rfl fun _ a => by
    cases a with | cons h0 a =>
    cases a with | cons h1 a =>
    cases a with | cons h2 a =>
    cases a with | cons h3 a =>
    cases a with | cons h4 a =>
    cases a
    exact q _ _ _ _ _ h0 h1 h2 h3 h4
theorem s_gnil {T : L2.St → Hp → Prop} (q : T σ H) : gNil [] σ H T := ⟨rfl, q⟩
theorem s_gcons {gs : TGs} {T : L2.St → Hp → Prop} (h : g x σ H fun σ' H' => gs xs σ' H' T) : gCons g gs (x :: xs) σ H T := ⟨x, xs, rfl, h⟩
-- fields
theorem s_fld {f : Str} (h : ta σ H fun x H1 => ∃ a C dx fs v, x = .ref a ∧ H1 a = some (.ins C dx fs) ∧ Cls K C ∧ NoAttr K C f ∧ fs.lookup f = some v ∧ Q v H1) : tFld K ta f σ H Q := h
theorem s_fldAt {C : Addr} {f : Str} {fs : List (Str × D)} (w : W I H M) (h : Is I v (.obj C fs)) (hc : Cls K C) (hn : NoAttr K C f) (hd : fs.lookup f = some d) (q : ∀ u, Is I u d → Q u H) :
    ∃ a C dx fs u, v = .ref a ∧ H a = some (.ins C dx fs) ∧ Cls K C ∧ NoAttr K C f ∧ fs.lookup f = some u ∧ Q u H := by
  obtain ⟨p, dx, vs, rfl, hp, a⟩ := h.obj_ex
  obtain ⟨u, e, hu⟩ := a.get hd
  exact ⟨p, C, dx, vs, u, rfl, w.imm _ _ hp, hc, hn, e, q u hu⟩
-- isinstance
def D.tn : D → Option String
  | .non => some "NoneType" | .bl _ => some "bool" | .int _ => some "int" | .str _ => some "str" | .tup _ => some "tuple" | .lst _ => some "list" | .dict => some "dict" | _ => none
theorem Is.tyx {a : String} (w : W I H M) (h : Is I v d) (e : d.tn = some a) : TyX K H v (.type a) := by
  cases h with
  | non => cases e; exact .base .non
  | bl b => cases e; exact .base (.bl b)
  | int n => cases e; exact .base (.int n)
  | str n => cases e; exact .base (.str n)
  | tup hp _ => cases e; exact .base (.tup (w.imm _ _ hp))
  | lst hp _ => cases e; exact .base (.lst (w.imm _ _ hp))
  | ref a => cases e
  | ty n => cases e
  | obj _ _ => cases e
  | dct hp => cases e; exact .base (.dK (w.imm _ _ hp))
theorem s_isi {a b : String} {k : Bool} (w : W I H M) (h : Is I v d) (e : d.tn = some a) (hb : kitB a b = some k) (q : Q (.bl k) H) : rIsiU K [v, .ty b] H Q :=
  .inl ⟨v, .ty b, .type a, .type b, k, rfl, .ty b, h.tyx w e, kit_ty hb, q⟩
theorem kit_ii : kitB "int" "int" = some true := by decide +kernel
theorem kit_ib : kitB "int" "bool" = some false := by decide +kernel
theorem kit_bi : kitB "bool" "int" = some true := by decide +kernel
theorem kit_bb : kitB "bool" "bool" = some true := by decide +kernel
theorem kit_tt : kitB "tuple" "tuple" = some true := by decide +kernel
theorem kit_ll : kitB "list" "list" = some true := by decide +kernel
end
end Fs

namespace Fs
open PySem PySem.Spec PyProof.Rows L2

/-! ### the built-ins' names -/
structure Bn (mg : Str → Option Value) : Prop where
  len_ : mg "len" = none
  abs_ : mg "abs" = none
  isinstance_ : mg "isinstance" = none
  min_ : mg "min" = none
  max_ : mg "max" = none
  sum_ : mg "sum" = none
  sorted_ : mg "sorted" = none
  range_ : mg "range" = none
  zip_ : mg "zip" = none
  enumerate_ : mg "enumerate" = none
  reversed_ : mg "reversed" = none
  int_ : mg "int" = none
  bool_ : mg "bool" = none
  tuple_ : mg "tuple" = none
  list_ : mg "list" = none
  str_ : mg "str" = none
  dict_ : mg "dict" = none
  ValueError_ : mg "ValueError" = none
  set_ : mg "set" = none
  any_ : mg "any" = none
  all_ : mg "all" = none
section
variable {X : Cx} {pos : Pos}
theorem pe_globI {x : Str} {n : Int} (hg : Gl X x) (hm : ∃ t, X.mg x = some (.int n t)) (hd : (x == ("__debug__" : Str)) = false := by decide) : PE X (.Name x pos) (tC (.int n)) := by
  obtain ⟨t, e⟩ := hm
  exact pe_glob hg e ⟨t, rfl⟩ hd
theorem get_list : PGet X (rIxL X.K) := by
  intro pins s σ H x y v u Q I rx ry h
  obtain ⟨p, xs, i, z, rfl, rfl, hq, he, q⟩ := h
  cases rx
  obtain ⟨t, rfl⟩ := ry
  obtain ⟨its, r, pl, hz⟩ := I.list hq
  obtain ⟨j, h1, h2, h3, h4, h5⟩ := atI_get he
  obtain ⟨w, ew, rw'⟩ := r.get h2
  have hl := r.length
  have hn := line63
  have fin : EP X pins σ Q w s := ⟨z, H, I, rw', q⟩
  by_cases h0 : 0 ≤ i
  · have hj : i.toNat = j := by
      rw [seqIndex_of h0 h5] at h1
      exact Option.some.inj h1
    exact wpAny_getItem_list pl.isList h0 (by omega) (by rw [hj]; simpa using ew) fin
  · have hj : (i + (its.toArray.size : Int)).toNat = j := by
      rw [seqIndex_neg (by omega) h4] at h1
      rw [List.size_toArray, ← hl]
      exact Option.some.inj h1
    exact wpAny_getItem_list_neg pl.isList (by omega) (by rw [List.size_toArray] <;> omega) (by omega) (by rw [hj]; simpa using ew) fin
theorem ps_augL {o i e : Expr} {to ti te : TE} {tpos : Pos} (ho : PE X o to) (hi : PE X i ti) (he : PE X e te)
    (ha : ∀ ov iv new, augStore i ov iv new = (do holding [new, ov, iv] (setItem ov iv new); release [new, ov, iv] []; pure .next) := by intros; rfl) : PS X (.AugAssign (.Subscript o i tpos) .Add e pos) (tAugS to ti te (rIxL X.K) (ipI fun i j => i + j) rSetL) :=
  ps_augS ho hi get_list he ip_add set_list ha
end

/-! ### loops -/
section
variable {K : PySem.W.Frag} {σ : L2.St} {I H : Hp} {M : List (Addr × HO)} {G : Ends} {c : TT} {tb : TS} {g : TG}
theorem s_while (Pv : L2.St → Hp → Prop) (μ : L2.St → Nat) (h0 : Pv σ H)
    (hs : ∀ σ H, Pv σ H → c σ H fun b H1 => if b = true then ∃ N : L2.St → Hp → Prop, (∀ σ' H', N σ' H' → ∃ m', m' < μ σ ∧ m' = μ σ' ∧ Pv σ' H') ∧ tb { G with nx := N, ct := N, bk := G.nx } σ H1 else G.nx σ H1) : tWhile c tb G σ H := by
  refine ⟨fun m σ H => m = μ σ ∧ Pv σ H, ⟨_, rfl, h0⟩, ?_⟩
  rintro m σ H ⟨rfl, p⟩
  exact hs σ H p
theorem s_wN {Pv : L2.St → Hp → Prop} {μ : L2.St → Nat} {m : Nat} {σ1 : L2.St} (h : tb { G with nx := fun σ' H' => Pv σ' H' ∧ μ σ' < m, ct := fun σ' H' => Pv σ' H' ∧ μ σ' < m, bk := G.nx } σ1 H) :
    ∃ N : L2.St → Hp → Prop, (∀ σ' H', N σ' H' → ∃ m', m' < m ∧ m' = μ σ' ∧ Pv σ' H') ∧ tb { G with nx := N, ct := N, bk := G.nx } σ1 H :=
  ⟨_, fun _ _ h => ⟨_, h.2, rfl, h.1⟩, h⟩
theorem s_for {wi : TI} (h : wi σ H fun J H1 => ∃ W : Nat → Nat → L2.St → Hp → Prop, (∃ m, W 0 m σ H1) ∧ ∀ i m σ H, W i m σ H →
  (J.stop i H ∧ G.nx σ H) ∨ (J.go i H ∧ ∃ N : L2.St → Hp → Prop, (∀ σ' H', N σ' H' → ∃ m', m' < m ∧ W (i + 1) m' σ' H') ∧ ∀ x H', J.yld i H x H' → g x σ H' fun σ2 H2 => tb { G with nx := N, ct := N, bk := G.nx } σ2 H2)) : tFor wi g tb G σ H := h
theorem s_rng1 {ta : TA} {R : It → Hp → Prop} (h : ta σ H fun vs H1 => ∃ j : Int, vs = [.int j] ∧ -(2 ^ 62) ≤ j ∧ j < 2 ^ 62 ∧ R (Itr 0 j.toNat) H1) : iRng1 ta σ H R := h
theorem s_rng1' {P : Int → Prop} {j : Int} (h1 : -(2 ^ 62) ≤ j) (h2 : j < 2 ^ 62) (h : P j) : ∃ i : Int, [V.int j] = [.int i] ∧ -(2 ^ 62) ≤ i ∧ i < 2 ^ 62 ∧ P i := ⟨j, rfl, h1, h2, h⟩
theorem s_iL {tl : TE} {R : It → Hp → Prop} (h : tl σ H fun x H1 => ∃ a, x = .ref a ∧ (∃ xs, SqL K H1 a xs) ∧ R (Itl K a) H1) : iList K tl σ H R := h
theorem s_iT {tl : TE} {R : It → Hp → Prop} (h : tl σ H fun x H1 => ∃ a, x = .ref a ∧ (∃ xs, SqT K H1 a xs) ∧ R (Itt K a) H1) : iTup K tl σ H R := h
/-- a for over a list that stays: the word Pv over the turn, the slots, the heap; it says W of an extension of I -/
theorem s_forL {ds : List D} {v : V} (w : W I H M) (h : Is I v (.lst ds)) (Pv : Nat → L2.St → Hp → Prop) (h0 : Pv 0 σ H) (hI : ∀ i σ H, Pv i σ H → Same I H)
    (hs : ∀ i d x σ H, ds[i]? = some d → Is I x d → Pv i σ H → g x σ H fun σ2 H2 => tb { G with nx := Pv (i + 1), ct := Pv (i + 1), bk := G.nx } σ2 H2) (hd : ∀ σ H, Pv ds.length σ H → G.nx σ H) :
    ∃ a, v = .ref a ∧ (∃ xs, SqL K H a xs) ∧ ∃ W : Nat → Nat → L2.St → Hp → Prop, (∃ m, W 0 m σ H) ∧ ∀ i m σ H, W i m σ H →
      ((Itl K a).stop i H ∧ G.nx σ H) ∨ ((Itl K a).go i H ∧ ∃ N : L2.St → Hp → Prop, (∀ σ' H', N σ' H' → ∃ m', m' < m ∧ W (i + 1) m' σ' H') ∧ ∀ x H', (Itl K a).yld i H x H' → g x σ H' fun σ2 H2 => tb { G with nx := N, ct := N, bk := G.nx } σ2 H2) := by
  obtain ⟨p, vs, rfl, hp, a⟩ := h.lst_ex
  refine ⟨p, rfl, ⟨vs, .inl (.inl (w.imm _ _ hp))⟩, ?_⟩
  refine for_it (walk_list (K := K) (xs := vs)) Pv h0 (fun i σ H _ q => .inl (.inl (hI i σ H q _ _ hp))) (fun i x σ H H' hi q y => ?_) (fun σ H q => hd σ H (by rw [← a.length]; exact q))
  obtain ⟨rfl, e⟩ := y
  obtain ⟨d, e1, e2⟩ := a.of e
  exact hs i d x σ _ e1 e2 q
theorem s_forT {ds : List D} {v : V} (w : W I H M) (h : Is I v (.tup ds)) (Pv : Nat → L2.St → Hp → Prop) (h0 : Pv 0 σ H) (hI : ∀ i σ H, Pv i σ H → Same I H)
    (hs : ∀ i d x σ H, ds[i]? = some d → Is I x d → Pv i σ H → g x σ H fun σ2 H2 => tb { G with nx := Pv (i + 1), ct := Pv (i + 1), bk := G.nx } σ2 H2) (hd : ∀ σ H, Pv ds.length σ H → G.nx σ H) :
    ∃ a, v = .ref a ∧ (∃ xs, SqT K H a xs) ∧ ∃ W : Nat → Nat → L2.St → Hp → Prop, (∃ m, W 0 m σ H) ∧ ∀ i m σ H, W i m σ H →
      ((Itt K a).stop i H ∧ G.nx σ H) ∨ ((Itt K a).go i H ∧ ∃ N : L2.St → Hp → Prop, (∀ σ' H', N σ' H' → ∃ m', m' < m ∧ W (i + 1) m' σ' H') ∧ ∀ x H', (Itt K a).yld i H x H' → g x σ H' fun σ2 H2 => tb { G with nx := N, ct := N, bk := G.nx } σ2 H2) := by
  obtain ⟨p, vs, rfl, hp, a⟩ := h.tup_ex
  refine ⟨p, rfl, ⟨vs, .inl (.inl (w.imm _ _ hp))⟩, ?_⟩
  refine for_it (walk_tup (K := K) (xs := vs)) Pv h0 (fun i σ H _ q => .inl (.inl (hI i σ H q _ _ hp))) (fun i x σ H H' hi q y => ?_) (fun σ H q => hd σ H (by rw [← a.length]; exact q))
  obtain ⟨rfl, e⟩ := y
  obtain ⟨d, e1, e2⟩ := a.of e
  exact hs i d x σ _ e1 e2 q
theorem s_forR {lo : Int} {n : Nat} (Pv : Nat → L2.St → Hp → Prop) (h0 : Pv 0 σ H)
    (hs : ∀ i σ H, i < n → Pv i σ H → g (.int (lo + i)) σ H fun σ2 H2 => tb { G with nx := Pv (i + 1), ct := Pv (i + 1), bk := G.nx } σ2 H2) (hd : ∀ σ H, Pv n σ H → G.nx σ H) :
    ∃ W : Nat → Nat → L2.St → Hp → Prop, (∃ m, W 0 m σ H) ∧ ∀ i m σ H, W i m σ H →
      ((Itr lo n).stop i H ∧ G.nx σ H) ∨ ((Itr lo n).go i H ∧ ∃ N : L2.St → Hp → Prop, (∀ σ' H', N σ' H' → ∃ m', m' < m ∧ W (i + 1) m' σ' H') ∧ ∀ x H', (Itr lo n).yld i H x H' → g x σ H' fun σ2 H2 => tb { G with nx := N, ct := N, bk := G.nx } σ2 H2) := for_range Pv h0 hs hd
end

/-! ### changing a list -/
section
variable {K : PySem.W.Frag} {σ : L2.St} {I H : Hp} {M : List (Addr × HO)} {Q : VK} {x v : V} {xs vs : List V} {p : Addr} {ta te ti : TE} {tA : TA}
theorem s_bm {T : String} {r : V → List V → Hp → VK → Prop} (h : ta σ H fun x H1 => tyV K T x H1 ∧ tA σ H1 fun xs H2 => r x xs H2 Q) : tBM K T r ta tA σ H Q := h
theorem s_bm0 {T : String} {r : V → List V → Hp → VK → Prop} (h : ta σ H fun x H1 => tyV K T x H1 ∧ r x [] H1 Q) : tBM0 K T r ta σ H Q := h
theorem s_tyL {A : Prop} (h : H p = some (.lst xs)) (a : A) : tyV K "list" (.ref p) H ∧ A := ⟨.inl ⟨rfl, _, .inl (.inl h)⟩, a⟩
theorem s_app (h : H p = some (.lst xs)) (hz : xs.length ≤ 100000) (q : Q .non (upd H p (.lst (xs ++ [x])))) : rAppend (.ref p) [x] H Q := ⟨p, xs, x, rfl, rfl, h, Nat.lt_of_le_of_lt hz (by decide), q⟩
theorem s_clear (h : H p = some (.lst xs)) (q : Q .non (upd H p (.lst []))) : rClear (.ref p) [] H Q := ⟨p, xs, rfl, rfl, h, q⟩
theorem s_gsub {T : L2.St → Hp → Prop} {t : TSet} (h : ta σ H fun o H1 => ti σ H1 fun i H2 => t o i v H2 fun H3 => T σ H3) : gSub ta ti t v σ H T := h
theorem s_setL {T : Hp → Prop} {k : Int} {j : Nat} (h : H p = some (.lst xs)) (hj : ixN xs.length k = some j) (q : T (upd H p (.lst (xs.set j v)))) : rSetL (.ref p) (.int k) v H T := ⟨p, xs, k, j, rfl, rfl, h, hj, q⟩
theorem s_augS {G : Ends} {tget : V → V → Hp → VK → Prop} {tip : TIp} {tset : TSet} (h : ta σ H fun o H1 => ti σ H1 fun i H2 => tget o i H2 fun x H3 => te σ H3 fun y H4 => tip x y H4 fun z H5 => tset o i z H5 fun H6 => G.nx σ H6) : tAugS ta ti te tget tip tset G σ H := h
theorem s_ixLM {k : Int} (h : H p = some (.lst xs)) (hd : atI xs k = some v) (q : Q v H) : rIxL K (.ref p) (.int k) H Q := ⟨p, xs, k, v, rfl, rfl, .inl (.inl h), hd, q⟩
theorem s_ipI {f : Int → Int → Int} {i j : Int} (q : Q (.int (f i j)) H) : ipI f (.int i) (.int j) H Q := ⟨i, j, rfl, rfl, q⟩
def RevQ (K : PySem.W.Frag) (Q : VK) (v : V) (H : Hp) : Prop := ∃ a xs, v = .ref a ∧ SqL K H a xs ∧ ∀ p, H p = none → Q (.ref p) (upd H p (.lst xs.reverse))
theorem s_rev (h : te σ H fun x H1 => RevQ K Q x H1) : tRevL K te σ H Q := h
theorem s_rev' {ds : List D} (w : W I H M) (h : Is I v (.lst ds)) (q : ∀ p J H', Same I J → I p = none → W J H' M → Is J (.ref p) (.lst ds.reverse) → Q (.ref p) H') : RevQ K Q v H := by
  obtain ⟨p, vs, rfl, hp, a⟩ := h.lst_ex
  exact ⟨p, vs, rfl, .inl (.inl (w.imm _ _ hp)), fun l hl => q l _ _ (w.same hl) (w.fresh hl) (w.newI hl) (.lst upd_same (a.rev.mono (w.same hl)))⟩
end

section
variable {K : PySem.W.Frag} {σ : L2.St} {I H : Hp} {M : List (Addr × HO)} {Q : VK} {x v : V} {xs vs : List V} {p : Addr} {ta te ti : TE} {tA : TA} {m0 m1 : Addr × HO} {d0 d1 : D} {ds : List D}
theorem s_setW0 {T : Hp → Prop} {k : Int} {j : Nat} (w : W I H ((p, .lst xs) :: M)) (hj : ixN xs.length k = some j) (q : ∀ H', W I H' ((p, .lst (xs.set j v)) :: M) → T H') : rSetL (.ref p) (.int k) v H T := s_setL w.at0 hj (q _ w.put0)
theorem s_setW1 {T : Hp → Prop} {k : Int} {j : Nat} (w : W I H (m0 :: (p, .lst xs) :: M)) (hj : ixN xs.length k = some j) (q : ∀ H', W I H' (m0 :: (p, .lst (xs.set j v)) :: M) → T H') : rSetL (.ref p) (.int k) v H T := s_setL w.at1 hj (q _ w.put1)
theorem s_appW0 (w : W I H ((p, .lst xs) :: M)) (hz : xs.length ≤ 100000) (q : ∀ H', W I H' ((p, .lst (xs ++ [x])) :: M) → Q .non H') : rAppend (.ref p) [x] H Q := s_app w.at0 hz (q _ w.put0)
theorem s_appW1 (w : W I H (m0 :: (p, .lst xs) :: M)) (hz : xs.length ≤ 100000) (q : ∀ H', W I H' (m0 :: (p, .lst (xs ++ [x])) :: M) → Q .non H') : rAppend (.ref p) [x] H Q := s_app w.at1 hz (q _ w.put1)
theorem s_appW2 (w : W I H (m0 :: m1 :: (p, .lst xs) :: M)) (hz : xs.length ≤ 100000) (q : ∀ H', W I H' (m0 :: m1 :: (p, .lst (xs ++ [x])) :: M) → Q .non H') : rAppend (.ref p) [x] H Q := s_app w.at2 hz (q _ w.put2)
theorem W.frz0 {o : HO} (w : W I H ((p, o) :: M)) : W (upd I p o) H M := W.frz (M1 := []) w
theorem W.frz1 {o : HO} (w : W I H (m0 :: (p, o) :: M)) : W (upd I p o) H (m0 :: M) := W.frz (M1 := [m0]) w
theorem W.frz2 {o : HO} (w : W I H (m0 :: m1 :: (p, o) :: M)) : W (upd I p o) H (m0 :: m1 :: M) := W.frz (M1 := [m0, m1]) w
theorem W.frzS0 {o : HO} (w : W I H ((p, o) :: M)) : Same I (upd I p o) := W.frzS (M1 := []) w
theorem W.frzS1 {o : HO} (w : W I H (m0 :: (p, o) :: M)) : Same I (upd I p o) := W.frzS (M1 := [m0]) w
theorem W.frzS2 {o : HO} (w : W I H (m0 :: m1 :: (p, o) :: M)) : Same I (upd I p o) := W.frzS (M1 := [m0, m1]) w
/-- a list that grew stays from now on -/
theorem W.done0 (w : W I H ((p, .lst vs) :: M)) (a : IsA I vs ds) : ∃ J, Same I J ∧ W J H M ∧ Is J (.ref p) (.lst ds) := ⟨_, w.frzS0, w.frz0, .lst upd_same (a.mono w.frzS0)⟩
theorem W.done1 (w : W I H (m0 :: (p, .lst vs) :: M)) (a : IsA I vs ds) : ∃ J, Same I J ∧ W J H (m0 :: M) ∧ Is J (.ref p) (.lst ds) := ⟨_, w.frzS1, w.frz1, .lst upd_same (a.mono w.frzS1)⟩
theorem W.done2 (w : W I H (m0 :: m1 :: (p, .lst vs) :: M)) (a : IsA I vs ds) : ∃ J, Same I J ∧ W J H (m0 :: m1 :: M) ∧ Is J (.ref p) (.lst ds) := ⟨_, w.frzS2, w.frz2, .lst upd_same (a.mono w.frzS2)⟩
-- an item by an open place
theorem at_nat {α : Type} {l : List α} {i : Int} (h0 : 0 ≤ i) (h1 : i < l.length) : ∃ d, d ∈ l ∧ atI l i = some d := by
  have h2 : i.toNat < l.length := by omega
  have e : (i.toNat : Int) = i := by omega
  refine ⟨l[i.toNat], List.getElem_mem h2, ?_⟩
  have q := atI_nat (List.getElem?_eq_getElem h2)
  rw [e] at q
  exact q
theorem at_ints {ns : List Int} {z : Int} (h0 : 0 ≤ z) (h1 : z < ns.length) : ∃ n, n ∈ ns ∧ atI (ns.map D.int) z = some (.int n) := by
  obtain ⟨d, hd, e⟩ := at_nat (l := ns.map D.int) h0 (by simpa using h1)
  obtain ⟨n, hn, rfl⟩ := List.mem_map.mp hd
  exact ⟨n, hn, e⟩
theorem s_ixAny {i : Int} (w : W I H M) (h : Is I v (.lst ds)) (h0 : 0 ≤ i) (h1 : i < ds.length) (q : ∀ d u, d ∈ ds → Is I u d → Q u H) : rIx K v (.int i) H Q := by
  obtain ⟨d, hd, e⟩ := at_nat h0 h1
  exact s_ixL w h e fun u hu => q d u hd hu
theorem s_ixB {b : Bool} {m n : Int} (w : W I H M) (h : Is I v (.lst [.int m, .int n])) (q : ∀ k, k = m ∨ k = n → Q (.int k) H) : rIx K v (.int (if b then 1 else 0)) H Q := by
  cases b with
  | true => exact s_ixL w h (d := .int n) rfl fun u hu => by rw [hu.int_eq]; exact q n (.inr rfl)
  | false => exact s_ixL w h (d := .int m) rfl fun u hu => by rw [hu.int_eq]; exact q m (.inl rfl)
-- slices
theorem s_sl {r : V → Option Int → Option Int → Hp → VK → Prop} {tl th : TO} (h : te σ H fun x H1 => tl σ H1 fun lo H2 => th σ H2 fun hi H3 => r x lo hi H3 Q) : tSl r te tl th σ H Q := h
theorem s_noP {R : Option Int → Hp → Prop} (h : R none H) : tNoPart σ H R := h
theorem s_part {R : Option Int → Hp → Prop} (h : te σ H fun x H1 => ∃ i, x = .int i ∧ R (some i) H1) : tPart te σ H R := h
theorem s_part' {P : Int → Prop} {i : Int} (h : P i) : ∃ j, V.int i = .int j ∧ P j := ⟨i, rfl, h⟩
theorem s_slK {a : Addr} {lo hi : Option Int} (h : SqL K H a xs) (q : ∀ p, H p = none → Q (.ref p) (upd H p (.lst (cutV xs lo hi)))) : rSlL K (.ref a) lo hi H Q := ⟨a, xs, rfl, h, q⟩
-- comprehensions
theorem s_lc0 {wi : TI} {g : TG} {tt : TT} {xs : List Nat} (h : wi σ H fun J H1 => ∀ D, H1 D = none → ∃ W : Nat → Nat → Hp → Prop, (∃ m, W 0 m (upd H1 D (.lst []))) ∧ ∀ i m H, W i m H →
  (J.stop i H ∧ Q (.ref D) H) ∨ (J.go i H ∧ ∃ Nx : Hp → Prop, (∀ H', Nx H' → ∃ m', m' < m ∧ W (i + 1) m' H') ∧ ∀ x H', J.yld i H x H' → g x (wipe σ xs) H' fun σ2 H2 => wipe σ2 xs = wipe σ xs ∧ tt σ2 H2 fun b H3 =>
    if b = true then te σ2 H3 fun y H4 => ∃ acc, H4 D = some (.lst acc) ∧ acc.length < sizeLine ∧ Nx (upd H4 D (.lst (acc ++ [y]))) else Nx H3)) : tLc wi g tt te xs σ H Q := h
theorem s_yes {R : Bool → Hp → Prop} (h : R true H) : tYes σ H R := h
theorem s_iL' {R : Addr → Prop} (w : W I H M) (h : Is I v (.lst ds)) (q : ∀ a vs, v = .ref a → I a = some (.lst vs) → IsA I vs ds → R a) : ∃ a, v = .ref a ∧ (∃ xs, SqL K H a xs) ∧ R a := by
  obtain ⟨p, vs, rfl, hp, a⟩ := h.lst_ex
  exact ⟨p, rfl, ⟨vs, .inl (.inl (w.imm _ _ hp))⟩, q p vs rfl hp a⟩
end
/-- a written power -/
theorem op_powC {X : Cx} (n : Int) : OpR X (binaryOp .Pow) (rI (fun i j => CPow i j ∧ i ^ j.toNat = n) fun _ _ => .int n) := by
  intro pins s σ H x y v u Q I rx ry h
  obtain ⟨i, j, rfl, rfl, ⟨hc, e⟩, q⟩ := h
  exact op_pow pins s σ H _ _ v u Q I rx ry ⟨i, j, rfl, rfl, hc, by show Q (V.int (i ^ j.toNat)) H; rw [e]; exact q⟩
theorem cut63 (ns : List Int) (lo hi : Option Int) : ∃ ms : List Int, cutV (ns.map V.int) lo hi = ms.map V.int := by
  unfold cutV
  refine ⟨(ns.drop (HT.sIx (ns.map V.int).length 0 lo)).take (HT.sIx (ns.map V.int).length (ns.map V.int).length hi - HT.sIx (ns.map V.int).length 0 lo), ?_⟩
  rw [List.map_take, List.map_drop]

/-! ### sizes of numbers -/
def Bd (k : Nat) (x : Int) : Prop := x.natAbs < 2 ^ k
theorem Bd.mono {j k : Nat} {x : Int} (h : Bd j x) (hk : j ≤ k) : Bd k x := Nat.lt_of_lt_of_le h (Nat.pow_le_pow_right (by decide) hk)
theorem Bd.mul {j k : Nat} {x y : Int} (hx : Bd j x) (hy : Bd k y) : Bd (j + k) (x * y) := wide_lt hx hy
theorem Bd.neg {k : Nat} {x : Int} (h : Bd k x) : Bd k (-x) := by unfold Bd at *; rw [Int.natAbs_neg]; exact h
theorem Bd.add {k : Nat} {x y : Int} (hx : Bd k x) (hy : Bd k y) : Bd (k + 1) (x + y) := by
  unfold Bd at *
  have : (2 : Nat) ^ (k + 1) = 2 ^ k + 2 ^ k := by rw [Nat.pow_succ]; omega
  omega
theorem Bd.sub {k : Nat} {x y : Int} (hx : Bd k x) (hy : Bd k y) : Bd (k + 1) (x - y) := by
  unfold Bd at *
  have : (2 : Nat) ^ (k + 1) = 2 ^ k + 2 ^ k := by rw [Nat.pow_succ]; omega
  omega
theorem Bd.le {k : Nat} {x y : Int} (h : Bd k y) (hx : x.natAbs ≤ y.natAbs) : Bd k x := Nat.lt_of_le_of_lt hx h
theorem Bd.of {k : Nat} {x : Int} (n : Nat) (h : x.natAbs ≤ n) (hn : n < 2 ^ k := by decide) : Bd k x := Nat.lt_of_le_of_lt h hn
theorem Bd.cm {j k : Nat} {x y : Int} (hx : Bd j x) (hy : Bd k y) (h : j + k ≤ 900000 := by omega) : CMulW x y :=
  wide_mul (hx.mono (Nat.le_succ j)) (hy.mono (Nat.le_succ k)) (Nat.succ_pos _) (Nat.succ_pos _) (by omega)
theorem Bd.cd {k : Nat} {x y : Int} (hy : Bd k y) (h0 : 0 < y) (h : k ≤ 8000 := by omega) : CDivW x y := wide_div h0 (hy.mono (Nat.le_succ k)) (Nat.succ_pos _) (by omega)
theorem cm64 {i j : Int} (h1 : -18446744073709551616 ≤ i) (h2 : i ≤ 18446744073709551616) (h3 : -18446744073709551616 ≤ j) (h4 : j ≤ 18446744073709551616) : CMulW i j :=
  Bd.cm (j := 65) (k := 65) (Bd.of 18446744073709551616 (by omega)) (Bd.of 18446744073709551616 (by omega))
theorem cd64 {i j : Int} (h1 : 0 < j) (h2 : j ≤ 18446744073709551616) : CDivW i j := Bd.cd (k := 65) (Bd.of 18446744073709551616 (by omega)) h1

theorem W.zero {H : Hp} : W (fun _ => none) H [] := ⟨fun _ _ h => (nomatch h), fun _ h => (nomatch h), List.nodup_nil⟩
/-! ### fractions as data -/
abbrev fr (a b : Int) : D := .tup [.int a, .int b]

/-! ### the bag of draws: c is where its cells stand -/
structure BagAt (o : HO) (c : Addr) (x y z : Int) : Prop where
  ob : o = .lst [.int x, .int y, .int z, .ref c]
  x0 : 0 ≤ x
  y0 : 0 ≤ y
  y1 : y < 2147483647
  z0 : 0 ≤ z
def Bag (I : Hp) (c : Addr) (o : HO) : Prop := (∃ ns : List Int, I c = some (.lst (ns.map V.int)) ∧ ∀ n ∈ ns, 0 ≤ n) ∧ ∃ x y z, BagAt o c x y z
theorem Bag.mono {I J : Hp} {c : Addr} {o : HO} (s : Same I J) (h : Bag I c o) : Bag J c o := by
  obtain ⟨⟨ns, h1, h2⟩, h3⟩ := h
  exact ⟨⟨ns, s _ _ h1, h2⟩, h3⟩
end Fs

namespace Fs
open PySem PySem.Spec PyProof.Rows L2

/-! ### what stayed may be changed from now on -/
def del (I : Hp) (p : Addr) : Hp := fun a => if a = p then none else I a
theorem del_ne {I : Hp} {p a : Addr} (h : a ≠ p) : del I p a = I a := if_neg h
theorem del_same {I : Hp} {p : Addr} : del I p p = none := if_pos rfl
theorem same_del {J I : Hp} {p : Addr} (s : Same J I) (h : J p = none) : Same J (del I p) := fun b o e => by
  rw [del_ne (ne_of_none e h)]
  exact s b o e
section
variable {I J H : Hp} {M : List (Addr × HO)} {p : Addr} {o : HO} {m : Addr × HO}
theorem W.unf (w : W I H M) (h : I p = some o) : W (del I p) H ((p, o) :: M) where
  imm := fun b x e => by
    by_cases hb : b = p
    · subst hb; rw [del_same] at e; cases e
    · rw [del_ne hb] at e; exact w.imm b x e
  mu := fun x hx => by
    rcases List.mem_cons.mp hx with e | hx
    · subst e; exact ⟨w.imm _ _ h, del_same⟩
    · have q := w.mu x hx
      refine ⟨q.1, ?_⟩
      by_cases hb : x.1 = p
      · rw [hb]; exact del_same
      · rw [del_ne hb]; exact q.2
  nd := List.nodup_cons.mpr (And.intro (fun q => (by
    obtain ⟨x, hx, e⟩ := List.mem_map.mp q
    have := (w.mu x hx).2
    rw [e, h] at this
    cases this)) w.nd)
theorem W.swap {m0 m1 : Addr × HO} (w : W I H (m0 :: m1 :: M)) : W I H (m1 :: m0 :: M) := by
  refine ⟨w.imm, fun x hx => w.mu x ?_, ?_⟩
  · rcases List.mem_cons.mp hx with e | hx
    · exact List.mem_cons.mpr (.inr (List.mem_cons.mpr (.inl e)))
    · rcases List.mem_cons.mp hx with e | hx
      · exact List.mem_cons.mpr (.inl e)
      · exact List.mem_cons.mpr (.inr (List.mem_cons.mpr (.inr hx)))
  · have n := w.nd
    simp only [List.map_cons, List.nodup_cons, List.mem_cons, not_or] at n ⊢
    exact ⟨⟨fun e => n.1.1 e.symm, n.2.1⟩, n.1.2, n.2.2⟩
/-- behind the head -/
theorem W.unf1 (w : W I H (m :: M)) (h : I p = some o) : W (del I p) H (m :: (p, o) :: M) := (w.unf h).swap
theorem W.less (w : W I H (m :: M)) : W I H M := ⟨w.imm, fun x hx => w.mu x (List.mem_cons_of_mem _ hx), (List.nodup_cons.mp w.nd).2⟩
/-- fewer facts -/
theorem W.sub (w : W I H M) (s : Same J I) : W J H M := ⟨s.trans w.imm, fun x hx => ⟨(w.mu x hx).1, s.free (w.mu x hx).2⟩, w.nd⟩
theorem Bag.at {c : Addr} (h : Bag I c o) (hp : I p = none) : c ≠ p := by
  obtain ⟨⟨ns, h1, _⟩, _⟩ := h
  exact ne_of_none h1 hp
theorem Bag.del {c : Addr} (h : Bag I c o) (hp : c ≠ p) : Bag (del I p) c o := by
  obtain ⟨⟨ns, h1, h2⟩, h3⟩ := h
  exact ⟨⟨ns, by rw [del_ne hp]; exact h1, h2⟩, h3⟩
end

/-! ### == of data without truths -/
mutual
def D.pd : D → PyData
  | .non => .none
  | .bl b => .bool b
  | .int i => .int i
  | .str x => .str x
  | .ref _ => .none
  | .ty _ => .none
  | .tup ds => .tuple (D.pds ds)
  | .lst ds => .list (D.pds ds)
  | .obj _ _ => .none
  | .dict => .none
def D.pds : List D → List PyData
  | [] => []
  | d :: ds => D.pd d :: D.pds ds
end
/-- data of at most this depth, no truths in it -/
inductive NB : Nat → D → Prop
  | non {k : Nat} : NB k .non
  | int {k : Nat} (i : Int) : NB k (.int i)
  | str {k : Nat} {x : Str} (h : PyData.strOk x = true) : NB k (.str x)
  | tup {k : Nat} {ds : List D} (h : ∀ d ∈ ds, NB k d) : NB (k + 1) (.tup ds)
  | lst {k : Nat} {ds : List D} (h : ∀ d ∈ ds, NB k d) : NB (k + 1) (.lst ds)
theorem NB.mono {j : Nat} {d : D} (h : NB j d) : ∀ {k : Nat}, j ≤ k → NB k d := by
  induction h with
  | non => intro k _; exact .non
  | int i => intro k _; exact .int i
  | str h => intro k _; exact .str h
  | @tup j ds h ih =>
    intro k e
    cases k with
    | zero => omega
    | succ k => exact .tup fun d hd => ih d hd (by omega)
  | @lst j ds h ih =>
    intro k e
    cases k with
    | zero => omega
    | succ k => exact .lst fun d hd => ih d hd (by omega)
theorem pds_can : ∀ {ds : List D} {k : Nat}, (∀ d ∈ ds, (D.pd d).canLay0 = true ∧ (D.pd d).depth ≤ k) → PyData.canLayAll0 (D.pds ds) = true ∧ PyData.depthAll (D.pds ds) ≤ k
  | [], _, _ => ⟨by simp [D.pds, PyData.canLayAll0], by simp [D.pds, PyData.depthAll]⟩
  | d :: ds, k, h => by
    obtain ⟨h1, h2⟩ := h d List.mem_cons_self
    obtain ⟨h3, h4⟩ := pds_can (ds := ds) (k := k) fun e he => h e (List.mem_cons_of_mem _ he)
    exact ⟨by simp [D.pds, PyData.canLayAll0, h1, h3], by simp only [D.pds, PyData.depthAll]; omega⟩
theorem NB.can {k : Nat} {d : D} (h : NB k d) : (D.pd d).canLay0 = true ∧ (D.pd d).depth ≤ k := by
  induction h with
  | non => exact ⟨by simp [D.pd, PyData.canLay0], by simp [D.pd, PyData.depth]⟩
  | int i => exact ⟨by simp [D.pd, PyData.canLay0], by simp [D.pd, PyData.depth]⟩
  | str h => exact ⟨by simp [D.pd, PyData.canLay0, h], by simp [D.pd, PyData.depth]⟩
  | tup h ih =>
    obtain ⟨h1, h2⟩ := pds_can ih
    exact ⟨by simp [D.pd, PyData.canLay0, h1], by simp only [D.pd, PyData.depth]; omega⟩
  | lst h ih =>
    obtain ⟨h1, h2⟩ := pds_can ih
    exact ⟨by simp [D.pd, PyData.canLay0, h1], by simp only [D.pd, PyData.depth]; omega⟩
theorem NB.shaped {k : Nat} {d : D} (h : NB k d) (hk : k ≤ 64) : SeqAt.shaped (D.pd d) = true := by
  obtain ⟨h1, h2⟩ := h.can
  unfold SeqAt.shaped
  rw [h1, decide_eq_true (by omega)]
  rfl
theorem pds_eqv : ∀ {ds es : List D} {P : D → Prop}, (∀ d ∈ ds, ∀ e, P e → (PyData.eqv d.pd e.pd = true ↔ d = e)) → (∀ e ∈ es, P e) → (PyData.eqvAll (D.pds ds) (D.pds es) = true ↔ ds = es)
  | [], [], _, _, _ => by simp [D.pds, PyData.eqvAll]
  | [], e :: es, _, _, _ => by simp [D.pds, PyData.eqvAll]
  | d :: ds, [], _, _, _ => by simp [D.pds, PyData.eqvAll]
  | d :: ds, e :: es, P, h, g => by
    have h1 := h d List.mem_cons_self e (g e List.mem_cons_self)
    have h2 := pds_eqv (ds := ds) (es := es) (P := P) (fun x hx => h x (List.mem_cons_of_mem _ hx)) fun x hx => g x (List.mem_cons_of_mem _ hx)
    simp only [D.pds, PyData.eqvAll, Bool.and_eq_true, h1, h2, List.cons.injEq]
theorem NB.eqv {k : Nat} {d : D} (h : NB k d) : ∀ {j : Nat} {e : D}, NB j e → (PyData.eqv d.pd e.pd = true ↔ d = e) := by
  induction h with
  | non => intro j e g; cases g <;> simp [D.pd, PyData.eqv]
  | int i => intro j e g; cases g <;> simp [D.pd, PyData.eqv]
  | str h => intro j e g; cases g <;> simp [D.pd, PyData.eqv]
  | @tup k ds h ih =>
    intro j e g
    cases g with
    | non => simp [D.pd, PyData.eqv]
    | int i => simp [D.pd, PyData.eqv]
    | str h => simp [D.pd, PyData.eqv]
    | @tup j es g =>
      simp only [D.pd, PyData.eqv, D.tup.injEq]
      exact pds_eqv (P := fun e => ∃ j, NB j e) (fun d hd e he => by obtain ⟨j, he⟩ := he; exact ih d hd he) fun e he => ⟨_, g e he⟩
    | lst g => simp [D.pd, PyData.eqv]
  | @lst k ds h ih =>
    intro j e g
    cases g with
    | non => simp [D.pd, PyData.eqv]
    | int i => simp [D.pd, PyData.eqv]
    | str h => simp [D.pd, PyData.eqv]
    | @lst j es g =>
      simp only [D.pd, PyData.eqv, D.lst.injEq]
      exact pds_eqv (P := fun e => ∃ j, NB j e) (fun d hd e he => by obtain ⟨j, he⟩ := he; exact ih d hd he) fun e he => ⟨_, g e he⟩
    | tup g => simp [D.pd, PyData.eqv]
section
variable {K : PySem.W.Frag} {I H : Hp} {M : List (Addr × HO)} {Q : VK} {x y v : V} {d e : D} {ds es : List D} {j k : Nat}
theorem isA_dp (f : ∀ d ∈ ds, ∀ v, Is I v d → Dp K H v d.pd) : ∀ {vs : List V}, IsA I vs ds → DpAll K H vs (D.pds ds) := by
  induction ds with
  | nil => intro vs a; cases a; exact .nil
  | cons d ds ih =>
    intro vs a
    cases a with
    | cons h a => exact .cons (f d List.mem_cons_self _ h) (ih (fun e he => f e (List.mem_cons_of_mem _ he)) a)
theorem NB.dp (w : W I H M) (n : NB k d) : ∀ {v : V}, Is I v d → Dp K H v d.pd := by
  induction n with
  | non => intro v h; cases h; exact .non
  | int i => intro v h; cases h; exact .int i
  | str s => intro v h; cases h; exact .str _
  | tup n ih =>
    intro v h
    cases h with
    | tup hp a => exact .tup (.inl (.inl (w.imm _ _ hp))) (isA_dp (fun d hd v hv => ih d hd hv) a)
  | lst n ih =>
    intro v h
    cases h with
    | lst hp a => exact .lst (.inl (.inl (w.imm _ _ hp))) (isA_dp (fun d hd v hv => ih d hd hv) a)
theorem s_eqD {b : Bool} (w : W I H M) (hx : Is I x d) (hy : Is I y e) (n : NB k d) (m : NB j e) (hk : k ≤ 64) (hj : j ≤ 64) (hb : b = true ↔ d = e) (q : Q (.bl b) H) : rEqU K x y H Q :=
  .inr ⟨d.pd, e.pd, n.dp w hx, m.dp w hy, n.shaped hk, m.shaped hj, by
    have h1 := n.eqv m
    have h2 : PyData.eqv d.pd e.pd = b := by rw [Bool.eq_iff_iff, h1, hb]
    rw [h2]; exact q⟩
theorem s_neD {b : Bool} (w : W I H M) (hx : Is I x d) (hy : Is I y e) (n : NB k d) (m : NB j e) (hk : k ≤ 64) (hj : j ≤ 64) (hb : b = true ↔ d = e) (q : Q (.bl (!b)) H) : rNeU K x y H Q :=
  .inr ⟨d.pd, e.pd, n.dp w hx, m.dp w hy, n.shaped hk, m.shaped hj, by
    have h1 := n.eqv m
    have h2 : PyData.eqv d.pd e.pd = b := by rw [Bool.eq_iff_iff, h1, hb]
    rw [h2]; exact q⟩
theorem s_eqT (w : W I H M) (hx : Is I x d) (hy : Is I y d) (n : NB 60 d) (q : Q (.bl true) H) : rEqU K x y H Q := s_eqD w hx hy n n (by decide) (by decide) (b := true) (by simp) q
theorem s_neT (w : W I H M) (hx : Is I x d) (hy : Is I y d) (n : NB 60 d) (q : Q (.bl false) H) : rNeU K x y H Q := s_neD w hx hy n n (by decide) (by decide) (b := true) (by simp) q
theorem NB.fr {a b : Int} {k : Nat} : NB (k + 1) (fr a b) := .tup fun d hd => by
  rcases List.mem_cons.mp hd with rfl | hd
  · exact .int a
  · rw [List.mem_singleton.mp hd]; exact .int b
/-- lists -/
theorem s_catI (w : W I H M) (hx : Is I x (.lst ds)) (hy : Is I y (.lst es)) (hz : ds.length + es.length ≤ 100000) (q : ∀ p J H', Same I J → I p = none → W J H' M → Is J (.ref p) (.lst (ds ++ es)) → Q (.ref p) H') : rAddU K x y H Q := by
  obtain ⟨p1, vs, rfl, h1, a1⟩ := hx.lst_ex
  obtain ⟨p2, us, rfl, h2, a2⟩ := hy.lst_ex
  exact .inr (.inr (.inl ⟨p1, p2, vs, us, rfl, rfl, w.imm _ _ h1, w.imm _ _ h2, by rw [a1.length, a2.length]; exact Nat.le_trans hz (by decide), fun p hp => q p _ _ (w.same hp) (w.fresh hp) (w.newI hp) (.lst upd_same ((a1.app a2).mono (w.same hp)))⟩))
theorem s_listI (w : W I H M) (hx : Is I x (.lst ds)) (q : ∀ p J H', Same I J → I p = none → W J H' M → Is J (.ref p) (.lst ds) → Q (.ref p) H') : rListOf K [x] H Q := by
  obtain ⟨p1, vs, rfl, h1, a1⟩ := hx.lst_ex
  exact ⟨p1, vs, rfl, .inl (.inl (.inl (w.imm _ _ h1))), fun p hp => q p _ _ (w.same hp) (w.fresh hp) (w.newI hp) (.lst upd_same (a1.mono (w.same hp)))⟩
theorem s_listT (w : W I H M) (hx : Is I x (.tup ds)) (q : ∀ p J H', Same I J → I p = none → W J H' M → Is J (.ref p) (.lst ds) → Q (.ref p) H') : rListOf K [x] H Q := by
  obtain ⟨p1, vs, rfl, h1, a1⟩ := hx.tup_ex
  exact ⟨p1, vs, rfl, .inr (.inl (.inl (w.imm _ _ h1))), fun p hp => q p _ _ (w.same hp) (w.fresh hp) (w.newI hp) (.lst upd_same (a1.mono (w.same hp)))⟩
def cutD (ds : List D) (lo hi : Option Int) : List D := (ds.drop (HT.sIx ds.length 0 lo)).take (HT.sIx ds.length ds.length hi - HT.sIx ds.length 0 lo)
theorem IsA.cut {vs : List V} (a : IsA I vs ds) (lo hi : Option Int) : IsA I (cutV vs lo hi) (cutD ds lo hi) := by
  unfold cutV cutD
  rw [a.length]
  exact (a.drop _).take _
theorem s_slI {lo hi : Option Int} (w : W I H M) (hx : Is I x (.lst ds)) (q : ∀ p J H', Same I J → I p = none → W J H' M → Is J (.ref p) (.lst (cutD ds lo hi)) → Q (.ref p) H') : rSlL K x lo hi H Q := by
  obtain ⟨p1, vs, rfl, h1, a1⟩ := hx.lst_ex
  exact ⟨p1, vs, rfl, .inl (.inl (w.imm _ _ h1)), fun p hp => q p _ _ (w.same hp) (w.fresh hp) (w.newI hp) (.lst upd_same ((a1.cut lo hi).mono (w.same hp)))⟩
end

/-! ### defs with defaults -/
section
variable {P : Program} {w : World} {K : PySem.W.Frag} {mg : Str → Option Value} {base : Heap}
theorem _root_.L2.FunD.ok0 {x qual : Str} {st : Stmt} {dvs : List V} {f : Addr} {fd : FuncData} {N ps : List Str} {k : Nat} {sp : Sp} (F : FunD K x qual (defArgs st) (defBody st) (defScope st) dvs [] f fd) (S : FnScope N ps (defScope st)) (len : ∀ vs H Q E, sp vs H Q E → vs.length = ps.length)
    (hbody : ∀ (cdv : Value) (A : Around) (outer : List Env) (s : Shared) (H : Hp) (vs : List V) (Q : VK) (E : XK), Room k (A.deeper (envOfC qual (defScope st) s.heap.objs.size f cdv)) → sp vs H Q E →
      ∃ t, PSs (cxOf CX0 P w K mg base N qual (defScope st) f cdv A outer s H E).nox (defBody st) t ∧ t { nx := fun _ H' => Q .non H', rt := Q } (start N vs) H) : FnOk P w K mg base CX0 (k + 1) f fd ps sp :=
  F.ok S len fun cdv A outer s H vs Q E hr h => let ⟨t, a, b⟩ := hbody cdv A outer s H vs Q E hr h; ⟨t, a.nox, b⟩
/-- what the top has left of such a def -/
theorem funD_mk {x qual : Str} {st : Stmt} {f T : Addr} {oc to_ : Value} {od an td : Option Addr} {osl tsl : Array (Option Value)} {kV doc pm cdv ct : Value} {its : List Value} {n : Nat} {dvs : List V} (l : K.lookup f = some ⟨oc, od, .func (PySem.W.fnOf x qual (defArgs st) (defBody st) (defScope st) (.ref T) kV doc pm an cdv ct), osl⟩)
    (c : PySem.W.codeIn K cdv qual = true) (k : PySem.W.keepIn K (.ref f) = true) (lT : K.lookup T = some ⟨to_, td, .seq its.toArray n, tsl⟩) (hv : Vals dvs its) (hd : dvs ≠ []) :
    FunD K x qual (defArgs st) (defBody st) (defScope st) dvs [] f (PySem.W.fnOf x qual (defArgs st) (defBody st) (defScope st) (.ref T) kV doc pm an cdv ct) :=
  ⟨⟨oc, od, .ref T, kV, doc, pm, an, cdv, ct, osl, rfl, l, c, .inr ⟨hd, T, _, its, n, rfl, lT, rfl, hv⟩, .inl rfl⟩, k⟩
end
end Fs

namespace Fs
open PySem PySem.Spec PyProof.Rows L2
/-! ### fractions are rational numbers -/
abbrev frq (q : Rat) : D := fr q.num q.den
/-- its numbers have at most so many bits -/
structure Sz (k : Nat) (q : Rat) : Prop where
  n : Bd k q.num
  d : Bd k (q.den : Int)
theorem Sz.mono {j k : Nat} {q : Rat} (h : Sz j q) (hk : j ≤ k) : Sz k q := ⟨h.n.mono hk, h.d.mono hk⟩
theorem den_pos' (q : Rat) : (0 : Int) < (q.den : Int) := by have := q.den_pos; omega
theorem gcd_q (q : Rat) : Int.gcd q.num q.den = 1 := q.reduced
theorem gcd_pos' {t b : Int} (h : b ≠ 0) : (0 : Int) < (Int.gcd t b : Int) := by
  have : 0 < Int.gcd t b := Int.gcd_pos_of_ne_zero_right _ h
  omega
theorem gcd_abs (t b : Int) : Int.gcd (if t < 0 then -t else t) (if b < 0 then -b else b) = Int.gcd t b := by
  split <;> split <;> simp [Int.gcd_neg, Int.neg_gcd]
theorem gcd_le_right' {t b : Int} (h : b ≠ 0) : (Int.gcd t b : Int).natAbs ≤ b.natAbs := by
  have := Nat.le_of_dvd (by omega) (Nat.gcd_dvd_right t.natAbs b.natAbs)
  show Int.gcd t b ≤ _
  exact this
theorem low_num {t b : Int} (h : b ≠ 0) : (if b < 0 then -t else t) / (Int.gcd t b : Int) = (Rat.divInt t b).num := by
  rw [Rat.num_divInt, Int.gcd_comm b t]
  by_cases hb : b < 0
  · rw [if_pos hb, Int.sign_eq_neg_one_of_neg hb]
    congr 1
    omega
  · rw [if_neg hb, Int.sign_eq_one_of_pos (by omega)]
    congr 1
    omega
theorem low_den {t b : Int} (h : b ≠ 0) : (if b < 0 then -b else b) / (Int.gcd t b : Int) = ((Rat.divInt t b).den : Int) := by
  rw [Rat.den_divInt, if_neg h, Int.gcd_comm b t, Int.natCast_ediv]
  congr 1
  split <;> omega
theorem div_abs_le {a g : Int} (hg : 0 < g) (hd : g ∣ a) : (a / g).natAbs ≤ a.natAbs := by
  obtain ⟨c, rfl⟩ := hd
  rw [Int.mul_ediv_cancel_left _ (by omega), Int.natAbs_mul]
  exact Nat.le_mul_of_pos_left _ (by omega)
theorem num_le {t b : Int} (h : b ≠ 0) : (Rat.divInt t b).num.natAbs ≤ t.natAbs := by
  rw [← low_num h]
  have hd : (Int.gcd t b : Int) ∣ (if b < 0 then -t else t) := by
    split
    · exact Int.dvd_neg.mpr (Int.gcd_dvd_left _ _)
    · exact Int.gcd_dvd_left _ _
  have := div_abs_le (gcd_pos' (t := t) h) hd
  split at this <;> split <;> omega
theorem den_le {t b : Int} (h : b ≠ 0) : ((Rat.divInt t b).den : Int).natAbs ≤ b.natAbs := by
  rw [← low_den h]
  have hd : (Int.gcd t b : Int) ∣ (if b < 0 then -b else b) := by
    split
    · exact Int.dvd_neg.mpr (Int.gcd_dvd_right _ _)
    · exact Int.gcd_dvd_right _ _
  have := div_abs_le (gcd_pos' (t := t) h) hd
  split at this <;> split <;> omega
theorem Sz.divInt {j k : Nat} {t b : Int} (h : b ≠ 0) (ht : Bd j t) (hb : Bd k b) (m : Nat) (hj : j ≤ m := by omega) (hk : k ≤ m := by omega) : Sz m (Rat.divInt t b) := ⟨(ht.le (num_le h)).mono hj, (hb.le (den_le h)).mono hk⟩
theorem den_ne (q : Rat) : (q.den : Int) ≠ 0 := by have := q.den_pos; omega
theorem add_dv (p q : Rat) : Rat.divInt (p.num * q.den + q.num * p.den) (p.den * q.den) = p + q := by
  have h := Rat.divInt_add_divInt p.num q.num (den_ne p) (den_ne q)
  rw [Rat.num_divInt_den, Rat.num_divInt_den] at h
  exact h.symm
theorem sub_dv (p q : Rat) : Rat.divInt (p.num * q.den - q.num * p.den) (p.den * q.den) = p - q := by
  have h := Rat.divInt_sub_divInt p.num q.num (den_ne p) (den_ne q)
  rw [Rat.num_divInt_den, Rat.num_divInt_den] at h
  exact h.symm
theorem mul_dv (p q : Rat) : Rat.divInt (p.num * q.num) (p.den * q.den) = p * q := by
  have h := Rat.divInt_mul_divInt p.num q.num (d₁ := p.den) (d₂ := q.den)
  rw [Rat.num_divInt_den, Rat.num_divInt_den] at h
  exact h.symm
theorem div_dv (p q : Rat) : Rat.divInt (p.num * q.den) (p.den * q.num) = p / q := by
  have h := Rat.divInt_mul_divInt p.num q.den (d₁ := p.den) (d₂ := q.num)
  rw [Rat.num_divInt_den, ← Rat.inv_divInt q.num q.den, Rat.num_divInt_den] at h
  rw [Rat.div_def]
  exact h.symm
theorem den_mul_ne (p q : Rat) : (p.den * q.den : Int) ≠ 0 := Int.mul_ne_zero (den_ne p) (den_ne q)
theorem Sz.add {j k : Nat} {p q : Rat} (hp : Sz j p) (hq : Sz k q) : Sz (j + k + 1) (p + q) := by
  rw [← add_dv]
  exact Sz.divInt (den_mul_ne p q) (Bd.add (hp.n.mul hq.d) ((hq.n.mul hp.d).mono (by omega))) (hp.d.mul hq.d) _
theorem Sz.sub {j k : Nat} {p q : Rat} (hp : Sz j p) (hq : Sz k q) : Sz (j + k + 1) (p - q) := by
  rw [← sub_dv]
  exact Sz.divInt (den_mul_ne p q) (Bd.sub (hp.n.mul hq.d) ((hq.n.mul hp.d).mono (by omega))) (hp.d.mul hq.d) _
theorem Sz.mul {j k : Nat} {p q : Rat} (hp : Sz j p) (hq : Sz k q) : Sz (j + k) (p * q) := by
  rw [← mul_dv]
  exact Sz.divInt (den_mul_ne p q) (hp.n.mul hq.n) (hp.d.mul hq.d) _
theorem Sz.div {j k : Nat} {p q : Rat} (hp : Sz j p) (hq : Sz k q) (h0 : q ≠ 0) : Sz (j + k) (p / q) := by
  rw [← div_dv]
  exact Sz.divInt (Int.mul_ne_zero (den_ne p) (fun h => h0 (Rat.num_eq_zero.mp h))) (hp.n.mul hq.d) (hp.d.mul hq.n) _
theorem Sz.neg {k : Nat} {q : Rat} (h : Sz k q) : Sz k (-q) := ⟨by rw [Rat.neg_num]; exact h.n.neg, by rw [Rat.neg_den]; exact h.d⟩
theorem Sz.int {k : Nat} {n : Int} (h : Bd k n) (hk : 0 < k := by decide) : Sz k (n : Rat) := ⟨h, Bd.of 1 (by rw [Rat.den_intCast]; decide) (by
  have : 2 ^ 1 ≤ 2 ^ k := Nat.pow_le_pow_right (by decide) hk
  omega)⟩
theorem frq_int (n : Int) : frq (n : Rat) = fr n 1 := rfl
theorem frq_zero : frq 0 = fr 0 1 := rfl
theorem frq_inj {p q : Rat} (h : frq p = frq q) : p = q := by
  injection h with h
  injection h with h1 h
  injection h with h2 _
  injection h1 with h1
  injection h2 with h2
  exact Rat.ext h1 (by omega)
theorem frq_of {a b : Int} (hb : 0 < b) (g : Int.gcd a b = 1) : fr a b = frq (Rat.divInt a b) := by
  have h1 := low_num (t := a) (b := b) (by omega)
  have h2 := low_den (t := a) (b := b) (by omega)
  rw [if_neg (by omega), g] at h1 h2
  simp only [Int.natCast_one, Int.ediv_one] at h1 h2
  rw [frq, ← h1, ← h2]
theorem gcd_step {a b : Int} (ha : 0 ≤ a) (hb : 0 ≤ b) : Int.gcd b (a % b) = Int.gcd a b := by
  obtain ⟨m, rfl⟩ := Int.eq_ofNat_of_zero_le ha
  obtain ⟨n, rfl⟩ := Int.eq_ofNat_of_zero_le hb
  show Nat.gcd n (m % n) = Nat.gcd m n
  rw [Nat.gcd_comm n, ← Nat.gcd_rec, Nat.gcd_comm]
theorem gcd_end {a : Int} (ha : 0 ≤ a) : (Int.gcd a 0 : Int) = a := by
  rw [Int.gcd_zero_right]
  omega
end Fs

namespace Fs
open PySem PySem.Spec PyProof.Rows L2
/-! ### the rules with the written part as a letter (for a comprehension's block) -/
section
variable {X : Cx} {K : PySem.W.Frag}
theorem k_add (h : X.K = K) : OpR X (binaryOp .Add) (rAddU K) := h ▸ uo_add
theorem k_eq (h : X.K = K) (hu : X.A.units + 64 < cLine) : OpR X (compareOp .Eq) (rEqU K) := h ▸ uo_eq hu
theorem k_ne (h : X.K = K) (hu : X.A.units + 64 < cLine) : OpR X (compareOp .NotEq) (rNeU K) := h ▸ uo_ne hu
theorem k_ix (h : X.K = K) : IxR X (rIx K) := h ▸ ix_seq
theorem k_len (h : X.K = K) : CallR X (.builtin "len") (rLenU K) := h ▸ uc_len
theorem k_isi (h : X.K = K) : CallR X (.builtin "isinstance") (rIsiU K) := h ▸ uc_isi
theorem k_min (h : X.K = K) (hc : X.calm = true) : CallR X (.builtin "min") (rMinU K) := h ▸ uc_min hc
theorem k_max (h : X.K = K) (hc : X.calm = true) : CallR X (.builtin "max") (rMaxU K) := h ▸ uc_max hc
theorem k_sum (h : X.K = K) (hc : X.calm = true) : CallR X (.builtin "sum") (rSum K) := h ▸ cr_sum hc
theorem k_list (h : X.K = K) : CallR X (.type "list") (rListOf K) := h ▸ uc_list
theorem k_sl (h : X.K = K) : SlR X (rSlL K) := h ▸ sl_list
theorem kpi_list {tg l : Expr} {tl : TE} (h : X.K = K) (e : PE X l tl) : PI X tg l (iList K tl) := h ▸ pi_list e
theorem kpi_tup {tg l : Expr} {tl : TE} (h : X.K = K) (e : PE X l tl) : PI X tg l (iTup K tl) := h ▸ pi_tup e
theorem kpe_fld {e : Expr} {ta : TE} {f : Str} {pos : Pos} (h : X.K = K) (he : PE X e ta) (hb : attributeBase e f X.env (eval e X.env) = eval e X.env) : PE X (.Attribute e f pos) (tFld K ta f) := h ▸ pe_fld he hb
theorem kpg_tup {es : List Expr} {k : Nat} {t : TGs} {n : Nat} {pos : Pos} (h : X.K = K) (hc : X.calm = true) (hg : PGs X es t)
    (hn : (assignEach es X.env).length = n := by rfl) (hst : (assignEach es X.env).findIdx? (·.1) = none := by rfl) : PG X (.Tuple es k pos) (gTup K n t) := h ▸ pg_tup hc hg hn hst
end
/-! ### comprehensions -/
/-- what stands behind a comprehension's source -/
def LcGo (J : It) (g : TG) (tt : TT) (te : TE) (xs : List Nat) (σ : L2.St) (Q : VK) (H1 : Hp) : Prop := ∀ D, H1 D = none → ∃ W : Nat → Nat → Hp → Prop, (∃ m, W 0 m (upd H1 D (.lst []))) ∧ ∀ i m H, W i m H →
  (J.stop i H ∧ Q (.ref D) H) ∨ (J.go i H ∧ ∃ Nx : Hp → Prop, (∀ H', Nx H' → ∃ m', m' < m ∧ W (i + 1) m' H') ∧ ∀ x H', J.yld i H x H' → g x (wipe σ xs) H' fun σ2 H2 => wipe σ2 xs = wipe σ xs ∧ tt σ2 H2 fun b H3 =>
    if b = true then te σ2 H3 fun y H4 => ∃ acc, H4 D = some (.lst acc) ∧ acc.length < sizeLine ∧ Nx (upd H4 D (.lst (acc ++ [y]))) else Nx H3)
section
variable {K : PySem.W.Frag} {σ : L2.St} {I H : Hp} {M : List (Addr × HO)} {Q : VK} {x v : V} {b c : Addr} {o : HO} {te : TE} {wi : TI} {g : TG} {tt : TT} {xs : List Nat} {ds : List D} {k : Nat}
theorem s_lcc (h : wi σ H fun J H1 => LcGo J g tt te xs σ Q H1) : tLc wi g tt te xs σ H Q := h
theorem s_lcRng {n : Int} {lo : Int} (h1 : -(2 ^ 62) ≤ n) (h2 : n < 2 ^ 62) (h : LcGo (Itr 0 n.toNat) g tt te xs σ Q H) : ∃ j : Int, [V.int n] = [.int j] ∧ -(2 ^ 62) ≤ j ∧ j < 2 ^ 62 ∧ LcGo (Itr 0 j.toNat) g tt te xs σ Q H := ⟨n, rfl, h1, h2, h⟩
/-- turns that draw nothing, one name as target, no test; what the i-th turn gives is told by f -/
theorem lc_pure {J : It} {n : Nat} {Gd : Hp → Prop} {Y : Nat → Hp → V → Hp → Prop} (wk : Walk J n Gd Y) (w : W I H M) (hG : ∀ H', Same I H' → Gd H') (f : Nat → D) (hn : n ≤ 100000)
    (hw : ∀ v, wipe ((wipe σ xs).set k (some v)) xs = wipe σ xs)
    (step : ∀ i v D acc J' H0 H' C, i < n → Same I J' → W J' H0 ((D, .lst acc) :: M) → Y i H0 v H' → (∀ y J'' H4, Same J' J'' → W J'' H4 ((D, .lst acc) :: M) → Is J'' y (f i) → C y H4) → te ((wipe σ xs).set k (some v)) H' C)
    (q : ∀ p J' H', Same I J' → I p = none → W J' H' M → Is J' (.ref p) (.lst ((List.range n).map f)) → Q (.ref p) H') : LcGo J (gName k) tYes te xs σ Q H := by
  intro D nD
  have w1 := w.newM (o := .lst []) nD
  refine lc_it wk (fun i H' => ∃ acc J', Same I J' ∧ W J' H' ((D, .lst acc) :: M) ∧ IsA J' acc ((List.range i).map f) ∧ acc.length = i) ⟨[], I, Same.refl _, w1, .nil, rfl⟩ (fun i H' _ ⟨acc, J', s, w', _⟩ => hG H' (s.trans w'.imm)) ?_ ?_
  · rintro i v H0 H' hi ⟨acc, J', s, w', a, hl⟩ hy
    refine ⟨hw v, ?_⟩
    refine s_yes (iteT (step i v D acc J' H0 H' _ hi s w' hy fun y J'' H4 s2 w2 h2 => ?_))
    refine ⟨acc, w2.at0, by rw [hl]; exact Nat.lt_of_lt_of_le hi (Nat.le_trans hn (by decide)), acc ++ [y], J'', s.trans s2, w2.put0, ?_, by rw [List.length_append, hl]; rfl⟩
    rw [List.range_succ, List.map_append]
    exact (a.mono s2).app (.one h2)
  · rintro H' ⟨acc, J', s, w', a, hl⟩
    obtain ⟨J2, s2, w2, h2⟩ := w'.done0 a
    refine q D J2 H' (s.trans s2) (w.fresh nD) w2 h2
/-- turns that draw -/
theorem lc_bag {J : It} {n : Nat} {Gd : Hp → Prop} {Y : Nat → Hp → V → Hp → Prop} (wk : Walk J n Gd Y) (w : W I H ((b, o) :: M)) (hb : Bag I c o) (hG : ∀ H', Same I H' → Gd H') (P : Nat → D → Prop) (hn : n ≤ 100000)
    (hw : ∀ v, wipe ((wipe σ xs).set k (some v)) xs = wipe σ xs)
    (step : ∀ i v D acc o' J' H0 H' C, i < n → Same I J' → Bag J' c o' → W J' H0 ((b, o') :: (D, .lst acc) :: M) → Y i H0 v H' →
      (∀ y d o'' J'' H4, Same J' J'' → Bag J'' c o'' → W J'' H4 ((b, o'') :: (D, .lst acc) :: M) → Is J'' y d → P i d → C y H4) → te ((wipe σ xs).set k (some v)) H' C)
    (q : ∀ p ds o' J' H', Same I J' → I p = none → Bag J' c o' → W J' H' ((b, o') :: M) → Is J' (.ref p) (.lst ds) → ds.length = n → (∀ i d, ds[i]? = some d → P i d) → Q (.ref p) H') : LcGo J (gName k) tYes te xs σ Q H := by
  intro D nD
  have w1 := w.newM2 (o := .lst []) nD
  refine lc_it wk (fun i H' => ∃ acc J' o' ds, Same I J' ∧ Bag J' c o' ∧ W J' H' ((b, o') :: (D, .lst acc) :: M) ∧ IsA J' acc ds ∧ acc.length = i ∧ ds.length = i ∧ ∀ j d, ds[j]? = some d → P j d) ⟨[], I, o, [], Same.refl _, hb, w1, .nil, rfl, rfl, fun j d h => by simp at h⟩ (fun i H' _ ⟨acc, J', o', ds, s, _, w', _⟩ => hG H' (s.trans w'.imm)) ?_ ?_
  · rintro i v H0 H' hi ⟨acc, J', o', ds, s, hb', w', a, hl, hl2, hp⟩ hy
    refine ⟨hw v, ?_⟩
    refine s_yes (iteT (step i v D acc o' J' H0 H' _ hi s hb' w' hy fun y d o'' J'' H4 s2 hb2 w2 h2 hd => ?_))
    refine ⟨acc, w2.at1, by rw [hl]; exact Nat.lt_of_lt_of_le hi (Nat.le_trans hn (by decide)), acc ++ [y], J'', o'', ds ++ [d], s.trans s2, hb2, w2.put1, (a.mono s2).app (.one h2), by rw [List.length_append, hl]; rfl, by rw [List.length_append, hl2]; rfl, fun j e h => ?_⟩
    by_cases hj : j < ds.length
    · rw [List.getElem?_append_left hj] at h
      exact hp j e h
    · rw [List.getElem?_append_right (by omega)] at h
      have h3 : j - ds.length = 0 := by
        cases hz : j - ds.length with
        | zero => rfl
        | succ m => rw [hz] at h; simp at h
      rw [h3] at h
      simp at h
      subst h
      have : j = i := by omega
      rw [this]
      exact hd
  · rintro H' ⟨acc, J', o', ds, s, hb', w', a, hl, hl2, hp⟩
    obtain ⟨J2, s2, w2, h2⟩ := w'.done1 a
    exact q D ds o' J2 H' (s.trans s2) (w.fresh nD) (hb'.mono s2) w2 h2 hl2 hp
theorem s_iLc {J : Addr → Prop} (w : W I H M) (h : Is I v (.lst ds)) (q : ∀ a vs, v = .ref a → I a = some (.lst vs) → IsA I vs ds → J a) : ∃ a, v = .ref a ∧ (∃ xs, SqL K H a xs) ∧ J a := s_iL' w h q
end

/-! ### sums of fractions -/
def rs (qs : List Rat) : Rat := qs.foldl (· + ·) 0
theorem rs_nil : rs [] = 0 := rfl
theorem rs_snoc (qs : List Rat) (q : Rat) : rs (qs ++ [q]) = rs qs + q := by simp [rs, List.foldl_append]
theorem rs_take {qs : List Rat} {i : Nat} {q : Rat} (h : qs[i]? = some q) : rs (qs.take (i + 1)) = rs (qs.take i) + q := by
  rw [List.take_add_one, h, ← rs_snoc]
  rfl
theorem rs_from (ys : List Rat) : ∀ a : Rat, ys.foldl (· + ·) a = a + rs ys := by
  induction ys with
  | nil => intro a; simp [rs, Rat.add_zero]
  | cons y ys ih =>
    intro a
    show ys.foldl (· + ·) (a + y) = a + (ys.foldl (· + ·) (0 + y))
    rw [ih, ih, Rat.zero_add, Rat.add_assoc]
theorem rs_cons (y : Rat) (ys : List Rat) : rs (y :: ys) = y + rs ys := by
  show ys.foldl (· + ·) (0 + y) = _
  rw [rs_from, Rat.zero_add]
theorem rs_app (xs ys : List Rat) : rs (xs ++ ys) = rs xs + rs ys := by
  unfold rs
  rw [List.foldl_append, rs_from]
  rfl
/-- top and bottom by themselves -/
structure Sz2 (j k : Nat) (q : Rat) : Prop where
  n : Bd j q.num
  d : Bd k (q.den : Int)
theorem Sz2.mono {i j k l : Nat} {q : Rat} (h : Sz2 i k q) (hj : i ≤ j) (hk : k ≤ l) : Sz2 j l q := ⟨h.n.mono hj, h.d.mono hk⟩
theorem Sz2.sz {j k m : Nat} {q : Rat} (h : Sz2 j k q) (hj : j ≤ m) (hk : k ≤ m) : Sz m q := ⟨h.n.mono hj, h.d.mono hk⟩
theorem Sz.sz2 {k : Nat} {q : Rat} (h : Sz k q) : Sz2 k k q := ⟨h.n, h.d⟩
theorem Sz2.add {j k l m : Nat} {p q : Rat} (hp : Sz2 j k p) (hq : Sz2 l m q) (n : Nat) (h1 : j + m + 1 ≤ n) (h2 : l + k + 1 ≤ n) : Sz2 n (k + m) (p + q) := by
  rw [← add_dv]
  have b1 : Bd (n - 1) (p.num * q.den) := (hp.n.mul hq.d).mono (by omega)
  have b2 : Bd (n - 1) (q.num * p.den) := (hq.n.mul hp.d).mono (by omega)
  have b3 := (Bd.add b1 b2).mono (show n - 1 + 1 ≤ n by omega)
  exact ⟨b3.le (num_le (den_mul_ne p q)), (hp.d.mul hq.d).le (den_le (den_mul_ne p q))⟩
theorem Sz2.rs {j k : Nat} {qs : List Rat} (h : ∀ q ∈ qs, Sz2 j k q) : ∀ i, i ≤ qs.length → Sz2 (j + (k + 1) * i + 1) (k * i + 1) (rs (qs.take i))
  | 0, _ => ⟨Bd.of 0 (by simp [rs_nil]) (Nat.pow_pos (by decide)), Bd.of 1 (by simp [rs_nil]) (by
      have : 2 ^ 1 ≤ 2 ^ (k * 0 + 1) := Nat.pow_le_pow_right (by decide) (by omega)
      omega)⟩
  | i + 1, hi => by
    have hi' : i < qs.length := hi
    have e : qs[i]? = some qs[i] := List.getElem?_eq_getElem hi'
    rw [rs_take e]
    have ih := Sz2.rs h i (by omega)
    have hq := h _ (List.getElem_mem hi')
    have e1 : (k + 1) * (i + 1) = (k + 1) * i + k + 1 := by rw [Nat.mul_add]; omega
    have e2 : k * (i + 1) = k * i + k := by rw [Nat.mul_add]; omega
    have e3 : k * i ≤ (k + 1) * i := Nat.mul_le_mul_right _ (by omega)
    exact (ih.add hq (j + (k + 1) * (i + 1) + 1) (by omega) (by omega)).mono (Nat.le_refl _) (by omega)
theorem frqs_of {S : Rat → Prop} : ∀ {ds : List D}, (∀ (i : Nat) d, ds[i]? = some d → ∃ q, d = frq q ∧ S q) → ∃ qs : List Rat, ds = qs.map frq ∧ ∀ q ∈ qs, S q
  | [], _ => ⟨[], rfl, fun _ h => nomatch h⟩
  | d :: ds, h => by
    obtain ⟨q, rfl, hq⟩ := h 0 _ rfl
    obtain ⟨qs, rfl, hs⟩ := frqs_of (S := S) (ds := ds) fun i e he => h (i + 1) e (by simpa using he)
    exact ⟨q :: qs, rfl, fun r hr => by
      rcases List.mem_cons.mp hr with rfl | hr
      · exact hq
      · exact hs r hr⟩
theorem atI0 {α : Type} {l : List α} {i : Nat} {x : α} (h : l[i]? = some x) : atI l (0 + (i : Int)) = some x := by
  rw [Int.zero_add]
  exact atI_nat h
theorem NB.list {α : Type} {f : α → D} {k : Nat} {l : List α} (h : ∀ x ∈ l, NB k (f x)) : NB (k + 1) (.lst (l.map f)) := .lst fun d hd => by
  obtain ⟨x, hx, rfl⟩ := List.mem_map.mp hd
  exact h x hx
theorem NB.frqs {qs : List Rat} {k : Nat} : NB (k + 2) (.lst (qs.map frq)) := NB.list fun _ _ => NB.fr
theorem NB.ints {ns : List Int} {k : Nat} : NB (k + 1) (.lst (ns.map D.int)) := NB.list fun n _ => .int n
theorem s_listC {K : PySem.W.Frag} {I H : Hp} {M : List (Addr × HO)} {Q : VK} {x : V} {ds : List D} (w : W I H M) (hx : Is I x (.lst ds)) (q : ∀ p vs J H', Same I J → I p = none → W J H' M → J p = some (.lst vs) → IsA I vs ds → Q (.ref p) H') : rListOf K [x] H Q := by
  obtain ⟨p1, vs, rfl, h1, a1⟩ := hx.lst_ex
  exact ⟨p1, vs, rfl, .inl (.inl (.inl (w.imm _ _ h1))), fun p hp => q p vs _ _ (w.same hp) (w.fresh hp) (w.newI hp) upd_same a1⟩
/-- for x, y in zip(xs, ys), two lists of one length that stay -/
def ZipQ (K : PySem.W.Frag) (x y : V) (H : Hp) (R : It → Hp → Prop) : Prop := ∃ a b xs ys, [x, y] = [.ref a, .ref b] ∧ SqL K H a xs ∧ SqL K H b ys ∧ R (Itz K a b) H
theorem s_zip {K : PySem.W.Frag} {σ : L2.St} {H : Hp} {ta : TA} {R : It → Hp → Prop} (h : ta σ H fun vs H1 => ∃ a b xs ys, vs = [.ref a, .ref b] ∧ SqL K H1 a xs ∧ SqL K H1 b ys ∧ R (Itz K a b) H1) : iZip K ta σ H R := h
theorem s_zipL {K : PySem.W.Frag} {σ : L2.St} {I H : Hp} {M : List (Addr × HO)} {x y : V} {ds es : List D} {g : TG} {tb : TS} {G : Ends} (w : W I H M) (hx : Is I x (.lst ds)) (hy : Is I y (.lst es)) (hl : ds.length = es.length) (Pv : Nat → L2.St → Hp → Prop) (h0 : Pv 0 σ H) (hI : ∀ i σ H, Pv i σ H → Same I H)
    (hs : ∀ i d e x y T σ H H', ds[i]? = some d → es[i]? = some e → Is I x d → Is I y e → Pv i σ H → H T = none → H' = upd H T (.tup [x, y]) → g (.ref T) σ H' fun σ2 H2 => tb { G with nx := Pv (i + 1), ct := Pv (i + 1), bk := G.nx } σ2 H2) (hd : ∀ σ H, Pv ds.length σ H → G.nx σ H) :
    ∃ a b xs ys, [x, y] = [V.ref a, .ref b] ∧ SqL K H a xs ∧ SqL K H b ys ∧ ∃ W : Nat → Nat → L2.St → Hp → Prop, (∃ m, W 0 m σ H) ∧ ∀ i m σ H, W i m σ H →
      ((Itz K a b).stop i H ∧ G.nx σ H) ∨ ((Itz K a b).go i H ∧ ∃ N : L2.St → Hp → Prop, (∀ σ' H', N σ' H' → ∃ m', m' < m ∧ W (i + 1) m' σ' H') ∧ ∀ x H', (Itz K a b).yld i H x H' → g x σ H' fun σ2 H2 => tb { G with nx := N, ct := N, bk := G.nx } σ2 H2) := by
  obtain ⟨p1, vs, rfl, h1, a1⟩ := hx.lst_ex
  obtain ⟨p2, us, rfl, h2, a2⟩ := hy.lst_ex
  refine ⟨p1, p2, vs, us, rfl, .inl (.inl (w.imm _ _ h1)), .inl (.inl (w.imm _ _ h2)), ?_⟩
  refine RZ.for_zipL (K := K) (xs := vs) (ys := us) (by rw [a1.length, a2.length, hl]) Pv h0 (fun i σ H q => ⟨.inl (.inl (hI i σ H q _ _ h1)), .inl (.inl (hI i σ H q _ _ h2))⟩) (fun i x y T σ H e1 e2 q nT => ?_) (fun σ H q => hd σ H (by rw [← a1.length]; exact q))
  obtain ⟨d, f1, g1⟩ := a1.of e1
  obtain ⟨e, f2, g2⟩ := a2.of e2
  exact hs i d e x y T σ H _ f1 f2 g1 g2 q nT rfl
theorem s_aug {σ : L2.St} {H : Hp} {G : Ends} {i : Nat} {te : TE} {ti : TIp} {x : V} (h : σ[i]? = some (some x)) (q : te σ H fun y H1 => ti x y H1 fun z H2 => G.nx (σ.set i (some z)) H2) : tAug i te ti G σ H := ⟨x, h, q⟩
/-- a list is taken away: fractions stay -/
theorem Is.delF {I : Hp} {v : V} {a b : Int} {p : Addr} {vs : List V} (h : Is I v (fr a b)) (hp : I p = some (.lst vs)) : Is (del I p) v (fr a b) := by
  obtain ⟨t, us, rfl, ht, au⟩ := h.tup_ex
  have ne : t ≠ p := fun e => by rw [e, hp] at ht; cases ht
  refine .tup (by rw [del_ne ne]; exact ht) ?_
  cases au with | cons h1 au =>
  cases au with | cons h2 au =>
  cases au
  cases h1
  cases h2
  exact .cons (.int _) (.cons (.int _) .nil)
theorem IsA.delF {I : Hp} {p : Addr} {us : List V} (hp : I p = some (.lst us)) : ∀ {qs : List Rat} {vs : List V}, IsA I vs (qs.map frq) → IsA (del I p) vs (qs.map frq)
  | [], _, h => by cases h; exact .nil
  | q :: qs, _, h => by
    cases h with
    | cons h a => exact .cons (h.delF hp) (IsA.delF hp a)
theorem Is.delL {I : Hp} {p l : Addr} {us : List V} {qs : List Rat} (h : Is I (.ref l) (.lst (qs.map frq))) (hp : I p = some (.lst us)) (ne : l ≠ p) : Is (del I p) (.ref l) (.lst (qs.map frq)) := by
  cases h with
  | lst h a => exact .lst (by rw [del_ne ne]; exact h) (a.delF hp)
def rIns : V → List V → Hp → VK → Prop := fun x vs H Q => ∃ (l : Addr) (xs : List V) (i : Int) (y : V), x = .ref l ∧ vs = [.int i, y] ∧ H l = some (.lst xs) ∧ xs.length < sizeLine ∧ 0 ≤ i ∧ i < 2 ^ 63 ∧ Q .non (upd H l (.lst (xs.take i.toNat ++ [y] ++ xs.drop i.toNat)))
theorem mt_ins {X : Cx} : MtR X "list.insert" rIns := mt_insert
theorem s_insW1 {I H : Hp} {M : List (Addr × HO)} {m0 : Addr × HO} {p : Addr} {xs : List V} {i : Int} {y : V} {Q : VK} (w : W I H (m0 :: (p, .lst xs) :: M)) (hz : xs.length ≤ 100000) (h0 : 0 ≤ i) (h1 : i < 1000000) (q : ∀ H', W I H' (m0 :: (p, .lst (xs.take i.toNat ++ [y] ++ xs.drop i.toNat)) :: M) → Q .non H') : rIns (.ref p) [.int i, y] H Q :=
  ⟨p, xs, i, y, rfl, rfl, w.at1, Nat.lt_of_le_of_lt hz (by decide), h0, by omega, q _ w.put1⟩
theorem s_popW1 {I H : Hp} {M : List (Addr × HO)} {m0 : Addr × HO} {p : Addr} {xs : List V} {y : V} {Q : VK} (w : W I H (m0 :: (p, .lst xs) :: M)) (hy : xs[xs.length - 1]? = some y) (q : ∀ H', W I H' (m0 :: (p, .lst xs.dropLast) :: M) → Q y H') : rPop (.ref p) [] H Q :=
  ⟨p, xs, y, rfl, rfl, w.at1, hy, q _ w.put1⟩
/-! ### a displayed dict of one pair -/
def DispQ (Q : VK) (p : Addr) (x y : V) (H2 : Hp) : Prop := H2 p = some (.dK []) ∧ ∃ kvs : List (Key × V), [(x, y)] = kvs.map (fun kv => (kV kv.1, kv.2)) ∧ kvs.length ≤ 15 ∧ Q (.ref p) (upd H2 p (.dK (mergeK [] kvs)))
section
variable {σ : L2.St} {I H : Hp} {M : List (Addr × HO)} {Q : VK} {tk tv : TE} {p : Addr} {y : V}
theorem s_disp1 (w : W I H M) (q : ∀ p H', I p = none → W I H' ((p, .dK []) :: M) → tk σ H' fun x H1 => tv σ H1 fun y H2 => DispQ Q p x y H2) : tDisp [(tk, tv)] σ H Q := fun p hp => q p _ (w.fresh hp) (w.newM hp)
theorem s_dispI {n : Int} (w : W I H ((p, .dK []) :: M)) (q : ∀ J H', Same I J → W J H' M → Is J (.ref p) .dict → Q (.ref p) H') : DispQ Q p (.int n) y H :=
  have w2 := w.put0 (o' := .dK (mergeK [] [(Sum.inl n, y)]))
  ⟨w.at0, [(Sum.inl n, y)], rfl, by simp, q _ _ w2.frzS0 w2.frz0 (.dct upd_same)⟩
theorem s_dispS {n : Str} (w : W I H ((p, .dK []) :: M)) (q : ∀ J H', Same I J → W J H' M → Is J (.ref p) .dict → Q (.ref p) H') : DispQ Q p (.str n) y H :=
  have w2 := w.put0 (o' := .dK (mergeK [] [(Sum.inr n, y)]))
  ⟨w.at0, [(Sum.inr n, y)], rfl, by simp, q _ _ w2.frzS0 w2.frz0 (.dct upd_same)⟩
end
def D.whole : D → Bool
  | .int _ => true
  | _ => false
/-- its kind is known to isinstance -/
def Ty (d : D) : Prop := ∃ a, d.tn = some a
end Fs

namespace Fs
open PySem PySem.Spec PyProof.Rows L2
/-! ### own classes -/
/-- what is asked of a class of the text -/
structure OwnC (K : PySem.W.Frag) (C : Addr) : Prop where
  cl : Cls K C
  ha : PySem.W.findIn K (.ref C) "__class__" = some (some (.builtin "object.__class__"))
  hn : PySem.W.specialIn K (.builtin "object.__class__") "__get__" = some (some (.builtin "getset_descriptor.__get__"))
  htk : PySem.W.takesIn K (.builtin "object.__class__") = some true
  hm : PySem.W.mroIn K C (.type "object") = some true
/-- a class that may be made, by its __init__ -/
structure Mak (P : Program) (w : World) (K : PySem.W.Frag) (mg : Str → Option Value) (base : Heap) (x : Str) (C : Addr) (k : Nat) (ps : List Str) (dvs : List V) (sp : Sp) : Prop where
  ex : ∃ (f : Addr) (fd : FuncData) (ds : List Value), Mk K C f ∧ FnOk P w K mg base CX0 k f fd ps sp ∧ mg x = some (.ref C) ∧ Binds K fd ps ds ∧ Vals dvs ds
/-- a method -/
structure Met (P : Program) (w : World) (K : PySem.W.Frag) (mg : Str → Option Value) (base : Heap) (m : Str) (C : Addr) (k : Nat) (ps : List Str) (dvs : List V) (sp : Sp) : Prop where
  ex : ∃ (f : Addr) (fd : FuncData) (ds : List Value), Cls K C ∧ Meth K C m f ∧ FnOk P w K mg base CX0 k f fd ps sp ∧ Binds K fd ps ds ∧ Vals dvs ds
section
variable {X : Cx} {x m : Str} {C : Addr} {p pos apos : Pos} {e o : Expr} {es : List Expr} {ta : TE} {t : TA} {k : Nat} {ps : List Str} {dvs : List V} {sp : Sp}
theorem pe_mk (c : Mak X.prog X.w X.K X.mg X.base x C k ps dvs sp) (hr : Room (k + 1) X.A) (hg : Gl X x) (ha : PA X (e :: es) t) (hdb : (x == ("__debug__" : Str)) = false := by decide)
    (he : starEach (e :: es) X.env = (false, eval e X.env) :: starEach es X.env := by rfl) (hpl : (backTo pos (starEach es X.env)).any (·.1) = false := by rfl) : PE X (.Call (.Name x p) (e :: es) [] pos) (tMake C sp dvs E0 t) := by
  obtain ⟨f, fd, ds, M, F, hm, hb, hd⟩ := c.ex
  exact pe_make M F hr hg hm hb hd pass0 ha hdb he hpl
theorem pe_mk0 (c : Mak X.prog X.w X.K X.mg X.base x C k ps dvs sp) (hr : Room (k + 1) X.A) (hg : Gl X x) (hdb : (x == ("__debug__" : Str)) = false := by decide) : PE X (.Call (.Name x p) [] [] pos) (tMake C sp dvs E0 tNil) := by
  obtain ⟨f, fd, ds, M, F, hm, hb, hd⟩ := c.ex
  exact pe_make0 M F hr hg hm hb hd pass0 hdb
theorem pe_met {pl : Sem Bool} (he : PE X o ta) (c : Met X.prog X.w X.K X.mg X.base m C k ps dvs sp) (hr : Room k X.A) (ha : PA X (e :: es) t)
    (hst : starEach (e :: es) X.env = (false, eval e X.env) :: starEach es X.env := by rfl) (hpl : (backTo pos (starEach es X.env)).any (·.1) = false := by rfl)
    (ht : eval (.Call (.Attribute o m apos) (e :: es) [] pos) X.env = (do
      let ov ← eval o X.env
      standAt apos.atName
      let (f, first) ← holding [ov] (getMethod ov m pl)
      callWith pos f first (backTo pos (starEach (e :: es) X.env)) (backToKw pos (keywordEach [] X.env))) := by rfl) :
    PE X (.Call (.Attribute o m apos) (e :: es) [] pos) (tMeth C m sp dvs E0 ta t) := by
  obtain ⟨f, fd, ds, c, hm, F, hb, hd⟩ := c.ex
  exact pe_meth he c hm F hr hb hd pass0 ha hst hpl ht
theorem pe_met0 {pl : Sem Bool} (he : PE X o ta) (c : Met X.prog X.w X.K X.mg X.base m C k ps dvs sp) (hr : Room k X.A)
    (ht : eval (.Call (.Attribute o m apos) [] [] pos) X.env = (do
      let ov ← eval o X.env
      standAt apos.atName
      let (f, first) ← holding [ov] (getMethod ov m pl)
      callWith pos f first (backTo pos (starEach [] X.env)) (backToKw pos (keywordEach [] X.env))) := by rfl) :
    PE X (.Call (.Attribute o m apos) [] [] pos) (tMeth C m sp dvs E0 ta tNil) := by
  obtain ⟨f, fd, ds, c, hm, F, hb, hd⟩ := c.ex
  exact pe_meth0 he c hm F hr hb hd pass0 ht
end
/-- a class made with keywords -/
structure MakK (P : Program) (w : World) (K : PySem.W.Frag) (mg : Str → Option Value) (base : Heap) (x : Str) (C : Addr) (k : Nat) (ps : List Str) (n : Nat) (ks : List Str) (gV : List V → List V → List V) (sp : Sp) : Prop where
  ex : ∃ (f : Addr) (fd : FuncData) (g : List Value → List Value → List Value), Mk K C f ∧ FnOk P w K mg base CX0 k f fd ps sp ∧ mg x = some (.ref C) ∧ KBn K fd ps (n + 1) ks g gV
section
variable {X : Cx} {x : Str} {C : Addr} {p pos : Pos} {e : Expr} {es : List Expr} {kws : List Keyword} {t tk : TA} {k n : Nat} {ps ks : List Str} {gV : List V → List V → List V} {sp : Sp}
theorem pe_mkK (c : MakK X.prog X.w X.K X.mg X.base x C k ps n ks gV sp) (hr : Room (k + 1) X.A) (hg : Gl X x) (ha : PA X (e :: es) t) (hkw : PK X kws tk)
    (hall : (backToKw pos (keywordEach kws X.env)).all (·.1.isSome) = true := by rfl) (hks : (backToKw pos (keywordEach kws X.env)).filterMap (·.1) = ks := by rfl) (hdb : (x == ("__debug__" : Str)) = false := by decide)
    (he : starEach (e :: es) X.env = (false, eval e X.env) :: starEach es X.env := by rfl) (hpl : ((backTo pos (starEach (e :: es) X.env)).any (·.1) || (backToKw pos (keywordEach kws X.env)).any (·.1.isNone)) = false := by rfl) :
    PE X (.Call (.Name x p) (e :: es) kws pos) (tMakeK C n ks.length sp gV E0 t tk) := by
  obtain ⟨f, fd, g, M, F, hm, hb⟩ := c.ex
  exact pe_makeK M F hr hg hm hb pass0 ha hkw hall hks hdb he hpl
theorem pe_mkK0 (c : MakK X.prog X.w X.K X.mg X.base x C k ps 0 ks gV sp) (hr : Room (k + 1) X.A) (hg : Gl X x) (hkw : PK X kws tk)
    (hall : (backToKw pos (keywordEach kws X.env)).all (·.1.isSome) = true := by rfl) (hks : (backToKw pos (keywordEach kws X.env)).filterMap (·.1) = ks := by rfl) (hdb : (x == ("__debug__" : Str)) = false := by decide)
    (hpl : ((backTo pos (starEach [] X.env)).any (·.1) || (backToKw pos (keywordEach kws X.env)).any (·.1.isNone)) = false := by rfl) :
    PE X (.Call (.Name x p) [] kws pos) (tMakeK C 0 ks.length sp gV E0 tNil tk) := by
  obtain ⟨f, fd, g, M, F, hm, hb⟩ := c.ex
  exact pe_makeK0 M F hr hg hm hb pass0 hkw hall hks hdb hpl
end
theorem Vals.dt {vs : List V} {us : List Value} (r : Vals vs us) (j : Nat) : Vals ((vs.drop j).take 1) ((us.drop j).take 1) := by
  induction r generalizing j with
  | nil => simp; exact .nil
  | cons h r ih =>
    cases j with
    | zero => exact .cons h .nil
    | succ j => exact ih j
theorem kps_fld {X : Cx} {K : PySem.W.Frag} {o value : Expr} {f : Str} {pos pos' : Pos} {ta tv : TE} (h : X.K = K) (ha : PE X o ta) (hv : PE X value tv) (hs : swapsWith value (some (.Attribute o f pos')) pos.line X.env = pure false) : PS X (.Assign [.Attribute o f pos'] value pos) (sFld K ta tv f) := h ▸ ps_fld ha hv hs
/-! steps -/
def MakeQ (C : Addr) (sp : Sp) (E : XK) (Q : VK) (vs : List V) (H1 : Hp) : Prop := ∀ x dx, H1 x = none → H1 dx = none → dx ≠ x → sp (.ref x :: vs) (upd (upd H1 dx (.own x)) x (.ins C dx [])) (fun v H2 => v = .non ∧ Q (.ref x) H2) E
def SfQ (K : PySem.W.Frag) (f : Str) (G : Ends) (σ : L2.St) (x y : V) (H2 : Hp) : Prop := ∃ a C dx fs, x = .ref a ∧ H2 a = some (.ins C dx fs) ∧ Cls K C ∧ NoAttr K C f ∧ fs.length < 1000 ∧ G.nx σ (upd H2 a (.ins C dx (putF f y fs)))
def MethQ (C : Addr) (m : Str) (x : V) (H : Hp) (A : Prop) : Prop := ∃ a dx fs, x = .ref a ∧ H a = some (.ins C dx fs) ∧ fs.lookup m = none ∧ A
theorem putF_new {f : Str} {v : V} : ∀ {fs : List (Str × V)}, f ∉ fs.map (·.1) → putF f v fs = fs ++ [(f, v)]
  | [], _ => rfl
  | (g, x) :: r, h => by
    have h1 : ¬ g = f := fun e => h (by rw [e]; exact List.mem_cons_self)
    have h2 : f ∉ r.map (·.1) := fun e => h (List.mem_cons_of_mem _ e)
    show (if g = f then _ else (g, x) :: putF f v r) = _
    rw [if_neg h1, putF_new h2]
    rfl
section
variable {K : PySem.W.Frag} {σ : L2.St} {I H : Hp} {M : List (Addr × HO)} {Q : VK} {G : Ends} {ta tv : TE} {tA : TA} {C : Addr} {sp : Sp} {dvs vs : List V} {E : XK} {m f : Str} {v x y : V} {fs : List (Str × D)} {L : List Str}
theorem s_make (h : tA σ H fun vs H1 => MakeQ C sp E Q (vs ++ dvs) H1) : tMake C sp dvs E tA σ H Q := h
theorem s_makeW (w : W I H M) (q : ∀ x dx H', I x = none → W I H' ((x, .ins C dx []) :: M) → sp (.ref x :: vs) H' (fun v H2 => v = .non ∧ Q (.ref x) H2) E) : MakeQ C sp E Q vs H := fun x dx hx hd ne => by
  have w1 : W I (upd H dx (.own x)) M := w.more (same_new hd)
  have hx1 : upd H dx (.own x) x = none := by rw [upd_ne ne.symm]; exact hx
  exact q x dx _ (w.fresh hx) (w1.newM hx1)
def MakeKQ (C : Addr) (sp : Sp) (gV : List V → List V → List V) (E : XK) (Q : VK) (vs zs : List V) (H2 : Hp) : Prop := ∀ x dx, H2 x = none → H2 dx = none → dx ≠ x → sp (gV (.ref x :: vs) zs) (upd (upd H2 dx (.own x)) x (.ins C dx [])) (fun v H3 => v = .non ∧ Q (.ref x) H3) E
theorem s_makeK {gV : List V → List V → List V} {n m : Nat} {tK : TA} (h : tA σ H fun vs H1 => tK σ H1 fun zs H2 => vs.length = n ∧ zs.length = m ∧ MakeKQ C sp gV E Q vs zs H2) : tMakeK C n m sp gV E tA tK σ H Q := h
theorem s_mkKQ {gV : List V → List V → List V} {zs us : List V} (hg : ∀ x, gV (x :: vs) zs = x :: us) (h : MakeQ C sp E Q us H) : MakeKQ C sp gV E Q vs zs H := fun x dx a b c => by rw [hg]; exact h x dx a b c
theorem s_makeW2 {m0 : Addr × HO} (w : W I H (m0 :: M)) (q : ∀ x dx H', I x = none → W I H' ((x, .ins C dx []) :: m0 :: M) → sp (.ref x :: vs) H' (fun v H2 => v = .non ∧ Q (.ref x) H2) E) : MakeQ C sp E Q vs H := s_makeW w q
theorem s_sfld (h : tv σ H fun y H1 => ta σ H1 fun x H2 => SfQ K f G σ x y H2) : sFld K ta tv f G σ H := h
theorem s_sfW {a dx : Addr} {gs : List (Str × V)} (w : W I H ((a, .ins C dx gs) :: M)) (hc : Cls K C) (hn : ∀ f ∈ L, NoAttr K C f) (hf : f ∈ L) (hg : gs.length < 1000) (q : ∀ H', W I H' ((a, .ins C dx (putF f y gs)) :: M) → G.nx σ H') : SfQ K f G σ (.ref a) y H :=
  ⟨a, C, dx, gs, rfl, w.at0, hc, hn f hf, hg, q _ w.put0⟩
theorem s_meth (h : ta σ H fun x H1 => MethQ C m x H1 (tA σ H1 fun vs H2 => sp (x :: (vs ++ dvs)) H2 Q E)) : tMeth C m sp dvs E ta tA σ H Q := h
theorem s_methAt {A : Prop} (w : W I H M) (h : Is I v (.obj C fs)) (hm : m ∉ fs.map (·.1)) (q : A) : MethQ C m v H A := by
  obtain ⟨p, dx, vs, rfl, hp, a⟩ := h.obj_ex
  refine ⟨p, dx, vs, rfl, w.imm _ _ hp, a.no ?_, q⟩
  cases e : fs.lookup m with
  | none => rfl
  | some d =>
    exfalso
    apply hm
    clear a hp h
    induction fs with
    | nil => cases e
    | cons g r ih =>
      rw [List.lookup_cons] at e
      cases hc : m == g.1 with
      | true => rw [beq_iff_eq.mp hc]; exact List.mem_cons_self
      | false => rw [hc] at e; exact List.mem_cons_of_mem _ (ih (fun q => hm (List.mem_cons_of_mem _ q)) e)
theorem s_fldA {d : D} (w : W I H M) (h : Is I v (.obj C fs)) (hc : Cls K C) (hn : ∀ f ∈ L, NoAttr K C f) (hf : f ∈ L) (hd : fs.lookup f = some d) (q : ∀ u, Is I u d → Q u H) :
    ∃ a C dx fs u, v = .ref a ∧ H a = some (.ins C dx fs) ∧ Cls K C ∧ NoAttr K C f ∧ fs.lookup f = some u ∧ Q u H := s_fldAt w h hc (hn f hf) hd q
def FldQ (K : PySem.W.Frag) (f : Str) (Q : VK) (x : V) (H1 : Hp) : Prop := tFld K (fun _ H Q => Q x H) f [] H1 Q
theorem s_fldQ (h : ta σ H fun x H1 => FldQ K f Q x H1) : tFld K ta f σ H Q := h
theorem s_fldI {d : D} (w : W I H M) (h : Is I v (.obj C fs)) (hc : Cls K C) (hn : ∀ f ∈ L, NoAttr K C f) (hf : f ∈ L) (hd : fs.lookup f = some d) (q : ∀ u, Is I u d → Q u H) : FldQ K f Q v H := s_fldA w h hc hn hf hd q
theorem Is.tyo (o : OwnC K C) (w : W I H M) (h : Is I v (.obj C fs)) : TyX K H v (.ref C) := by
  obtain ⟨p, dx, vs, rfl, hp, a⟩ := h.obj_ex
  exact .base (.ins (w.imm _ _ hp) o.cl o.ha o.hn o.htk o.hm)
theorem s_isiO {b : String} {k : Bool} (o : OwnC K C) (w : W I H M) (h : Is I v (.obj C fs)) (hb : PySem.W.kitOne K (.ref C) (.type b) = some k) (q : Q (.bl k) H) : rIsiU K [v, .ty b] H Q :=
  .inl ⟨v, .ty b, .ref C, .type b, k, rfl, .ty b, h.tyo o w, hb, q⟩
theorem s_isiC {a : String} {d : D} {k : Bool} (w : W I H M) (h : Is I v d) (e : d.tn = some a) (hb : PySem.W.kitOne K (.type a) (.ref C) = some k) (q : Q (.bl k) H) : rIsiU K [v, .ref C] H Q :=
  .inl ⟨v, .ref C, .type a, .ref C, k, rfl, .own C, h.tyx w e, hb, q⟩
theorem s_isiOC {C' : Addr} {k : Bool} (o : OwnC K C) (w : W I H M) (h : Is I v (.obj C fs)) (hb : PySem.W.kitOne K (.ref C) (.ref C') = some k) (q : Q (.bl k) H) : rIsiU K [v, .ref C'] H Q :=
  .inl ⟨v, .ref C', .ref C, .ref C', k, rfl, .own C', h.tyo o w, hb, q⟩
end
theorem s_intN {n : Int} {A B : Prop} (h : B) : if decide (V.int n = V.non) = true then A else B := s_iteDn (fun q => nomatch q) h
theorem s_refN {n : Addr} {A B : Prop} (h : B) : if decide (V.ref n = V.non) = true then A else B := s_iteDn (fun q => nomatch q) h
theorem s_nonN {A B : Prop} (h : A) : if decide (V.non = V.non) = true then A else B := s_iteDp rfl h
/-- an own class is no built-in one -/
structure KitC (K : PySem.W.Frag) (C : Addr) : Prop where
  i : PySem.W.kitOne K (.ref C) (.type "int") = some false
  b : PySem.W.kitOne K (.ref C) (.type "bool") = some false
  t : PySem.W.kitOne K (.ref C) (.type "tuple") = some false
  l : PySem.W.kitOne K (.ref C) (.type "list") = some false
  s : PySem.W.kitOne K (.ref C) (.type "str") = some false
  d : PySem.W.kitOne K (.ref C) (.type "dict") = some false
theorem kit_mro {K : PySem.W.Frag} {C : Addr} {b : String} {r : Bool} (hk : PySem.W.kitMeta b = true) (hm : PySem.W.mroIn K C (.type b) = some r) : PySem.W.kitOne K (.ref C) (.type b) = some r := by
  have e : ¬ (Value.ref C == Value.type b) = true := fun h => by cases (beq_iff_eq.mp h)
  show (if (Value.ref C == Value.type b) = true then some true else PySem.W.kitCls K (.ref C) (.type b)) = some r
  rw [if_neg e]
  show (if PySem.W.kitMeta b = true then PySem.W.subIn K (.ref C) (.type b) else none) = some r
  rw [if_pos hk]
  exact hm
/-- of a known kind, or an instance that is no int -/
def TyK (K : PySem.W.Frag) (d : D) : Prop := Ty d ∨ ∃ C fs, d = .obj C fs ∧ OwnC K C ∧ PySem.W.kitOne K (.ref C) (.type "int") = some false
theorem TyK.of {K : PySem.W.Frag} {d : D} (h : Ty d) : TyK K d := .inl h
/-- a part -/
abbrev prt (C : Addr) (b l : Int) (g : D) (w s : Int) : D := .obj C [("base", .int b), ("least", .int l), ("greatest", g), ("grow", .int w), ("shrink", .int s)]
end Fs

namespace Fs
open PySem PySem.Spec PyProof.Rows L2
/-! ### texts -/
/-- a text times a number: here only its length is told -/
def rMulS : R2 := fun x y H Q => ∃ (z : Str) (n : Int), x = .str z ∧ y = .int n ∧ 0 ≤ n ∧ n ≤ 1000 ∧ z.length ≤ 1000 ∧ ∀ z' : Str, z'.length ≤ z.length * n.toNat → Q (.str z') H
theorem rep_len (x : Array Nat) : ∀ (n : Nat) (acc : Array Nat), ((List.replicate n x).foldl (· ++ ·) acc).size = acc.size + n * x.size
  | 0, acc => by simp
  | n + 1, acc => by
    rw [List.replicate_succ, List.foldl_cons, rep_len x n, Array.size_append, Nat.add_mul]
    omega
theorem op_mulS {X : Cx} : OpR X (binaryOp .Mult) rMulS := by
  intro pins s σ H x y v u Q I rx ry h
  obtain ⟨z, n, rfl, rfl, h0, h1, h2, q⟩ := h
  obtain ⟨t, rfl⟩ := rx
  obtain ⟨t', rfl⟩ := ry
  have hz : z.length * n.toNat ≤ 1000 * 1000 := Nat.mul_le_mul h2 (by omega)
  refine PySem.P.mul_str (by simp; omega) (fun hn _ => ?_) (fun hn _ => ?_) ?_
  · have : (1000 : Int) ≤ (2 ^ 63 - 1) / n := by
      refine Int.le_ediv_of_mul_le (by omega) ?_
      have : 1000 * n ≤ 1000 * 1000 := Int.mul_le_mul_of_nonneg_left h1 (by decide)
      omega
    have h3 : (z.length : Int) ≤ 1000 := by omega
    omega
  · exact decide_eq_false (by
      have : (1000 * 1000 : Nat) ≤ sizeLine := by decide
      omega)
  · by_cases hn : n < 1
    · rw [if_pos hn]
      exact ⟨by decide, .str Str.empty, H, I.tok _, ⟨_, rfl⟩, q _ (Nat.zero_le _)⟩
    · rw [if_neg hn]
      by_cases hc : (n == 1 || z.length == 0) = true
      · rw [if_pos hc]
        refine ⟨.str z, H, I, ⟨_, rfl⟩, q _ ?_⟩
        have : 1 ≤ n.toNat := by omega
        exact Nat.le_mul_of_pos_right _ this
      · rw [if_neg hc]
        have e : Str.length ⟨(List.replicate n.toNat z.cps).foldl (· ++ ·) #[]⟩ = n.toNat * z.length := by
          have := rep_len z.cps n.toNat #[]
          show Array.size _ = _
          rw [this]
          simp [Str.length]
        have : (1000 * 1000 : Nat) ≤ sizeLine := by decide
        rw [Nat.mul_comm] at hz
        exact ⟨by rw [e]; omega, .str _, H, I.tok _, ⟨_, rfl⟩, q _ (by rw [e, Nat.mul_comm]; exact Nat.le_refl _)⟩
section
variable {K : PySem.W.Frag} {X : Cx} {σ : L2.St} {I H : Hp} {M : List (Addr × HO)} {Q : VK} {G : Ends} {z y : Str} {n : Int} {te : TE} {g : TG} {tb : TS}
theorem small_line {n : Nat} (h : n ≤ 100000) : n ≤ sizeLine := Nat.le_trans h (by decide)
theorem s_mulS (h0 : 0 ≤ n) (h1 : n ≤ 1000) (h2 : z.length ≤ 1000) (q : ∀ z' : Str, z'.length ≤ z.length * n.toNat → Q (.str z') H) : rMulS (.str z) (.int n) H Q := ⟨z, n, rfl, rfl, h0, h1, h2, q⟩
theorem s_lenS (hz : z.length ≤ 100000) (q : Q (.int z.length) H) : rLenU K [.str z] H Q := .inr ⟨z, rfl, small_line hz, q⟩
theorem s_addT (hz : z.length + y.length ≤ 100000) (q : Q (.str (z ++ y)) H) : rAddU K (.str z) (.str y) H Q := .inr (.inl ⟨z, y, rfl, rfl, small_line hz, q⟩)
theorem s_ixS (h0 : 0 ≤ n) (h1 : n < z.length) (hz : z.length ≤ 100000) (q : ∀ c, Q (.str ⟨#[c]⟩) H) : rIx K (.str z) (.int n) H Q := by
  obtain ⟨c, _, e⟩ := at_nat (l := z.cps.toList) h0 (by rw [Array.length_toList]; exact h1)
  exact .inr (.inr ⟨z, n, c, rfl, rfl, small_line hz, e, q c⟩)
theorem cut_len {lo hi : Option Int} : (cutS z lo hi).length ≤ z.length := by
  show Array.size _ ≤ Array.size _
  simp only [cutS, List.size_toArray, List.length_take, List.length_drop, Array.length_toList]
  omega
theorem s_cutS {lo hi : Option Int} (hz : z.length ≤ 100000) (q : ∀ z' : Str, z'.length ≤ z.length → Q (.str z') H) : rSlS (.str z) lo hi H Q := ⟨z, rfl, small_line hz, q _ cut_len⟩
theorem s_ltS (q : Q (.bl (decide (z.cps.toList < y.cps.toList))) H) : (fun x y H Q => ∃ i j, x = V.str i ∧ y = V.str j ∧ Q (V.bl (decide (i.cps.toList < j.cps.toList))) H : R2) (.str z) (.str y) H Q := ⟨z, y, rfl, rfl, q⟩
def rLtS : R2 := fun x y H Q => ∃ i j, x = V.str i ∧ y = V.str j ∧ Q (.bl (decide (i.cps.toList < j.cps.toList))) H
def rGtS : R2 := fun x y H Q => ∃ i j, x = V.str i ∧ y = V.str j ∧ Q (.bl (decide (j.cps.toList < i.cps.toList))) H
def rNiS : R2 := fun x y H Q => ∃ (c : Nat) (z : Str), x = .str ⟨#[c]⟩ ∧ y = .str z ∧ Q (.bl (!decide (c ∈ z.cps.toList))) H
theorem u_ltS : OpR X (compareOp .Lt) rLtS := op_lt_str
theorem u_gtS : OpR X (compareOp .Gt) rGtS := op_gt_str
theorem u_niS : OpR X (compareOp .NotIn) rNiS := op_notIn_sign
theorem s_lts (q : Q (.bl (decide (z.cps.toList < y.cps.toList))) H) : rLtS (.str z) (.str y) H Q := ⟨z, y, rfl, rfl, q⟩
theorem s_gts (q : Q (.bl (decide (y.cps.toList < z.cps.toList))) H) : rGtS (.str z) (.str y) H Q := ⟨z, y, rfl, rfl, q⟩
theorem s_nis {c : Nat} (q : Q (.bl (!decide (c ∈ z.cps.toList))) H) : rNiS (.str ⟨#[c]⟩) (.str z) H Q := ⟨c, z, rfl, rfl, q⟩
/-- sep.join(list) : only the length is told -/
def rJoin (K : PySem.W.Frag) : V → List V → Hp → VK → Prop := fun x xs H Q => ∃ a p, ∃ ys : List Str, x = .str a ∧ xs = [.ref p] ∧ (SqL K H p (ys.map V.str) ∨ SqT K H p (ys.map V.str)) ∧
    (ys.map (·.length)).sum + ys.length * a.length ≤ 16777216 ∧ Q (.str (Txt.join a ys)) H
theorem k_join {o e : Expr} {to te : TE} {apos pos : Pos} (h : X.K = K) (ho : PE X o to) (he : PE X e te) (hs : starEach [e] X.env = [(false, eval e X.env)] := by rfl) (hbase : attributeBase o "join" X.env (eval o X.env) = eval o X.env := by rfl) (hline : (apos.endLine == pos.line) = true := by rfl) :
    PE X (.Call (.Attribute o "join" apos) [e] [] pos) (tM1 (rJoin K) to te) := h ▸ pe_join ho he hs hbase hline
theorem s_m1 {r : V → List V → Hp → VK → Prop} {to : TE} (h : to σ H fun x H1 => (∃ a, x = .str a) ∧ te σ H1 fun y H2 => r x [y] H2 Q) : tM1 r to te σ H Q := h
/-- for c in text -/
theorem s_iS {R : It → Hp → Prop} (h : te σ H fun v H1 => ∃ x, v = .str x ∧ R (Its x) H1) : iStr te σ H R := h
theorem s_forS (Pv : Nat → L2.St → Hp → Prop) (h0 : Pv 0 σ H)
    (hs : ∀ i c σ H, z.cps.toList[i]? = some c → Pv i σ H → g (.str ⟨#[c]⟩) σ H fun σ2 H2 => tb { G with nx := Pv (i + 1), ct := Pv (i + 1), bk := G.nx } σ2 H2) (hd : ∀ σ H, Pv z.length σ H → G.nx σ H) :
    ∃ x, V.str z = .str x ∧ ∃ W : Nat → Nat → L2.St → Hp → Prop, (∃ m, W 0 m σ H) ∧ ∀ i m σ H, W i m σ H →
      ((Its x).stop i H ∧ G.nx σ H) ∨ ((Its x).go i H ∧ ∃ N : L2.St → Hp → Prop, (∀ σ' H', N σ' H' → ∃ m', m' < m ∧ W (i + 1) m' σ' H') ∧ ∀ v H', (Its x).yld i H v H' → g v σ H' fun σ2 H2 => tb { G with nx := N, ct := N, bk := G.nx } σ2 H2) := by
  refine ⟨z, rfl, ?_⟩
  refine for_it walk_str Pv h0 (fun i σ H _ q => trivial) (fun i x σ H H' hi q y => ?_) (fun σ H q => hd σ H q)
  obtain ⟨rfl, c, e, rfl⟩ := y
  exact hs i c σ _ (by rw [Array.getElem?_toList]; exact e) q
end
end Fs

namespace Fs
open PySem PySem.Spec PyProof.Rows L2
/-! ### what is known, as a list of facts; what may be changed, by what it holds -/
inductive ME where
  | raw (p : Addr) (o : HO)
  | ml (p : Addr) (ds : List D)
  | mi (p C : Addr) (fs : List (Str × D))
  | bag (b : Addr)
  | dk (p : Addr) (kvs : List (Key × D))
  | dt (p : Addr) (kvs : List (List Key × D))
/-- pairs with the same keys -/
inductive IsP (I : Hp) {κ : Type} : List (κ × V) → List (κ × D) → Prop
  | nil : IsP I [] []
  | cons {f : κ} {v : V} {d : D} {vs : List (κ × V)} {ds : List (κ × D)} : Is I v d → IsP I vs ds → IsP I ((f, v) :: vs) ((f, d) :: ds)
theorem IsP.mono {I J : Hp} {κ : Type} (s : Same I J) : ∀ {vs : List (κ × V)} {ds : List (κ × D)}, IsP I vs ds → IsP J vs ds
  | _, _, .nil => .nil
  | _, _, .cons h a => .cons (h.mono s) (IsP.mono s a)
inductive Cn (I : Hp) : ME → Addr × HO → Prop
  | raw {p : Addr} {o : HO} : Cn I (.raw p o) (p, o)
  | ml {p : Addr} {vs : List V} {ds : List D} : IsA I vs ds → Cn I (.ml p ds) (p, .lst vs)
  | mi {p C dx : Addr} {vs : List (Str × V)} {fs : List (Str × D)} : IsF I vs fs → Cn I (.mi p C fs) (p, .ins C dx vs)
  | bag {b c : Addr} {o : HO} : Bag I c o → Cn I (.bag b) (b, o)
  | dk {p : Addr} {vs : List (Key × V)} {ds : List (Key × D)} : IsP I vs ds → Cn I (.dk p ds) (p, .dK vs)
  | dt {p : Addr} {vs : List (List Key × V)} {ds : List (List Key × D)} : IsP I vs ds → Cn I (.dt p ds) (p, .dT vs)
theorem Cn.mono {I J : Hp} {e : ME} {m : Addr × HO} (s : Same I J) (h : Cn I e m) : Cn J e m := by
  cases h with
  | raw => exact .raw
  | ml a => exact .ml (a.mono s)
  | mi a => exact .mi (a.mono s)
  | bag b => exact .bag (b.mono s)
  | dk b => exact .dk (b.mono s)
  | dt b => exact .dt (b.mono s)
inductive CnA (I : Hp) : List ME → List (Addr × HO) → Prop
  | nil : CnA I [] []
  | cons {e : ME} {m : Addr × HO} {M : List ME} {Mc : List (Addr × HO)} : Cn I e m → CnA I M Mc → CnA I (e :: M) (m :: Mc)
theorem CnA.mono {I J : Hp} (s : Same I J) : ∀ {M : List ME} {Mc : List (Addr × HO)}, CnA I M Mc → CnA J M Mc
  | _, _, .nil => .nil
  | _, _, .cons h a => .cons (h.mono s) (CnA.mono s a)
structure Wf (F : List (V × D)) (H : Hp) (M : List ME) : Prop where
  ex : ∃ I Mc, W I H Mc ∧ CnA I M Mc ∧ ∀ f ∈ F, Is I f.1 f.2
/-- one is changed -/
inductive Foc : List ME → ME → List ME → ME → Prop
  | here {e e' : ME} {M : List ME} : Foc (e :: M) e (e' :: M) e'
  | there {e e' m : ME} {M M' : List ME} : Foc M e M' e' → Foc (m :: M) e (m :: M') e'
/-- one is taken out -/
inductive Rem : List ME → ME → List ME → Prop
  | here {e : ME} {M : List ME} : Rem (e :: M) e M
  | there {e m : ME} {M M' : List ME} : Rem M e M' → Rem (m :: M) e (m :: M')
section
variable {I H : Hp} {M M' : List ME} {Mc : List (Addr × HO)} {e e' : ME}
theorem CnA.foc (a : CnA I M Mc) (f : Foc M e M' e') : ∃ M1 m M2, Mc = M1 ++ m :: M2 ∧ Cn I e m ∧ ∀ J m', Same I J → Cn J e' m' → CnA J M' (M1 ++ m' :: M2) := by
  induction f generalizing Mc with
  | here =>
    cases a with
    | cons h a => exact ⟨[], _, _, rfl, h, fun J m' s h' => .cons h' (a.mono s)⟩
  | there f ih =>
    cases a with
    | cons h a =>
      obtain ⟨M1, m, M2, rfl, h1, h2⟩ := ih a
      exact ⟨_ :: M1, m, M2, rfl, h1, fun J m' s h' => .cons (h.mono s) (h2 J m' s h')⟩
theorem CnA.rem (a : CnA I M Mc) (f : Rem M e M') : ∃ M1 m M2, Mc = M1 ++ m :: M2 ∧ Cn I e m ∧ CnA I M' (M1 ++ M2) := by
  induction f generalizing Mc with
  | here =>
    cases a with
    | cons h a => exact ⟨[], _, _, rfl, h, a⟩
  | there f ih =>
    cases a with
    | cons h a =>
      obtain ⟨M1, m, M2, rfl, h1, h2⟩ := ih a
      exact ⟨_ :: M1, m, M2, rfl, h1, .cons h h2⟩
theorem CnA.mem (a : CnA I M Mc) (h : e ∈ M) : ∃ m, m ∈ Mc ∧ Cn I e m := by
  induction a with
  | nil => cases h
  | cons h1 a ih =>
    rcases List.mem_cons.mp h with rfl | h
    · exact ⟨_, List.mem_cons_self, h1⟩
    · obtain ⟨m, q1, q2⟩ := ih h
      exact ⟨m, List.mem_cons_of_mem _ q1, q2⟩
theorem CnA.sub (a : CnA I M Mc) (s : List.Sublist M' M) : ∃ Mc', List.Sublist Mc' Mc ∧ CnA I M' Mc' := by
  induction s generalizing Mc with
  | slnil => cases a; exact ⟨[], .slnil, .nil⟩
  | cons _ s ih =>
    cases a with
    | cons h a =>
      obtain ⟨Mc', h1, h2⟩ := ih a
      exact ⟨Mc', .cons _ h1, h2⟩
  | cons_cons _ s ih =>
    cases a with
    | cons h a =>
      obtain ⟨Mc', h1, h2⟩ := ih a
      exact ⟨_ :: Mc', .cons_cons _ h1, .cons h h2⟩
theorem CnA.perm {M' : List ME} (p : List.Perm M M') : ∀ {Mc : List (Addr × HO)}, CnA I M Mc → ∃ Mc', List.Perm Mc Mc' ∧ CnA I M' Mc' := by
  induction p with
  | nil => intro Mc a; exact ⟨Mc, .refl _, a⟩
  | cons x p ih =>
    intro Mc a
    cases a with
    | cons h a =>
      obtain ⟨Mc', h1, h2⟩ := ih a
      exact ⟨_ :: Mc', .cons _ h1, .cons h h2⟩
  | swap x y l =>
    intro Mc a
    cases a with
    | cons h a =>
      cases a with
      | cons h' a => exact ⟨_, .swap _ _ _, .cons h' (.cons h a)⟩
  | trans p q ih1 ih2 =>
    intro Mc a
    obtain ⟨M1, h1, a1⟩ := ih1 a
    obtain ⟨M2, h2, a2⟩ := ih2 a1
    exact ⟨M2, h1.trans h2, a2⟩
theorem W.subl {Mc' : List (Addr × HO)} (w : W I H Mc) (s : List.Sublist Mc' Mc) : W I H Mc' := ⟨w.imm, fun x hx => w.mu x (s.subset hx), w.nd.sublist (s.map _)⟩
theorem W.perm {Mc' : List (Addr × HO)} (w : W I H Mc) (s : List.Perm Mc Mc') : W I H Mc' := ⟨w.imm, fun x hx => w.mu x (s.mem_iff.mpr hx), (s.map _).nodup_iff.mp w.nd⟩
end
/-- known -/
inductive Rk (F : List (V × D)) (M : List ME) : V → D → Prop
  | mem {v : V} {d : D} : (v, d) ∈ F → Rk F M v d
  | int (n : Int) : Rk F M (.int n) (.int n)
  | bl (n : Bool) : Rk F M (.bl n) (.bl n)
  | str (n : Str) : Rk F M (.str n) (.str n)
  | non : Rk F M .non .non
  | ml {p : Addr} {ds : List D} : .ml p ds ∈ M → Rk F M (.ref p) (.lst ds)
  | mi {p C : Addr} {fs : List (Str × D)} : .mi p C fs ∈ M → Rk F M (.ref p) (.obj C fs)
/-- known for good -/
inductive Kn (F : List (V × D)) : V → D → Prop
  | mem {v : V} {d : D} : (v, d) ∈ F → Kn F v d
  | int (n : Int) : Kn F (.int n) (.int n)
  | bl (n : Bool) : Kn F (.bl n) (.bl n)
  | str (n : Str) : Kn F (.str n) (.str n)
  | non : Kn F .non .non
  | ty (n : String) : Kn F (.ty n) (.ty n)
  | ref (a : Addr) : Kn F (.ref a) (.ref a)
inductive KnA (F : List (V × D)) : List V → List D → Prop
  | nil : KnA F [] []
  | cons {v : V} {d : D} {vs : List V} {ds : List D} : Kn F v d → KnA F vs ds → KnA F (v :: vs) (d :: ds)
/-- all facts of F' are among F's -/
def KS (F' F : List (V × D)) : Prop := ∀ f ∈ F', Kn F f.1 f.2
theorem KS.nil {F : List (V × D)} : KS [] F := fun _ h => nomatch h
theorem KS.refl {F : List (V × D)} : KS F F := fun _ h => .mem h
theorem KS.cons {F F' : List (V × D)} {v : V} {d : D} (h : Kn F v d) (r : KS F' F) : KS ((v, d) :: F') F := fun f hf => by
  rcases List.mem_cons.mp hf with rfl | hf
  · exact h
  · exact r f hf
theorem Kn.more {F : List (V × D)} {g : V × D} {v : V} {d : D} (h : Kn F v d) : Kn (g :: F) v d := by
  cases h with
  | mem h => exact .mem (List.mem_cons_of_mem _ h)
  | int n => exact .int n
  | bl n => exact .bl n
  | str n => exact .str n
  | non => exact .non
  | ty n => exact .ty n
  | ref a => exact .ref a
theorem KS.drop {F F' : List (V × D)} {g : V × D} (r : KS F' F) : KS F' (g :: F) := fun f hf => (r f hf).more
section
variable {I H H' : Hp} {F F' : List (V × D)} {M M' : List ME} {Mc : List (Addr × HO)} {v x y : V} {d : D} {ds : List D} {vs xs : List V}
theorem Kn.is (hF : ∀ f ∈ F, Is I f.1 f.2) (h : Kn F v d) : Is I v d := by
  cases h with
  | mem h => exact hF _ h
  | int n => exact .int n
  | bl n => exact .bl n
  | str n => exact .str n
  | non => exact .non
  | ty n => exact .ty n
  | ref a => exact .ref a
theorem KnA.is (hF : ∀ f ∈ F, Is I f.1 f.2) : ∀ {vs : List V} {ds : List D}, KnA F vs ds → IsA I vs ds
  | _, _, .nil => .nil
  | _, _, .cons h a => .cons (h.is hF) (KnA.is hF a)
theorem Rk.of (h : Kn F v d) (hd : (∃ n, d = .ref n) ∨ (∃ n, d = .ty n) → False) : Rk F M v d := by
  cases h with
  | mem h => exact .mem h
  | int n => exact .int n
  | bl n => exact .bl n
  | str n => exact .str n
  | non => exact .non
  | ty n => exact (hd (.inr ⟨_, rfl⟩)).elim
  | ref a => exact (hd (.inl ⟨_, rfl⟩)).elim
/-- what is known is there to be read -/
theorem Rk.rd (w : W I H Mc) (a : CnA I M Mc) (hF : ∀ f ∈ F, Is I f.1 f.2) (h : Rk F M v d) : Is H v d := by
  cases h with
  | mem h => exact (hF _ h).mono w.imm
  | int n => exact .int n
  | bl n => exact .bl n
  | str n => exact .str n
  | non => exact .non
  | ml h =>
    obtain ⟨m, h1, h2⟩ := a.mem h
    cases h2 with
    | ml b => exact .lst (w.mu _ h1).1 (b.mono w.imm)
  | mi h =>
    obtain ⟨m, h1, h2⟩ := a.mem h
    cases h2 with
    | mi b => exact .obj (w.mu _ h1).1 (b.mono w.imm)
theorem Rk.lst (w : W I H Mc) (a : CnA I M Mc) (hF : ∀ f ∈ F, Is I f.1 f.2) (h : Rk F M v (.lst ds)) : ∃ p vs, v = .ref p ∧ H p = some (.lst vs) ∧ IsA I vs ds := by
  cases h with
  | mem h =>
    obtain ⟨p, vs, e, h1, h2⟩ := (hF _ h).lst_ex
    exact ⟨p, vs, e, w.imm _ _ h1, h2⟩
  | ml h =>
    obtain ⟨m, h1, h2⟩ := a.mem h
    cases h2 with
    | ml b => exact ⟨_, _, rfl, (w.mu _ h1).1, b⟩
theorem Rk.tup (w : W I H Mc) (a : CnA I M Mc) (hF : ∀ f ∈ F, Is I f.1 f.2) (h : Rk F M v (.tup ds)) : ∃ p vs, v = .ref p ∧ H p = some (.tup vs) ∧ IsA I vs ds := by
  cases h with
  | mem h =>
    obtain ⟨p, vs, e, h1, h2⟩ := (hF _ h).tup_ex
    exact ⟨p, vs, e, w.imm _ _ h1, h2⟩
theorem Rk.obj {C : Addr} {fs : List (Str × D)} (w : W I H Mc) (a : CnA I M Mc) (hF : ∀ f ∈ F, Is I f.1 f.2) (h : Rk F M v (.obj C fs)) : ∃ p dx vs, v = .ref p ∧ H p = some (.ins C dx vs) ∧ IsF I vs fs := by
  cases h with
  | mem h =>
    obtain ⟨p, dx, vs, e, h1, h2⟩ := (hF _ h).obj_ex
    exact ⟨p, dx, vs, e, w.imm _ _ h1, h2⟩
  | mi h =>
    obtain ⟨m, h1, h2⟩ := a.mem h
    cases h2 with
    | mi b => exact ⟨_, _, _, rfl, (w.mu _ h1).1, b⟩
theorem Wf.sub (w : Wf F H M) (k : KS F' F) (s : List.Sublist M' M) : Wf F' H M' := by
  obtain ⟨I, Mc, w, a, hF⟩ := w.ex
  obtain ⟨Mc', h1, h2⟩ := a.sub s
  exact ⟨I, Mc', w.subl h1, h2, fun f hf => (k f hf).is hF⟩
theorem Wf.perm (w : Wf F H M) (s : List.Perm M M') : Wf F H M' := by
  obtain ⟨I, Mc, w, a, hF⟩ := w.ex
  obtain ⟨Mc', h1, h2⟩ := a.perm s
  exact ⟨I, Mc', w.perm h1, h2, hF⟩
theorem Wf.tail {f : V × D} (w : Wf (f :: F) H M) : Wf F H M := w.sub KS.refl.drop (.refl _)
theorem Wf.int_eq {n : Int} (w : Wf F H M) (h : Kn F v (.int n)) : v = .int n := by
  obtain ⟨I, Mc, w, a, hF⟩ := w.ex
  exact (h.is hF).int_eq
theorem Wf.eq0 {n : Int} (w : Wf ((v, .int n) :: F) H M) : v = .int n ∧ Wf F H M := ⟨w.int_eq (.mem List.mem_cons_self), w.tail⟩
theorem Wf.add (w : Wf F H M) (h : Kn F v d) : Wf ((v, d) :: F) H M := w.sub (KS.cons h KS.refl) (.refl _)
theorem Wf.more (w : Wf F H M) (s : Same H H') : Wf F H' M := by
  obtain ⟨I, Mc, w, a, hF⟩ := w.ex
  exact ⟨I, Mc, w.more s, a, hF⟩
/-- for contracts in the elder form -/
theorem Wf.old (w : Wf F H M) : ∃ I Mc, W I H Mc ∧ (∀ v d, Kn F v d → Is I v d) ∧ (∀ J H', Same I J → W J H' Mc → Wf F H' M) ∧ ∀ J H' r d, Same I J → W J H' Mc → Is J r d → Wf ((r, d) :: F) H' M := by
  obtain ⟨I, Mc, w, a, hF⟩ := w.ex
  refine ⟨I, Mc, w, fun v d h => h.is hF, fun J H' s w' => ⟨J, Mc, w', a.mono s, fun f hf => (hF f hf).mono s⟩, fun J H' r d s w' h => ⟨J, Mc, w', a.mono s, fun f hf => ?_⟩⟩
  rcases List.mem_cons.mp hf with rfl | hf
  · exact h
  · exact (hF f hf).mono s
theorem Wf.oldB {b : Addr} (w : Wf F H M) (hb : .bag b ∈ M) : ∃ I Mc c o, W I H ((b, o) :: Mc) ∧ Bag I c o ∧ (∀ v d, Kn F v d → Is I v d) ∧ (∀ J H' o', Same I J → W J H' ((b, o') :: Mc) → Bag J c o' → Wf F H' M) ∧ ∀ J H' o' r d, Same I J → W J H' ((b, o') :: Mc) → Bag J c o' → Is J r d → Wf ((r, d) :: F) H' M := by
  obtain ⟨M1, M2, rfl⟩ := List.append_of_mem hb
  have hp : List.Perm (M1 ++ .bag b :: M2) (.bag b :: (M1 ++ M2)) := List.perm_middle
  obtain ⟨I, Mc, w, a, hF⟩ := (w.perm hp).ex
  cases a with
  | cons h a =>
    cases h with
    | @bag _ c o hb =>
      have z : ∀ J H' o', Same I J → W J H' ((b, o') :: _) → Bag J c o' → ∀ F', (∀ f ∈ F', Is J f.1 f.2) → Wf F' H' (M1 ++ .bag b :: M2) := fun J H' o' s w' hb' F' hF' =>
        Wf.perm (M := .bag b :: (M1 ++ M2)) ⟨J, _, w', .cons (.bag hb') (a.mono s), hF'⟩ hp.symm
      refine ⟨I, _, _, _, w, hb, fun v d h => h.is hF, fun J H' o' s w' hb' => z J H' o' s w' hb' F fun f hf => (hF f hf).mono s, fun J H' o' r d s w' hb' h => z J H' o' s w' hb' _ fun f hf => ?_⟩
      rcases List.mem_cons.mp hf with rfl | hf
      · exact h
      · exact (hF f hf).mono s
end

/-! ### steps -/
section
variable {K : PySem.W.Frag} {σ : L2.St} {H : Hp} {F : List (V × D)} {M M' : List ME} {Q : VK} {G : Ends} {v x y u : V} {vs xs us : List V} {d e : D} {ds es : List D} {p : Addr} {i : Int} {g : TG} {tb : TS} {te : TE} {tt : TT} {sp : Sp} {C : Addr} {E : XK} {f m : Str} {fs : List (Str × D)} {L : List Str}
theorem Wf.put {o' : HO} {e e' : ME} (w : Wf F H M) (f : Foc M e M' e') (h : ∀ I m, (∀ f ∈ F, Is I f.1 f.2) → Cn I e m → m.1 = p ∧ Cn I e' (p, o')) : Wf F (upd H p o') M' := by
  obtain ⟨I, Mc, w, a, hF⟩ := w.ex
  obtain ⟨M1, m, M2, rfl, h1, h2⟩ := a.foc f
  obtain ⟨h3, h4⟩ := h I m hF h1
  obtain ⟨p', o⟩ := m
  cases h3
  exact ⟨I, _, w.put, h2 I _ (Same.refl _) h4, hF⟩
theorem Wf.lstAt (w : Wf F H M) (h : .ml p ds ∈ M) : ∃ vs, H p = some (.lst vs) ∧ vs.length = ds.length := by
  obtain ⟨I, Mc, w, a, hF⟩ := w.ex
  obtain ⟨m, h1, h2⟩ := a.mem h
  cases h2 with
  | ml b => exact ⟨_, (w.mu _ h1).1, b.length⟩
theorem Foc.mem {e e' : ME} (f : Foc M e M' e') : e ∈ M := by
  induction f with
  | here => exact List.mem_cons_self
  | there _ ih => exact List.mem_cons_of_mem _ ih
theorem Rem.mem {e : ME} (f : Rem M e M') : e ∈ M := by
  induction f with
  | here => exact List.mem_cons_self
  | there _ ih => exact List.mem_cons_of_mem _ ih
theorem Wf.frzL (w : Wf F H M) (r : Rem M (.ml p ds) M') : Wf ((.ref p, .lst ds) :: F) H M' := by
  obtain ⟨I, Mc, w, a, hF⟩ := w.ex
  obtain ⟨M1, m, M2, rfl, h1, h2⟩ := a.rem r
  cases h1 with
  | ml b =>
    refine ⟨_, _, w.frz, h2.mono w.frzS, fun f hf => ?_⟩
    rcases List.mem_cons.mp hf with rfl | hf
    · exact .lst upd_same (b.mono w.frzS)
    · exact (hF f hf).mono w.frzS
theorem Wf.frzI (w : Wf F H M) (r : Rem M (.mi p C fs) M') : Wf ((.ref p, .obj C fs) :: F) H M' := by
  obtain ⟨I, Mc, w, a, hF⟩ := w.ex
  obtain ⟨M1, m, M2, rfl, h1, h2⟩ := a.rem r
  cases h1 with
  | mi b =>
    refine ⟨_, _, w.frz, h2.mono w.frzS, fun f hf => ?_⟩
    rcases List.mem_cons.mp hf with rfl | hf
    · exact .obj upd_same (b.mono w.frzS)
    · exact (hF f hf).mono w.frzS
-- subscripts
theorem n_ixT (w : Wf F H M) (h : Rk F M v (.tup ds)) (hd : atI ds i = some d) (q : ∀ u, Wf ((u, d) :: F) H M → Q u H) : rIx K v (.int i) H Q := by
  obtain ⟨I, Mc, w, a, hF⟩ := w.ex
  obtain ⟨p, vs, rfl, hp, b⟩ := h.tup w a hF
  obtain ⟨u, e, hu⟩ := atI_isa b hd
  exact .inr (.inl ⟨p, vs, i, u, rfl, rfl, .inl (.inl hp), e, q u ⟨I, Mc, w, a, fun f hf => by
    rcases List.mem_cons.mp hf with rfl | hf
    · exact hu
    · exact hF f hf⟩⟩)
theorem n_ixL (w : Wf F H M) (h : Rk F M v (.lst ds)) (hd : atI ds i = some d) (q : ∀ u, Wf ((u, d) :: F) H M → Q u H) : rIx K v (.int i) H Q := by
  obtain ⟨I, Mc, w, a, hF⟩ := w.ex
  obtain ⟨p, vs, rfl, hp, b⟩ := h.lst w a hF
  obtain ⟨u, e, hu⟩ := atI_isa b hd
  exact .inl ⟨p, vs, i, u, rfl, rfl, .inl (.inl hp), e, q u ⟨I, Mc, w, a, fun f hf => by
    rcases List.mem_cons.mp hf with rfl | hf
    · exact hu
    · exact hF f hf⟩⟩
theorem n_ixTi {n : Int} (w : Wf F H M) (h : Rk F M v (.tup ds)) (hd : atI ds i = some (.int n)) (q : Q (.int n) H) : rIx K v (.int i) H Q := n_ixT w h hd fun u w => by rw [w.eq0.1]; exact q
theorem n_ixLi {n : Int} (w : Wf F H M) (h : Rk F M v (.lst ds)) (hd : atI ds i = some (.int n)) (q : Q (.int n) H) : rIx K v (.int i) H Q := n_ixL w h hd fun u w => by rw [w.eq0.1]; exact q
theorem n_ixTn (w : Wf F H M) (h : Rk F M v (.tup ds)) (hd : atI ds i = some .non) (q : Q .non H) : rIx K v (.int i) H Q := n_ixT w h hd fun u w => by
  obtain ⟨I, Mc, w, a, hF⟩ := w.ex
  cases (hF (u, .non) List.mem_cons_self : Is I u .non).non_eq
  exact q
theorem n_ixLLi {n : Int} (w : Wf F H M) (h : Rk F M v (.lst ds)) (hd : atI ds i = some (.int n)) (q : Q (.int n) H) : rIxL K v (.int i) H Q := by
  obtain ⟨I, Mc, w, a, hF⟩ := w.ex
  obtain ⟨p, vs, rfl, hp, b⟩ := h.lst w a hF
  obtain ⟨u, e, hu⟩ := atI_isa b hd
  cases hu.int_eq
  exact ⟨p, vs, i, _, rfl, rfl, .inl (.inl hp), e, q⟩
/-- an item at an open place -/
theorem n_ixAny (w : Wf F H M) (h : Rk F M v (.lst ds)) (h0 : 0 ≤ i) (h1 : i < ds.length) (q : ∀ d u, ds[i.toNat]? = some d → Wf ((u, d) :: F) H M → Q u H) : rIx K v (.int i) H Q := by
  have h2 : i.toNat < ds.length := by omega
  have e : (i.toNat : Int) = i := by omega
  have z := atI_nat (List.getElem?_eq_getElem h2)
  rw [e] at z
  exact n_ixL w h z fun u w' => q _ u (List.getElem?_eq_getElem h2) w'
theorem n_ixAnyT (w : Wf F H M) (h : Rk F M v (.tup ds)) (h0 : 0 ≤ i) (h1 : i < ds.length) (q : ∀ d u, ds[i.toNat]? = some d → Wf ((u, d) :: F) H M → Q u H) : rIx K v (.int i) H Q := by
  have h2 : i.toNat < ds.length := by omega
  have e : (i.toNat : Int) = i := by omega
  have z := atI_nat (List.getElem?_eq_getElem h2)
  rw [e] at z
  exact n_ixT w h z fun u w' => q _ u (List.getElem?_eq_getElem h2) w'
/-- an item of a list of ints at an open place -/
theorem n_ixInts {ns : List Int} (w : Wf F H M) (h : Rk F M v (.lst (ns.map D.int))) (h0 : 0 ≤ i) (h1 : i < ns.length) (q : ∀ n, ns[i.toNat]? = some n → Q (.int n) H) : rIx K v (.int i) H Q :=
  n_ixAny w h h0 (by rw [List.length_map]; exact h1) fun d u hd w => by
    rw [List.getElem?_map] at hd
    cases e : ns[i.toNat]? with
    | none => rw [e] at hd; cases hd
    | some n =>
      rw [e] at hd
      cases hd
      rw [w.eq0.1]
      exact q n e
-- len
theorem n_lenL (w : Wf F H M) (h : Rk F M v (.lst ds)) (q : Q (.int ds.length) H) : rLenU K [v] H Q := by
  obtain ⟨I, Mc, w, a, hF⟩ := w.ex
  obtain ⟨p, vs, rfl, hp, b⟩ := h.lst w a hF
  exact .inl ⟨p, vs, rfl, .inl (.inl (.inl hp)), by rw [b.length]; exact q⟩
theorem n_lenT (w : Wf F H M) (h : Rk F M v (.tup ds)) (q : Q (.int ds.length) H) : rLenU K [v] H Q := by
  obtain ⟨I, Mc, w, a, hF⟩ := w.ex
  obtain ⟨p, vs, rfl, hp, b⟩ := h.tup w a hF
  exact .inl ⟨p, vs, rfl, .inr (.inl (.inl hp)), by rw [b.length]; exact q⟩
-- new things
theorem n_newT (w : Wf F H M) (a : KnA F xs ds) (hz : xs.length ≤ 1000) (q : ∀ p H', Wf ((.ref p, .tup ds) :: F) H' M → Q (.ref p) H') : NewT Q xs H := by
  obtain ⟨I, Mc, w, ac, hF⟩ := w.ex
  refine s_newT w (a.is hF) hz fun p J H' s _ w' h' => q p H' ⟨J, Mc, w', ac.mono s, fun f hf => ?_⟩
  rcases List.mem_cons.mp hf with rfl | hf
  · exact h'
  · exact (hF f hf).mono s
theorem n_newL (w : Wf F H M) (a : KnA F xs ds) (hz : xs.length ≤ 1000) (q : ∀ p H', Wf F H' (.ml p ds :: M) → Q (.ref p) H') : NewL Q xs H := by
  obtain ⟨I, Mc, w, ac, hF⟩ := w.ex
  exact s_newM w hz fun p H' w' => q p H' ⟨I, _, w', .cons (.ml (a.is hF)) ac, hF⟩
theorem n_newNil (w : Wf F H M) (q : ∀ p H', Wf F H' (.ml p [] :: M) → Q (.ref p) H') : NewL Q [] H := n_newL w .nil (by simp) q
-- unpacking
theorem n_gtup {n : Nat} {gs : TGs} {T : L2.St → Hp → Prop} (w : Wf F H M) (h : Rk F M v (.tup ds)) (hn : ds.length = n) (q : ∀ I Mc xs, W I H Mc → CnA I M Mc → (∀ f ∈ F, Is I f.1 f.2) → IsA I xs ds → gs xs σ H T) : gTup K n gs v σ H T := by
  obtain ⟨I, Mc, w, a, hF⟩ := w.ex
  obtain ⟨p, vs, rfl, hp, b⟩ := h.tup w a hF
  exact ⟨p, vs, rfl, .inl (.inl hp), by rw [b.length]; exact hn, q I Mc vs w a hF b⟩
theorem n_gtup2 {gs : TGs} {T : L2.St → Hp → Prop} {d0 d1 : D} (w : Wf F H M) (h : Rk F M v (.tup [d0, d1])) (q : ∀ x y, Wf ((x, d0) :: (y, d1) :: F) H M → gs [x, y] σ H T) : gTup K 2 gs v σ H T :=
  n_gtup w h rfl fun I Mc xs w a hF b => by
    cases b with | cons h0 b =>
    cases b with | cons h1 b =>
    cases b
    refine q _ _ ⟨I, Mc, w, a, fun f hf => ?_⟩
    rcases List.mem_cons.mp hf with rfl | hf
    · exact h0
    rcases List.mem_cons.mp hf with rfl | hf
    · exact h1
    · exact hF f hf
theorem n_gtup3 {gs : TGs} {T : L2.St → Hp → Prop} {d0 d1 d2 : D} (w : Wf F H M) (h : Rk F M v (.tup [d0, d1, d2])) (q : ∀ x y z, Wf ((x, d0) :: (y, d1) :: (z, d2) :: F) H M → gs [x, y, z] σ H T) : gTup K 3 gs v σ H T :=
  n_gtup w h rfl fun I Mc xs w a hF b => by
    cases b with | cons h0 b =>
    cases b with | cons h1 b =>
    cases b with | cons h2 b =>
    cases b
    refine q _ _ _ ⟨I, Mc, w, a, fun f hf => ?_⟩
    rcases List.mem_cons.mp hf with rfl | hf
    · exact h0
    rcases List.mem_cons.mp hf with rfl | hf
    · exact h1
    rcases List.mem_cons.mp hf with rfl | hf
    · exact h2
    · exact hF f hf
theorem n_gtup4 {gs : TGs} {T : L2.St → Hp → Prop} {d0 d1 d2 d3 : D} (w : Wf F H M) (h : Rk F M v (.tup [d0, d1, d2, d3])) (q : ∀ x y z u, Wf ((x, d0) :: (y, d1) :: (z, d2) :: (u, d3) :: F) H M → gs [x, y, z, u] σ H T) : gTup K 4 gs v σ H T :=
  n_gtup w h rfl fun I Mc xs w a hF b => by
    cases b with | cons h0 b =>
    cases b with | cons h1 b =>
    cases b with | cons h2 b =>
    cases b with | cons h3 b =>
    cases b
    refine q _ _ _ _ ⟨I, Mc, w, a, fun f hf => ?_⟩
    rcases List.mem_cons.mp hf with rfl | hf
    · exact h0
    rcases List.mem_cons.mp hf with rfl | hf
    · exact h1
    rcases List.mem_cons.mp hf with rfl | hf
    · exact h2
    rcases List.mem_cons.mp hf with rfl | hf
    · exact h3
    · exact hF f hf
/-- two ints -/
theorem n_gtupII {gs : TGs} {T : L2.St → Hp → Prop} {m n : Int} (w : Wf F H M) (h : Rk F M v (.tup [.int m, .int n])) (q : gs [.int m, .int n] σ H T) : gTup K 2 gs v σ H T :=
  n_gtup2 w h fun x y w => by
    rw [w.eq0.1, w.eq0.2.eq0.1]
    exact q
theorem n_gtupIII {gs : TGs} {T : L2.St → Hp → Prop} {m n o : Int} (w : Wf F H M) (h : Rk F M v (.tup [.int m, .int n, .int o])) (q : gs [.int m, .int n, .int o] σ H T) : gTup K 3 gs v σ H T :=
  n_gtup3 w h fun x y z w => by
    rw [w.eq0.1, w.eq0.2.eq0.1, w.eq0.2.eq0.2.eq0.1]
    exact q
-- lists that may be changed
theorem n_tyL {A : Prop} (w : Wf F H M) (h : .ml p ds ∈ M) (a : A) : tyV K "list" (.ref p) H ∧ A := by
  obtain ⟨vs, h1, _⟩ := w.lstAt h
  exact s_tyL h1 a
theorem n_app (w : Wf F H M) (f : Foc M (.ml p ds) M' (.ml p (ds ++ [d]))) (h : Kn F x d) (hz : ds.length ≤ 100000) (q : ∀ H', Wf F H' M' → Q .non H') : rAppend (.ref p) [x] H Q := by
  obtain ⟨vs, h1, hl⟩ := w.lstAt f.mem
  obtain ⟨I, Mc, w, a, hF⟩ := w.ex
  obtain ⟨M1, m, M2, rfl, h3, h4⟩ := a.foc f
  cases h3 with
  | ml b =>
    exact s_app w.at (by rw [b.length]; exact hz) (q _ ⟨I, _, w.put, h4 I _ (Same.refl _) (.ml (b.app (.one (h.is hF)))), hF⟩)
theorem n_clear (w : Wf F H M) (f : Foc M (.ml p ds) M' (.ml p [])) (q : ∀ H', Wf F H' M' → Q .non H') : rClear (.ref p) [] H Q := by
  obtain ⟨vs, h1, hl⟩ := w.lstAt f.mem
  exact s_clear h1 (q _ (w.put f fun I m _ h => by cases h; exact ⟨rfl, .ml .nil⟩))
theorem IsA.set {I : Hp} (h : Is I v d) : ∀ {vs : List V} {ds : List D} (j : Nat), IsA I vs ds → IsA I (vs.set j v) (ds.set j d)
  | _, _, _, .nil => .nil
  | _, _, 0, .cons _ a => .cons h a
  | _, _, j + 1, .cons h' a => .cons h' (IsA.set h j a)
theorem n_set {T : Hp → Prop} {k : Int} {j : Nat} (w : Wf F H M) (f : Foc M (.ml p ds) M' (.ml p (ds.set j d))) (h : Kn F v d) (hj : ixN ds.length k = some j) (q : ∀ H', Wf F H' M' → T H') : rSetL (.ref p) (.int k) v H T := by
  obtain ⟨I, Mc, w, a, hF⟩ := w.ex
  obtain ⟨M1, m, M2, rfl, h3, h4⟩ := a.foc f
  cases h3 with
  | ml b => exact s_setL w.at (by rw [b.length]; exact hj) (q _ ⟨I, _, w.put, h4 I _ (Same.refl _) (.ml (IsA.set (h.is hF) j b)), hF⟩)
-- list(..), slices, +, reversed copies
theorem n_list (w : Wf F H M) (h : Rk F M x (.lst ds)) (q : ∀ p H', Wf F H' (.ml p ds :: M) → Q (.ref p) H') : rListOf K [x] H Q := by
  obtain ⟨I, Mc, w, a, hF⟩ := w.ex
  obtain ⟨p, vs, rfl, hp, b⟩ := h.lst w a hF
  exact ⟨p, vs, rfl, .inl (.inl (.inl hp)), fun l hl => q l _ ⟨I, _, w.newM hl, .cons (.ml b) a, hF⟩⟩
theorem n_listT (w : Wf F H M) (h : Rk F M x (.tup ds)) (q : ∀ p H', Wf F H' (.ml p ds :: M) → Q (.ref p) H') : rListOf K [x] H Q := by
  obtain ⟨I, Mc, w, a, hF⟩ := w.ex
  obtain ⟨p, vs, rfl, hp, b⟩ := h.tup w a hF
  exact ⟨p, vs, rfl, .inr (.inl (.inl hp)), fun l hl => q l _ ⟨I, _, w.newM hl, .cons (.ml b) a, hF⟩⟩
theorem n_sl {lo hi : Option Int} (w : Wf F H M) (h : Rk F M x (.lst ds)) (q : ∀ p H', Wf F H' (.ml p (cutD ds lo hi) :: M) → Q (.ref p) H') : rSlL K x lo hi H Q := by
  obtain ⟨I, Mc, w, a, hF⟩ := w.ex
  obtain ⟨p, vs, rfl, hp, b⟩ := h.lst w a hF
  exact ⟨p, vs, rfl, .inl (.inl hp), fun l hl => q l _ ⟨I, _, w.newM hl, .cons (.ml (b.cut lo hi)) a, hF⟩⟩
theorem n_cat (w : Wf F H M) (hx : Rk F M x (.lst ds)) (hy : Rk F M y (.lst es)) (hz : ds.length + es.length ≤ 100000) (q : ∀ p H', Wf F H' (.ml p (ds ++ es) :: M) → Q (.ref p) H') : rAddU K x y H Q := by
  obtain ⟨I, Mc, w, a, hF⟩ := w.ex
  obtain ⟨p1, vs, rfl, h1, a1⟩ := hx.lst w a hF
  obtain ⟨p2, us, rfl, h2, a2⟩ := hy.lst w a hF
  exact .inr (.inr (.inl ⟨p1, p2, vs, us, rfl, rfl, h1, h2, by rw [a1.length, a2.length]; exact Nat.le_trans hz (by decide), fun p hp => q p _ ⟨I, _, w.newM hp, .cons (.ml (a1.app a2)) a, hF⟩⟩))
theorem n_rev (w : Wf F H M) (h : Rk F M v (.lst ds)) (q : ∀ p H', Wf F H' (.ml p ds.reverse :: M) → Q (.ref p) H') : RevQ K Q v H := by
  obtain ⟨I, Mc, w, a, hF⟩ := w.ex
  obtain ⟨p, vs, rfl, hp, b⟩ := h.lst w a hF
  exact ⟨p, vs, rfl, .inl (.inl hp), fun l hl => q l _ ⟨I, _, w.newM hl, .cons (.ml b.rev) a, hF⟩⟩
-- == of data
theorem NB.dpH {k : Nat} (n : NB k d) : ∀ {v : V}, Is H v d → Dp K H v d.pd := fun {v} h => NB.dp (I := H) (M := []) ⟨fun _ _ e => e, fun _ h => (nomatch h), List.nodup_nil⟩ n h
theorem Wf.rd (w : Wf F H M) (h : Rk F M v d) : Is H v d := by
  obtain ⟨I, Mc, w, a, hF⟩ := w.ex
  exact h.rd w a hF
theorem n_eq {b : Bool} {j k : Nat} (w : Wf F H M) (hx : Rk F M x d) (hy : Rk F M y e) (n : NB k d) (m : NB j e) (hk : k ≤ 64) (hj : j ≤ 64) (hb : b = true ↔ d = e) (q : Q (.bl b) H) : rEqU K x y H Q :=
  .inr ⟨d.pd, e.pd, n.dpH (w.rd hx), m.dpH (w.rd hy), n.shaped hk, m.shaped hj, by
    have h1 := n.eqv m
    have h2 : PyData.eqv d.pd e.pd = b := by rw [Bool.eq_iff_iff, h1, hb]
    rw [h2]; exact q⟩
theorem n_ne {b : Bool} {j k : Nat} (w : Wf F H M) (hx : Rk F M x d) (hy : Rk F M y e) (n : NB k d) (m : NB j e) (hk : k ≤ 64) (hj : j ≤ 64) (hb : b = true ↔ d = e) (q : Q (.bl (!b)) H) : rNeU K x y H Q :=
  .inr ⟨d.pd, e.pd, n.dpH (w.rd hx), m.dpH (w.rd hy), n.shaped hk, m.shaped hj, by
    have h1 := n.eqv m
    have h2 : PyData.eqv d.pd e.pd = b := by rw [Bool.eq_iff_iff, h1, hb]
    rw [h2]; exact q⟩
theorem n_eqT (w : Wf F H M) (hx : Rk F M x d) (hy : Rk F M y d) (n : NB 60 d) (q : Q (.bl true) H) : rEqU K x y H Q := n_eq w hx hy n n (by decide) (by decide) (b := true) (by simp) q
theorem n_neT (w : Wf F H M) (hx : Rk F M x d) (hy : Rk F M y d) (n : NB 60 d) (q : Q (.bl false) H) : rNeU K x y H Q := n_ne w hx hy n n (by decide) (by decide) (b := true) (by simp) q
-- isinstance
theorem isi_base {a b : String} {k : Bool} (h : Is H v d) (e : d.tn = some a) (hb : kitB a b = some k) (q : Q (.bl k) H) : rIsiU K [v, .ty b] H Q := s_isi (I := H) (M := []) ⟨fun _ _ e => e, fun _ h => (nomatch h), List.nodup_nil⟩ h e hb q
theorem n_isi {a b : String} {k : Bool} (w : Wf F H M) (h : Rk F M v d) (e : d.tn = some a) (hb : kitB a b = some k) (q : Q (.bl k) H) : rIsiU K [v, .ty b] H Q := isi_base (w.rd h) e hb q
theorem W.self : W H H [] := ⟨fun _ _ e => e, fun _ h => (nomatch h), List.nodup_nil⟩
theorem n_isiO {b : String} {k : Bool} (o : OwnC K C) (w : Wf F H M) (h : Rk F M v (.obj C fs)) (hb : PySem.W.kitOne K (.ref C) (.type b) = some k) (q : Q (.bl k) H) : rIsiU K [v, .ty b] H Q := s_isiO o W.self (w.rd h) hb q
theorem n_isiC {a : String} {k : Bool} (w : Wf F H M) (h : Rk F M v d) (e : d.tn = some a) (hb : PySem.W.kitOne K (.type a) (.ref C) = some k) (q : Q (.bl k) H) : rIsiU K [v, .ref C] H Q := s_isiC W.self (w.rd h) e hb q
theorem n_isiOC {C' : Addr} {k : Bool} (o : OwnC K C) (w : Wf F H M) (h : Rk F M v (.obj C fs)) (hb : PySem.W.kitOne K (.ref C) (.ref C') = some k) (q : Q (.bl k) H) : rIsiU K [v, .ref C'] H Q := s_isiOC o W.self (w.rd h) hb q
-- objects
theorem n_fld (w : Wf F H M) (h : Rk F M v (.obj C fs)) (hc : Cls K C) (hn : ∀ f ∈ L, NoAttr K C f) (hf : f ∈ L) (hd : fs.lookup f = some d) (q : ∀ u, Wf ((u, d) :: F) H M → Q u H) : FldQ K f Q v H := by
  obtain ⟨I, Mc, w, a, hF⟩ := w.ex
  obtain ⟨p, dx, vs, rfl, hp, b⟩ := h.obj w a hF
  obtain ⟨u, e, hu⟩ := b.get hd
  exact ⟨p, C, dx, vs, u, rfl, hp, hc, hn f hf, e, q u ⟨I, Mc, w, a, fun f hf => by
    rcases List.mem_cons.mp hf with rfl | hf
    · exact hu
    · exact hF f hf⟩⟩
theorem n_fldi {n : Int} (w : Wf F H M) (h : Rk F M v (.obj C fs)) (hc : Cls K C) (hn : ∀ f ∈ L, NoAttr K C f) (hf : f ∈ L) (hd : fs.lookup f = some (.int n)) (q : Q (.int n) H) : FldQ K f Q v H := n_fld w h hc hn hf hd fun u w => by rw [w.eq0.1]; exact q
theorem n_fldn (w : Wf F H M) (h : Rk F M v (.obj C fs)) (hc : Cls K C) (hn : ∀ f ∈ L, NoAttr K C f) (hf : f ∈ L) (hd : fs.lookup f = some .non) (q : Q .non H) : FldQ K f Q v H := n_fld w h hc hn hf hd fun u w => by
  obtain ⟨I, Mc, w, a, hF⟩ := w.ex
  cases (hF (u, .non) List.mem_cons_self : Is I u .non).non_eq
  exact q
theorem n_meth {A : Prop} (w : Wf F H M) (h : Rk F M v (.obj C fs)) (hm : m ∉ fs.map (·.1)) (q : A) : MethQ C m v H A := s_methAt W.self (w.rd h) hm q
theorem n_make (w : Wf F H M) (q : ∀ x H', Wf F H' (.mi x C [] :: M) → sp (.ref x :: vs) H' (fun v H2 => v = .non ∧ Q (.ref x) H2) E) : MakeQ C sp E Q vs H := by
  obtain ⟨I, Mc, w, a, hF⟩ := w.ex
  exact s_makeW w fun x dx H' _ w' => q x H' ⟨I, _, w', .cons (.mi .nil) a, hF⟩
def putD (f : Str) (d : D) : List (Str × D) → List (Str × D)
  | [] => [(f, d)]
  | (g, x) :: r => if g = f then (g, d) :: r else (g, x) :: putD f d r
theorem IsF.put {I : Hp} (h : Is I v d) : ∀ {vs : List (Str × V)} {fs : List (Str × D)}, IsF I vs fs → IsF I (putF f v vs) (putD f d fs)
  | _, _, .nil => .cons h .nil
  | _, _, .cons (f := g) h' a => by
    unfold putF putD
    by_cases e : g = f
    · rw [if_pos e, if_pos e]; exact .cons h a
    · rw [if_neg e, if_neg e]; exact .cons h' (IsF.put h a)
theorem IsF.length {I : Hp} : ∀ {vs : List (Str × V)} {fs : List (Str × D)}, IsF I vs fs → vs.length = fs.length
  | _, _, .nil => rfl
  | _, _, .cons _ a => by rw [List.length_cons, List.length_cons, a.length]
theorem n_sf (w : Wf F H M) (fo : Foc M (.mi p C fs) M' (.mi p C (putD f d fs))) (h : Kn F y d) (hc : Cls K C) (hn : ∀ f ∈ L, NoAttr K C f) (hf : f ∈ L) (hg : fs.length < 1000) (q : ∀ H', Wf F H' M' → G.nx σ H') : SfQ K f G σ (.ref p) y H := by
  obtain ⟨I, Mc, w, a, hF⟩ := w.ex
  obtain ⟨M1, m, M2, rfl, h3, h4⟩ := a.foc fo
  cases h3 with
  | mi b =>
    exact ⟨p, C, _, _, rfl, w.at, hc, hn f hf, by rw [b.length]; exact hg, q _ ⟨I, _, w.put, h4 I _ (Same.refl _) (.mi (b.put (h.is hF))), hF⟩⟩
end

/-! ### loops -/
section
variable {K : PySem.W.Frag} {σ : L2.St} {H : Hp} {F : List (V × D)} {M M' : List ME} {Q : VK} {G : Ends} {v : V} {ds : List D} {g : TG} {tb : TS} {te : TE} {tt : TT} {c : TT}
/-- the heap of a loop -/
def LI (R : L2.St → List (V × D) → List ME → Prop) (σ : L2.St) (H : Hp) : Prop := ∃ F M, R σ F M ∧ Wf F H M
theorem n_forL (w : Wf F H M) (R : Nat → L2.St → List (V × D) → List ME → Prop) (hv : ∀ i σ F M, R i σ F M → Rk F M v (.lst ds)) (h0 : R 0 σ F M)
    (step : ∀ i d x σ H F M, ds[i]? = some d → R i σ F M → Wf ((x, d) :: F) H M → g x σ H fun σ2 H2 => tb { G with nx := LI (R (i + 1)), ct := LI (R (i + 1)), bk := G.nx } σ2 H2)
    (fin : ∀ σ H F M, R ds.length σ F M → Wf F H M → G.nx σ H) :
    ∃ a, v = .ref a ∧ (∃ xs, SqL K H a xs) ∧ ∃ W : Nat → Nat → L2.St → Hp → Prop, (∃ m, W 0 m σ H) ∧ ∀ i m σ H, W i m σ H →
      ((Itl K a).stop i H ∧ G.nx σ H) ∨ ((Itl K a).go i H ∧ ∃ N : L2.St → Hp → Prop, (∀ σ' H', N σ' H' → ∃ m', m' < m ∧ W (i + 1) m' σ' H') ∧ ∀ x H', (Itl K a).yld i H x H' → g x σ H' fun σ2 H2 => tb { G with nx := N, ct := N, bk := G.nx } σ2 H2) := by
  have e0 : ∃ a, v = .ref a ∧ ∃ xs, SqL K H a xs := by
    obtain ⟨I, Mc, w, a, hF⟩ := w.ex
    obtain ⟨p, vs, rfl, hp, b⟩ := (hv _ _ _ _ h0).lst w a hF
    exact ⟨p, rfl, vs, .inl (.inl hp)⟩
  obtain ⟨a, rfl, hx⟩ := e0
  refine ⟨a, rfl, hx, fun i m σ H => m = ds.length - i ∧ i ≤ ds.length ∧ LI (R i) σ H, ⟨ds.length, rfl, Nat.zero_le _, F, M, h0, w⟩, ?_⟩
  rintro i m σ H ⟨rfl, hi, F, M, hR, w⟩
  obtain ⟨I, Mc, w1, ac, hF⟩ := w.ex
  obtain ⟨p, vs, e, hp, b⟩ := (hv _ _ _ _ hR).lst w1 ac hF
  cases e
  have hs : SqL K H a vs := .inl (.inl hp)
  by_cases hlt : i < ds.length
  · have hl : i < vs.length := by rw [b.length]; exact hlt
    refine .inr ⟨⟨vs, vs[i], hs, List.getElem?_eq_getElem hl⟩, LI (R (i + 1)), fun σ' H' z => ⟨ds.length - (i + 1), by omega, rfl, hlt, z⟩, fun x H' y => ?_⟩
    obtain ⟨rfl, y⟩ := y
    obtain ⟨d, e1, e2⟩ := b.of (y vs hs)
    refine step i d x σ _ F M e1 hR ⟨I, Mc, w1, ac, fun f hf => ?_⟩
    rcases List.mem_cons.mp hf with rfl | hf
    · exact e2
    · exact hF f hf
  · have e : i = ds.length := by omega
    subst e
    exact .inl ⟨⟨vs, hs, by rw [b.length]; exact Nat.le_refl _⟩, fin σ H F M hR w⟩
theorem n_forT (w : Wf F H M) (R : Nat → L2.St → List (V × D) → List ME → Prop) (hv : ∀ i σ F M, R i σ F M → Rk F M v (.tup ds)) (h0 : R 0 σ F M)
    (step : ∀ i d x σ H F M, ds[i]? = some d → R i σ F M → Wf ((x, d) :: F) H M → g x σ H fun σ2 H2 => tb { G with nx := LI (R (i + 1)), ct := LI (R (i + 1)), bk := G.nx } σ2 H2)
    (fin : ∀ σ H F M, R ds.length σ F M → Wf F H M → G.nx σ H) :
    ∃ a, v = .ref a ∧ (∃ xs, SqT K H a xs) ∧ ∃ W : Nat → Nat → L2.St → Hp → Prop, (∃ m, W 0 m σ H) ∧ ∀ i m σ H, W i m σ H →
      ((Itt K a).stop i H ∧ G.nx σ H) ∨ ((Itt K a).go i H ∧ ∃ N : L2.St → Hp → Prop, (∀ σ' H', N σ' H' → ∃ m', m' < m ∧ W (i + 1) m' σ' H') ∧ ∀ x H', (Itt K a).yld i H x H' → g x σ H' fun σ2 H2 => tb { G with nx := N, ct := N, bk := G.nx } σ2 H2) := by
  have e0 : ∃ a, v = .ref a ∧ ∃ xs, SqT K H a xs := by
    obtain ⟨I, Mc, w, a, hF⟩ := w.ex
    obtain ⟨p, vs, rfl, hp, b⟩ := (hv _ _ _ _ h0).tup w a hF
    exact ⟨p, rfl, vs, .inl (.inl hp)⟩
  obtain ⟨a, rfl, hx⟩ := e0
  refine ⟨a, rfl, hx, fun i m σ H => m = ds.length - i ∧ i ≤ ds.length ∧ LI (R i) σ H, ⟨ds.length, rfl, Nat.zero_le _, F, M, h0, w⟩, ?_⟩
  rintro i m σ H ⟨rfl, hi, F, M, hR, w⟩
  obtain ⟨I, Mc, w1, ac, hF⟩ := w.ex
  obtain ⟨p, vs, e, hp, b⟩ := (hv _ _ _ _ hR).tup w1 ac hF
  cases e
  have hs : SqT K H a vs := .inl (.inl hp)
  by_cases hlt : i < ds.length
  · have hl : i < vs.length := by rw [b.length]; exact hlt
    refine .inr ⟨⟨vs, vs[i], hs, List.getElem?_eq_getElem hl⟩, LI (R (i + 1)), fun σ' H' z => ⟨ds.length - (i + 1), by omega, rfl, hlt, z⟩, fun x H' y => ?_⟩
    obtain ⟨rfl, y⟩ := y
    obtain ⟨d, e1, e2⟩ := b.of (y vs hs)
    refine step i d x σ _ F M e1 hR ⟨I, Mc, w1, ac, fun f hf => ?_⟩
    rcases List.mem_cons.mp hf with rfl | hf
    · exact e2
    · exact hF f hf
  · have e : i = ds.length := by omega
    subst e
    exact .inl ⟨⟨vs, hs, by rw [b.length]; exact Nat.le_refl _⟩, fin σ H F M hR w⟩
theorem n_forR {lo : Int} {n : Nat} (w : Wf F H M) (R : Nat → L2.St → List (V × D) → List ME → Prop) (h0 : R 0 σ F M)
    (step : ∀ i σ H F M, i < n → R i σ F M → Wf F H M → g (.int (lo + i)) σ H fun σ2 H2 => tb { G with nx := LI (R (i + 1)), ct := LI (R (i + 1)), bk := G.nx } σ2 H2)
    (fin : ∀ σ H F M, R n σ F M → Wf F H M → G.nx σ H) :
    ∃ W : Nat → Nat → L2.St → Hp → Prop, (∃ m, W 0 m σ H) ∧ ∀ i m σ H, W i m σ H →
      ((Itr lo n).stop i H ∧ G.nx σ H) ∨ ((Itr lo n).go i H ∧ ∃ N : L2.St → Hp → Prop, (∀ σ' H', N σ' H' → ∃ m', m' < m ∧ W (i + 1) m' σ' H') ∧ ∀ x H', (Itr lo n).yld i H x H' → g x σ H' fun σ2 H2 => tb { G with nx := N, ct := N, bk := G.nx } σ2 H2) :=
  for_range (fun i => LI (R i)) ⟨F, M, h0, w⟩ (fun i σ H hi ⟨F, M, hR, w⟩ => step i σ H F M hi hR w) fun σ H ⟨F, M, hR, w⟩ => fin σ H F M hR w
/-- while, by a measure of the slots -/
theorem n_while (w : Wf F H M) (R : L2.St → List (V × D) → List ME → Prop) (μ : L2.St → Nat) (h0 : R σ F M)
    (step : ∀ σ H F M, R σ F M → Wf F H M → c σ H fun b H1 => if b = true then ∃ N : L2.St → Hp → Prop, (∀ σ' H', N σ' H' → ∃ m', m' < μ σ ∧ m' = μ σ' ∧ LI R σ' H') ∧ tb { G with nx := N, ct := N, bk := G.nx } σ H1 else G.nx σ H1) : tWhile c tb G σ H :=
  s_while (LI R) μ ⟨F, M, h0, w⟩ fun σ H ⟨F, M, hR, w⟩ => step σ H F M hR w
theorem n_wN {R : L2.St → List (V × D) → List ME → Prop} {μ : L2.St → Nat} {m : Nat} {σ1 : L2.St} (h : tb { G with nx := fun σ' H' => LI R σ' H' ∧ μ σ' < m, ct := fun σ' H' => LI R σ' H' ∧ μ σ' < m, bk := G.nx } σ1 H) :
    ∃ N : L2.St → Hp → Prop, (∀ σ' H', N σ' H' → ∃ m', m' < m ∧ m' = μ σ' ∧ LI R σ' H') ∧ tb { G with nx := N, ct := N, bk := G.nx } σ1 H :=
  ⟨_, fun _ _ h => ⟨_, h.2, rfl, h.1⟩, h⟩
/-- comprehensions: what the i-th turn gives is told by P -/
theorem n_lc {J : It} {n : Nat} {Gd : Hp → Prop} {Y : Nat → Hp → V → Hp → Prop} {xs : List Nat} {k : Nat} (wk : Walk J n Gd Y) (w : Wf F H M) (hG : ∀ H' D acc, Wf F H' (.ml D acc :: M) → Gd H') (P : Nat → D → Prop) (hn : n ≤ 100000)
    (hw : ∀ v, wipe ((wipe σ xs).set k (some v)) xs = wipe σ xs)
    (step : ∀ i v D acc H0 H' C, i < n → Wf F H0 (.ml D acc :: M) → Y i H0 v H' → (∀ y d H4, Wf ((y, d) :: F) H4 (.ml D acc :: M) → P i d → C y H4) → te ((wipe σ xs).set k (some v)) H' C)
    (q : ∀ p ds H', ds.length = n → (∀ i d, ds[i]? = some d → P i d) → Wf F H' (.ml p ds :: M) → Q (.ref p) H') : LcGo J (gName k) tYes te xs σ Q H := by
  intro D nD
  have w0 : Wf F (upd H D (.lst [])) (.ml D [] :: M) := by
    obtain ⟨I, Mc, w, a, hF⟩ := w.ex
    exact ⟨I, _, w.newM nD, .cons (.ml .nil) a, hF⟩
  refine lc_it wk (fun i H' => ∃ acc, Wf F H' (.ml D acc :: M) ∧ acc.length = i ∧ ∀ j d, acc[j]? = some d → P j d) ⟨[], w0, rfl, fun j d h => by simp at h⟩ (fun i H' _ ⟨acc, w', _⟩ => hG H' D acc w') ?_ ?_
  · rintro i v H0 H' hi ⟨acc, w', hl, hp⟩ hy
    refine ⟨hw v, ?_⟩
    refine s_yes (iteT (step i v D acc H0 H' _ hi w' hy fun y d H4 w4 hd => ?_))
    obtain ⟨vs, h1, h2⟩ := w4.lstAt List.mem_cons_self
    have w5 : Wf F (upd H4 D (.lst (vs ++ [y]))) (.ml D (acc ++ [d]) :: M) := by
      obtain ⟨I, Mc, w, a, hF⟩ := w4.ex
      cases a with
      | cons h a =>
        cases h with
        | ml b =>
          have := w.at0
          rw [this] at h1
          cases h1
          exact ⟨I, _, w.put0, .cons (.ml (b.app (.one (hF _ List.mem_cons_self)))) a, fun f hf => hF f (List.mem_cons_of_mem _ hf)⟩
    refine ⟨vs, h1, by rw [h2, hl]; exact Nat.lt_of_lt_of_le hi (Nat.le_trans hn (by decide)), acc ++ [d], w5, by rw [List.length_append, hl]; rfl, fun j e h => ?_⟩
    by_cases hj : j < acc.length
    · rw [List.getElem?_append_left hj] at h
      exact hp j e h
    · rw [List.getElem?_append_right (by omega)] at h
      have h3 : j - acc.length = 0 := by
        cases hz : j - acc.length with
        | zero => rfl
        | succ m => rw [hz] at h; simp at h
      rw [h3] at h
      simp at h
      subst h
      have : j = i := by omega
      rw [this]
      exact hd
  · rintro H' ⟨acc, w', hl, hp⟩
    exact q D acc H' hl hp w'
/-- .. over a list -/
theorem n_lcL {xs : List Nat} {k : Nat} (w : Wf F H M) (h : Rk F M v (.lst ds)) (P : Nat → D → Prop) (hn : ds.length ≤ 100000)
    (hw : ∀ v, wipe ((wipe σ xs).set k (some v)) xs = wipe σ xs)
    (step : ∀ i x d D acc H0 C, ds[i]? = some d → Wf ((x, d) :: F) H0 (.ml D acc :: M) → (∀ y d H4, Wf ((y, d) :: F) H4 (.ml D acc :: M) → P i d → C y H4) → te ((wipe σ xs).set k (some x)) H0 C)
    (q : ∀ p es H', es.length = ds.length → (∀ i d, es[i]? = some d → P i d) → Wf F H' (.ml p es :: M) → Q (.ref p) H') :
    ∃ a, v = .ref a ∧ (∃ xs, SqL K H a xs) ∧ LcGo (Itl K a) (gName k) tYes te xs σ Q H := by
  have rk : ∀ D acc, Rk F (.ml D acc :: M) v (.lst ds) := fun D acc => by
    cases h with
    | mem h => exact .mem h
    | ml h => exact .ml (List.mem_cons_of_mem _ h)
  have e0 : ∃ a, v = .ref a ∧ ∃ xs, SqL K H a xs := by
    obtain ⟨I, Mc, w, a, hF⟩ := w.ex
    obtain ⟨p, vs, rfl, hp, b⟩ := h.lst w a hF
    exact ⟨p, rfl, vs, .inl (.inl hp)⟩
  obtain ⟨a, rfl, hx⟩ := e0
  refine ⟨a, rfl, hx, ?_⟩
  have wk : Walk (Itl K a) ds.length (fun H => ∃ D acc, Wf F H (.ml D acc :: M)) (fun i H x H' => H' = H ∧ ∀ xs, SqL K H a xs → xs[i]? = some x) := by
    refine ⟨fun i H hi ⟨D, acc, w⟩ => ?_, fun H ⟨D, acc, w⟩ => ?_, fun i H x H' hi _ y => y⟩
    · obtain ⟨I, Mc, w, ac, hF⟩ := w.ex
      obtain ⟨p, vs, e, hp, b⟩ := (rk D acc).lst w ac hF
      cases e
      have hl : i < vs.length := by rw [b.length]; exact hi
      exact ⟨vs, vs[i], .inl (.inl hp), List.getElem?_eq_getElem hl⟩
    · obtain ⟨I, Mc, w, ac, hF⟩ := w.ex
      obtain ⟨p, vs, e, hp, b⟩ := (rk D acc).lst w ac hF
      cases e
      exact ⟨vs, .inl (.inl hp), by rw [b.length]; exact Nat.le_refl _⟩
  refine n_lc wk w (fun H' D acc w' => ⟨D, acc, w'⟩) P hn hw (fun i x D acc H0 H' C hi w' y k => ?_) q
  obtain ⟨rfl, y⟩ := y
  obtain ⟨I, Mc, w1, ac, hF⟩ := w'.ex
  obtain ⟨p, vs, e, hp, b⟩ := (rk D acc).lst w1 ac hF
  cases e
  obtain ⟨d, e1, e2⟩ := b.of (y vs (.inl (.inl hp)))
  refine step i x d D acc _ C e1 ⟨I, Mc, w1, ac, fun f hf => ?_⟩ k
  rcases List.mem_cons.mp hf with rfl | hf
  · exact e2
  · exact hF f hf
theorem n_lcR {xs : List Nat} {k n : Nat} {lo : Int} (w : Wf F H M) (P : Nat → D → Prop) (hn : n ≤ 100000)
    (hw : ∀ v, wipe ((wipe σ xs).set k (some v)) xs = wipe σ xs)
    (step : ∀ i D acc H0 C, i < n → Wf F H0 (.ml D acc :: M) → (∀ y d H4, Wf ((y, d) :: F) H4 (.ml D acc :: M) → P i d → C y H4) → te ((wipe σ xs).set k (some (.int (lo + i)))) H0 C)
    (q : ∀ p es H', es.length = n → (∀ i d, es[i]? = some d → P i d) → Wf F H' (.ml p es :: M) → Q (.ref p) H') : LcGo (Itr lo n) (gName k) tYes te xs σ Q H :=
  n_lc walk_range w (fun _ _ _ _ => trivial) P hn hw (fun i x D acc H0 H' C hi w' y k => by
    obtain ⟨rfl, rfl⟩ := y
    exact step i D acc _ C hi w' k) q
end
end Fs

namespace Fs
open PySem PySem.Spec PyProof.Rows L2
section
variable {X : Cx} {pos : Pos}
theorem pe_globS {x : Str} {z : Str} (hg : Gl X x) (hm : ∃ t, X.mg x = some (.str z t)) (hd : (x == ("__debug__" : Str)) = false := by decide) : PE X (.Name x pos) (tC (.str z)) := by
  obtain ⟨t, e⟩ := hm
  exact pe_glob hg e ⟨t, rfl⟩ hd
end
section
variable {K : PySem.W.Frag} {σ : L2.St} {H : Hp} {F : List (V × D)} {M M' : List ME} {Q : VK} {G : Ends} {z : Str} {g : TG} {tb : TS} {tk tv : TE}
theorem n_forS (w : Wf F H M) (R : Nat → L2.St → List (V × D) → List ME → Prop) (h0 : R 0 σ F M)
    (step : ∀ i c σ H F M, z.cps.toList[i]? = some c → R i σ F M → Wf F H M → g (.str ⟨#[c]⟩) σ H fun σ2 H2 => tb { G with nx := LI (R (i + 1)), ct := LI (R (i + 1)), bk := G.nx } σ2 H2)
    (fin : ∀ σ H F M, R z.length σ F M → Wf F H M → G.nx σ H) :
    ∃ x, V.str z = .str x ∧ ∃ W : Nat → Nat → L2.St → Hp → Prop, (∃ m, W 0 m σ H) ∧ ∀ i m σ H, W i m σ H →
      ((Its x).stop i H ∧ G.nx σ H) ∨ ((Its x).go i H ∧ ∃ N : L2.St → Hp → Prop, (∀ σ' H', N σ' H' → ∃ m', m' < m ∧ W (i + 1) m' σ' H') ∧ ∀ v H', (Its x).yld i H v H' → g v σ H' fun σ2 H2 => tb { G with nx := N, ct := N, bk := G.nx } σ2 H2) :=
  s_forS (fun i => LI (R i)) ⟨F, M, h0, w⟩ (fun i c σ H hc ⟨F, M, hR, w⟩ => step i c σ H F M hc hR w) fun σ H ⟨F, M, hR, w⟩ => fin σ H F M hR w
/-- a comprehension over a text -/
theorem n_lcS {te : TE} {xs : List Nat} {k : Nat} (w : Wf F H M) (P : Nat → D → Prop) (hn : z.length ≤ 100000)
    (hw : ∀ v, wipe ((wipe σ xs).set k (some v)) xs = wipe σ xs)
    (step : ∀ i c D acc H0 C, z.cps.toList[i]? = some c → Wf F H0 (.ml D acc :: M) → (∀ y d H4, Wf ((y, d) :: F) H4 (.ml D acc :: M) → P i d → C y H4) → te ((wipe σ xs).set k (some (.str ⟨#[c]⟩))) H0 C)
    (q : ∀ p es H', es.length = z.length → (∀ i d, es[i]? = some d → P i d) → Wf F H' (.ml p es :: M) → Q (.ref p) H') :
    ∃ x, V.str z = .str x ∧ LcGo (Its x) (gName k) tYes te xs σ Q H := by
  refine ⟨z, rfl, n_lc walk_str w (fun _ _ _ _ => trivial) P hn hw (fun i x D acc H0 H' C hi w' y k => ?_) q⟩
  obtain ⟨rfl, c, e, rfl⟩ := y
  exact step i c D acc _ C (by rw [Array.getElem?_toList]; exact e) w' k
/-- a displayed dict of one pair -/
def DkQ (Q : VK) (p : Addr) (F : List (V × D)) (M : List ME) (x : V) (H : Hp) : Prop := ∀ H', Wf ((.ref p, .dict) :: F) H' M → Q (.ref p) H'
theorem n_disp1 (w : Wf F H M) (q : ∀ p H', Wf F H' (.raw p (.dK []) :: M) → tk σ H' fun x H1 => tv σ H1 fun y H2 => DispQ Q p x y H2) : tDisp [(tk, tv)] σ H Q := by
  obtain ⟨I, Mc, w, a, hF⟩ := w.ex
  exact s_disp1 w fun p H' _ w' => q p H' ⟨I, _, w', .cons .raw a, hF⟩
theorem n_dispS {n : Str} {p : Addr} {y : V} (w : Wf F H (.raw p (.dK []) :: M)) (q : ∀ H', Wf ((.ref p, .dict) :: F) H' M → Q (.ref p) H') : DispQ Q p (.str n) y H := by
  obtain ⟨I, Mc, w, a, hF⟩ := w.ex
  cases a with
  | cons h a =>
    cases h
    exact s_dispS w fun J H' s w' h' => q H' ⟨J, _, w', a.mono s, fun f hf => by
      rcases List.mem_cons.mp hf with rfl | hf
      · exact h'
      · exact (hF f hf).mono s⟩
theorem n_dispI {n : Int} {p : Addr} {y : V} (w : Wf F H (.raw p (.dK []) :: M)) (q : ∀ H', Wf ((.ref p, .dict) :: F) H' M → Q (.ref p) H') : DispQ Q p (.int n) y H := by
  obtain ⟨I, Mc, w, a, hF⟩ := w.ex
  cases a with
  | cons h a =>
    cases h
    exact s_dispI w fun J H' s w' h' => q H' ⟨J, _, w', a.mono s, fun f hf => by
      rcases List.mem_cons.mp hf with rfl | hf
      · exact h'
      · exact (hF f hf).mono s⟩
/-- a joined list of signs -/
theorem n_join {p : Addr} {ds : List D} {a : Str} (w : Wf F H M) (h : Rk F M (.ref p) (.lst ds)) (hs : ∀ d ∈ ds, ∃ y : Str, d = .str y ∧ y.length ≤ 1) (hl : ds.length ≤ 1000) (ha : a.length ≤ 1) (q : ∀ z : Str, z.length ≤ 2 * ds.length → Q (.str z) H) : rJoin K (.str a) [.ref p] H Q := by
  obtain ⟨I, Mc, w, ac, hF⟩ := w.ex
  obtain ⟨p', vs, e, hp, b⟩ := h.lst w ac hF
  cases e
  have : ∃ ys : List Str, vs = ys.map V.str ∧ ys.length = ds.length ∧ (ys.map (·.length)).sum ≤ ds.length := by
    clear h hp w hl q
    revert vs
    induction ds with
    | nil => intro vs b; cases b; exact ⟨[], rfl, rfl, by simp⟩
    | cons d ds ih =>
      intro vs b
      cases b with
      | cons h1 b =>
        obtain ⟨y, rfl, hy⟩ := hs d List.mem_cons_self
        obtain ⟨ys, rfl, h3, h4⟩ := ih (fun d hd => hs d (List.mem_cons_of_mem _ hd)) _ b
        rw [h1.str_eq]
        exact ⟨y :: ys, rfl, by simp [h3], by simp only [List.map_cons, List.sum_cons, List.length_cons]; omega⟩
  obtain ⟨ys, rfl, h3, h4⟩ := this
  have h5 : ys.length * a.length ≤ ys.length * 1 := Nat.mul_le_mul_left _ ha
  have h6 := StrLaws.join_length_le a ys
  refine ⟨a, p, ys, rfl, rfl, .inl (.inl (.inl hp)), by omega, q _ ?_⟩
  unfold Txt.join
  rw [StrLaws.glued_eq_join]
  omega
end
end Fs

namespace Fs
open PySem PySem.Spec PyProof.Rows L2
/-! ### what is walked, in one form: the i-th item is known by f -/
structure Src (J : It) (n : Nat) (f : Nat → D) (OK : List (V × D) → List ME → Prop) : Prop where
  go : ∀ i H F M, i < n → OK F M → Wf F H M → J.go i H
  stop : ∀ H F M, OK F M → Wf F H M → J.stop n H
  yld : ∀ i H F M x H', i < n → OK F M → Wf F H M → J.yld i H x H' → Wf ((x, f i) :: F) H' M
section
variable {K : PySem.W.Frag} {σ : L2.St} {H : Hp} {F : List (V × D)} {M M' : List ME} {Q : VK} {G : Ends} {v u x y : V} {ds es : List D} {g : TG} {tb : TS} {te : TE} {tt : TT} {a b : Addr} {J : It} {n : Nat} {f : Nat → D} {OK : List (V × D) → List ME → Prop}
theorem Wf.lstE (w : Wf F H M) (h : Rk F M v (.lst ds)) : ∃ I Mc p vs, v = .ref p ∧ W I H Mc ∧ CnA I M Mc ∧ (∀ f ∈ F, Is I f.1 f.2) ∧ H p = some (.lst vs) ∧ IsA I vs ds := by
  obtain ⟨I, Mc, w, ac, hF⟩ := w.ex
  obtain ⟨p, vs, e, hp, b⟩ := h.lst w ac hF
  exact ⟨I, Mc, p, vs, e, w, ac, hF, hp, b⟩
theorem Wf.cons {I : Hp} {Mc : List (Addr × HO)} {v : V} {d : D} (w : W I H Mc) (ac : CnA I M Mc) (hF : ∀ f ∈ F, Is I f.1 f.2) (h : Is I v d) : Wf ((v, d) :: F) H M := ⟨I, Mc, w, ac, fun f hf => by
  rcases List.mem_cons.mp hf with rfl | hf
  · exact h
  · exact hF f hf⟩
theorem getD_of {i : Nat} {d : D} (h : ds[i]? = some d) : ds.getD i .non = d := by rw [List.getD_eq_getElem?_getD, h]; rfl
theorem src_list : Src (Itl K a) ds.length (fun i => ds.getD i .non) (fun F M => Rk F M (.ref a) (.lst ds)) where
  go := fun i H F M hi ok w => by
    obtain ⟨I, Mc, p, vs, e, w, ac, hF, hp, b⟩ := w.lstE ok
    cases e
    have hl : i < vs.length := by rw [b.length]; exact hi
    exact ⟨vs, vs[i], .inl (.inl hp), List.getElem?_eq_getElem hl⟩
  stop := fun H F M ok w => by
    obtain ⟨I, Mc, p, vs, e, w, ac, hF, hp, b⟩ := w.lstE ok
    cases e
    exact ⟨vs, .inl (.inl hp), by rw [b.length]; exact Nat.le_refl _⟩
  yld := fun i H F M x H' hi ok w y => by
    obtain ⟨I, Mc, p, vs, e, w, ac, hF, hp, b⟩ := w.lstE ok
    cases e
    obtain ⟨rfl, y⟩ := y
    obtain ⟨d, e1, e2⟩ := b.of (y vs (.inl (.inl hp)))
    rw [getD_of e1]
    exact .cons w ac hF e2
theorem src_range {lo : Int} : Src (Itr lo n) n (fun i => .int (lo + i)) (fun _ _ => True) where
  go := fun i H F M hi _ _ => hi
  stop := fun H F M _ _ => Nat.le_refl _
  yld := fun i H F M x H' hi _ w y => by
    obtain ⟨rfl, rfl⟩ := y
    exact w.add (.int _)
theorem Wf.newT {p : Addr} {xs : List V} (w : Wf F H M) (hp : H p = none) (h : ∀ I Mc, W I H Mc → CnA I M Mc → (∀ f ∈ F, Is I f.1 f.2) → IsA I xs ds) : Wf ((.ref p, .tup ds) :: F) (upd H p (.tup xs)) M := by
  obtain ⟨I, Mc, w, ac, hF⟩ := w.ex
  exact .cons (w.newI hp) (ac.mono (w.same hp)) (fun f hf => (hF f hf).mono (w.same hp)) (.tup upd_same ((h I Mc w ac hF).mono (w.same hp)))
theorem src_zip : Src (Itz K a b) (min ds.length es.length) (fun i => .tup [ds.getD i .non, es.getD i .non]) (fun F M => Rk F M (.ref a) (.lst ds) ∧ Rk F M (.ref b) (.lst es)) where
  go := fun i H F M hi ok w => by
    obtain ⟨I, Mc, w, ac, hF⟩ := w.ex
    obtain ⟨p, vs, e, hp, b1⟩ := ok.1.lst w ac hF
    cases e
    obtain ⟨p, us, e, hp2, b2⟩ := ok.2.lst w ac hF
    cases e
    have hl : i < vs.length := by rw [b1.length]; omega
    have hl2 : i < us.length := by rw [b2.length]; omega
    exact ⟨vs, us, vs[i], us[i], .inl (.inl hp), .inl (.inl hp2), List.getElem?_eq_getElem hl, List.getElem?_eq_getElem hl2⟩
  stop := fun H F M ok w => by
    obtain ⟨I, Mc, w, ac, hF⟩ := w.ex
    obtain ⟨p, vs, e, hp, b1⟩ := ok.1.lst w ac hF
    cases e
    obtain ⟨p, us, e, hp2, b2⟩ := ok.2.lst w ac hF
    cases e
    exact ⟨vs, us, .inl (.inl hp), .inl (.inl hp2), by rw [b1.length, b2.length]; omega⟩
  yld := fun i H F M x H' hi ok w y => by
    obtain ⟨T, x, y', rfl, hT, rfl, h1, h2⟩ := y
    refine w.newT hT fun I Mc w ac hF => ?_
    obtain ⟨p, vs, e, hp, b1⟩ := ok.1.lst w ac hF
    cases e
    obtain ⟨p, us, e, hp2, b2⟩ := ok.2.lst w ac hF
    cases e
    obtain ⟨d, e1, f1⟩ := b1.of (h1 vs (.inl (.inl hp)))
    obtain ⟨e', e2, f2⟩ := b2.of (h2 us (.inl (.inl hp2)))
    rw [getD_of e1, getD_of e2]
    exact .cons f1 (.cons f2 .nil)
theorem src_enum : Src (Ite K a) ds.length (fun i => .tup [.int (i : Nat), ds.getD i .non]) (fun F M => Rk F M (.ref a) (.lst ds)) where
  go := fun i H F M hi ok w => by
    obtain ⟨I, Mc, p, vs, e, w, ac, hF, hp, b⟩ := w.lstE ok
    cases e
    have hl : i < vs.length := by rw [b.length]; exact hi
    exact ⟨vs, vs[i], .inl (.inl hp), List.getElem?_eq_getElem hl⟩
  stop := fun H F M ok w => by
    obtain ⟨I, Mc, p, vs, e, w, ac, hF, hp, b⟩ := w.lstE ok
    cases e
    exact ⟨vs, .inl (.inl hp), by rw [b.length]; exact Nat.le_refl _⟩
  yld := fun i H F M x H' hi ok w y => by
    obtain ⟨T, x, rfl, hT, rfl, h1⟩ := y
    refine w.newT hT fun I Mc w ac hF => ?_
    obtain ⟨p, vs, e, hp, b1⟩ := ok.lst w ac hF
    cases e
    obtain ⟨d, e1, f1⟩ := b1.of (h1 vs (.inl (.inl hp)))
    rw [getD_of e1]
    exact .cons (.int _) (.cons f1 .nil)
/-- a for over such -/
theorem n_forJ (S : Src J n f OK) (w : Wf F H M) (R : Nat → L2.St → List (V × D) → List ME → Prop) (hv : ∀ i σ F M, R i σ F M → OK F M) (h0 : R 0 σ F M)
    (step : ∀ i x σ H F M, i < n → R i σ F M → Wf ((x, f i) :: F) H M → g x σ H fun σ2 H2 => tb { G with nx := LI (R (i + 1)), ct := LI (R (i + 1)), bk := G.nx } σ2 H2)
    (fin : ∀ σ H F M, R n σ F M → Wf F H M → G.nx σ H) :
    ∃ W : Nat → Nat → L2.St → Hp → Prop, (∃ m, W 0 m σ H) ∧ ∀ i m σ H, W i m σ H →
      (J.stop i H ∧ G.nx σ H) ∨ (J.go i H ∧ ∃ N : L2.St → Hp → Prop, (∀ σ' H', N σ' H' → ∃ m', m' < m ∧ W (i + 1) m' σ' H') ∧ ∀ x H', J.yld i H x H' → g x σ H' fun σ2 H2 => tb { G with nx := N, ct := N, bk := G.nx } σ2 H2) := by
  refine ⟨fun i m σ H => m = n - i ∧ i ≤ n ∧ LI (R i) σ H, ⟨n, rfl, Nat.zero_le _, F, M, h0, w⟩, ?_⟩
  rintro i m σ H ⟨rfl, hi, F, M, hR, w⟩
  by_cases hlt : i < n
  · exact .inr ⟨S.go i H F M hlt (hv _ _ _ _ hR) w, LI (R (i + 1)), fun σ' H' z => ⟨n - (i + 1), by omega, rfl, hlt, z⟩, fun x H' y => step i x σ H' F M hlt hR (S.yld i H F M x H' hlt (hv _ _ _ _ hR) w y)⟩
  · have e : i = n := by omega
    subst e
    exact .inl ⟨S.stop H F M (hv _ _ _ _ hR) w, fin σ H F M hR w⟩
theorem n_zip (w : Wf F H M) (R : Nat → L2.St → List (V × D) → List ME → Prop) (hv : ∀ i σ F M, R i σ F M → Rk F M v (.lst ds) ∧ Rk F M u (.lst es)) (h0 : R 0 σ F M)
    (step : ∀ i d e x σ H F M, ds[i]? = some d → es[i]? = some e → R i σ F M → Wf ((x, .tup [d, e]) :: F) H M → g x σ H fun σ2 H2 => tb { G with nx := LI (R (i + 1)), ct := LI (R (i + 1)), bk := G.nx } σ2 H2)
    (fin : ∀ σ H F M, R (min ds.length es.length) σ F M → Wf F H M → G.nx σ H) :
    ∃ a b xs ys, [v, u] = [V.ref a, .ref b] ∧ SqL K H a xs ∧ SqL K H b ys ∧ ∃ W : Nat → Nat → L2.St → Hp → Prop, (∃ m, W 0 m σ H) ∧ ∀ i m σ H, W i m σ H →
      ((Itz K a b).stop i H ∧ G.nx σ H) ∨ ((Itz K a b).go i H ∧ ∃ N : L2.St → Hp → Prop, (∀ σ' H', N σ' H' → ∃ m', m' < m ∧ W (i + 1) m' σ' H') ∧ ∀ x H', (Itz K a b).yld i H x H' → g x σ H' fun σ2 H2 => tb { G with nx := N, ct := N, bk := G.nx } σ2 H2) := by
  obtain ⟨I, Mc, w1, ac, hF⟩ := w.ex
  obtain ⟨p, vs, rfl, hp, b1⟩ := (hv _ _ _ _ h0).1.lst w1 ac hF
  obtain ⟨q, us, rfl, hq, b2⟩ := (hv _ _ _ _ h0).2.lst w1 ac hF
  refine ⟨p, q, vs, us, rfl, .inl (.inl hp), .inl (.inl hq), n_forJ src_zip w R hv h0 (fun i x σ H F M hi hR w => ?_) fin⟩
  have h1 : i < ds.length := by omega
  have h2 : i < es.length := by omega
  have e1 : ds[i]? = some ds[i] := List.getElem?_eq_getElem h1
  have e2 : es[i]? = some es[i] := List.getElem?_eq_getElem h2
  rw [getD_of e1, getD_of e2] at w
  exact step i _ _ x σ H F M e1 e2 hR w
theorem s_enum {σ : L2.St} {ta : TA} {R : It → Hp → Prop} (h : ta σ H fun vs H1 => ∃ a xs, vs = [.ref a] ∧ SqL K H1 a xs ∧ R (Ite K a) H1) : iEnum K ta σ H R := h
theorem n_enum (w : Wf F H M) (R : Nat → L2.St → List (V × D) → List ME → Prop) (hv : ∀ i σ F M, R i σ F M → Rk F M v (.lst ds)) (h0 : R 0 σ F M)
    (step : ∀ i d x σ H F M, ds[i]? = some d → R i σ F M → Wf ((x, .tup [.int (i : Nat), d]) :: F) H M → g x σ H fun σ2 H2 => tb { G with nx := LI (R (i + 1)), ct := LI (R (i + 1)), bk := G.nx } σ2 H2)
    (fin : ∀ σ H F M, R ds.length σ F M → Wf F H M → G.nx σ H) :
    ∃ a xs, [v] = [V.ref a] ∧ SqL K H a xs ∧ ∃ W : Nat → Nat → L2.St → Hp → Prop, (∃ m, W 0 m σ H) ∧ ∀ i m σ H, W i m σ H →
      ((Ite K a).stop i H ∧ G.nx σ H) ∨ ((Ite K a).go i H ∧ ∃ N : L2.St → Hp → Prop, (∀ σ' H', N σ' H' → ∃ m', m' < m ∧ W (i + 1) m' σ' H') ∧ ∀ x H', (Ite K a).yld i H x H' → g x σ H' fun σ2 H2 => tb { G with nx := N, ct := N, bk := G.nx } σ2 H2) := by
  obtain ⟨I, Mc, p, vs, rfl, w1, ac, hF, hp, b⟩ := w.lstE (hv _ _ _ _ h0)
  refine ⟨p, vs, rfl, .inl (.inl hp), n_forJ src_enum w R hv h0 (fun i x σ H F M hi hR w => ?_) fin⟩
  have e1 : ds[i]? = some ds[i] := List.getElem?_eq_getElem hi
  rw [getD_of e1] at w
  exact step i _ x σ H F M e1 hR w
/-- any comprehension: acc is what was kept so far -/
theorem n_lcJ {xs : List Nat} (S : Src J n f OK) (w : Wf F H M) (ok : OK F M) (okm : ∀ D acc, OK F M → OK F (.ml D acc :: M)) (R : Nat → List D → Prop) (h0 : R 0 []) (hn : n ≤ 100000)
    (step : ∀ i x D acc H0 (Ap : VK) (Sk : Hp → Prop), i < n → R i acc → Wf ((x, f i) :: F) H0 (.ml D acc :: M) → (∀ y d H4, Wf ((y, d) :: F) H4 (.ml D acc :: M) → R (i + 1) (acc ++ [d]) → Ap y H4) → (∀ H3, Wf F H3 (.ml D acc :: M) → R (i + 1) acc → Sk H3) →
      g x (wipe σ xs) H0 fun σ2 H2 => wipe σ2 xs = wipe σ xs ∧ tt σ2 H2 fun b H3 => if b = true then te σ2 H3 Ap else Sk H3)
    (q : ∀ p es H', R n es → Wf F H' (.ml p es :: M) → Q (.ref p) H') : LcGo J g tt te xs σ Q H := by
  intro D nD
  have w0 : Wf F (upd H D (.lst [])) (.ml D [] :: M) := by
    obtain ⟨I, Mc, w, a, hF⟩ := w.ex
    exact ⟨I, _, w.newM nD, .cons (.ml .nil) a, hF⟩
  refine ⟨fun i m H => m = n - i ∧ i ≤ n ∧ ∃ acc, R i acc ∧ acc.length ≤ i ∧ Wf F H (.ml D acc :: M), ⟨n, rfl, Nat.zero_le _, [], h0, Nat.le_refl _, w0⟩, ?_⟩
  rintro i m H ⟨rfl, hi, acc, hR, hl, w⟩
  by_cases hlt : i < n
  · refine .inr ⟨S.go i H _ _ hlt (okm _ _ ok) w, fun H' => ∃ acc, R (i + 1) acc ∧ acc.length ≤ i + 1 ∧ Wf F H' (.ml D acc :: M), fun H' ⟨acc', h1, h2, h3⟩ => ⟨n - (i + 1), by omega, rfl, hlt, acc', h1, h2, h3⟩, fun x H' y => ?_⟩
    refine step i x D acc H' _ _ hlt hR (S.yld i H _ _ x H' hlt (okm _ _ ok) w y) (fun y d H4 w4 r => ?_) fun H3 w3 r => ⟨acc, r, by omega, w3⟩
    obtain ⟨vs, h1, h2⟩ := w4.lstAt List.mem_cons_self
    have w5 : Wf F (upd H4 D (.lst (vs ++ [y]))) (.ml D (acc ++ [d]) :: M) := by
      obtain ⟨I, Mc, w, a, hF⟩ := w4.ex
      cases a with
      | cons h a =>
        cases h with
        | ml b =>
          have := w.at0
          rw [this] at h1
          cases h1
          exact ⟨I, _, w.put0, .cons (.ml (b.app (.one (hF _ List.mem_cons_self)))) a, fun f hf => hF f (List.mem_cons_of_mem _ hf)⟩
    exact ⟨vs, h1, by rw [h2]; exact Nat.lt_of_le_of_lt hl (Nat.lt_of_lt_of_le hlt (Nat.le_trans hn (by decide))), acc ++ [d], r, by rw [List.length_append]; exact Nat.add_le_add_right hl 1, w5⟩
  · have e : i = n := by omega
    subst e
    exact .inl ⟨S.stop H _ _ (okm _ _ ok) w, q D acc H hR w⟩
theorem Rk.more {e : ME} {d : D} (h : Rk F M v d) : Rk F (e :: M) v d := by
  cases h with
  | mem h => exact .mem h
  | int n => exact .int n
  | bl n => exact .bl n
  | str n => exact .str n
  | non => exact .non
  | ml h => exact .ml (List.mem_cons_of_mem _ h)
  | mi h => exact .mi (List.mem_cons_of_mem _ h)
theorem Rk.moreF {f : V × D} {d : D} (h : Rk F M v d) : Rk (f :: F) M v d := by
  cases h with
  | mem h => exact .mem (List.mem_cons_of_mem _ h)
  | int n => exact .int n
  | bl n => exact .bl n
  | str n => exact .str n
  | non => exact .non
  | ml h => exact .ml h
  | mi h => exact .mi h
/-- .. over a list -/
theorem n_lcG {xs : List Nat} (w : Wf F H M) (h : Rk F M v (.lst ds)) (R : Nat → List D → Prop) (h0 : R 0 []) (hn : ds.length ≤ 100000)
    (step : ∀ i d x D acc H0 (Ap : VK) (Sk : Hp → Prop), ds[i]? = some d → R i acc → Wf ((x, d) :: F) H0 (.ml D acc :: M) → (∀ y d H4, Wf ((y, d) :: F) H4 (.ml D acc :: M) → R (i + 1) (acc ++ [d]) → Ap y H4) → (∀ H3, Wf F H3 (.ml D acc :: M) → R (i + 1) acc → Sk H3) →
      g x (wipe σ xs) H0 fun σ2 H2 => wipe σ2 xs = wipe σ xs ∧ tt σ2 H2 fun b H3 => if b = true then te σ2 H3 Ap else Sk H3)
    (q : ∀ p es H', R ds.length es → Wf F H' (.ml p es :: M) → Q (.ref p) H') : ∃ a, v = .ref a ∧ (∃ xs, SqL K H a xs) ∧ LcGo (Itl K a) g tt te xs σ Q H := by
  obtain ⟨I, Mc, p, vs, rfl, w1, ac, hF, hp, b⟩ := w.lstE h
  refine ⟨p, rfl, ⟨vs, .inl (.inl hp)⟩, n_lcJ src_list w h (fun D acc h => h.more) R h0 hn (fun i x D acc H0 Ap Sk hi hR w k1 k2 => ?_) q⟩
  have e1 : ds[i]? = some ds[i] := List.getElem?_eq_getElem hi
  rw [getD_of e1] at w
  exact step i _ x D acc H0 Ap Sk e1 hR w k1 k2
theorem n_lcZ {xs : List Nat} (w : Wf F H M) (h : Rk F M v (.lst ds)) (h' : Rk F M u (.lst es)) (R : Nat → List D → Prop) (h0 : R 0 []) (hn : ds.length ≤ 100000)
    (step : ∀ i d e x D acc H0 (Ap : VK) (Sk : Hp → Prop), ds[i]? = some d → es[i]? = some e → R i acc → Wf ((x, .tup [d, e]) :: F) H0 (.ml D acc :: M) → (∀ y d H4, Wf ((y, d) :: F) H4 (.ml D acc :: M) → R (i + 1) (acc ++ [d]) → Ap y H4) → (∀ H3, Wf F H3 (.ml D acc :: M) → R (i + 1) acc → Sk H3) →
      g x (wipe σ xs) H0 fun σ2 H2 => wipe σ2 xs = wipe σ xs ∧ tt σ2 H2 fun b H3 => if b = true then te σ2 H3 Ap else Sk H3)
    (q : ∀ p es' H', R (min ds.length es.length) es' → Wf F H' (.ml p es' :: M) → Q (.ref p) H') : ∃ a b xs' ys, [v, u] = [V.ref a, .ref b] ∧ SqL K H a xs' ∧ SqL K H b ys ∧ LcGo (Itz K a b) g tt te xs σ Q H := by
  obtain ⟨I, Mc, w1, ac, hF⟩ := w.ex
  obtain ⟨p, vs, rfl, hp, b1⟩ := h.lst w1 ac hF
  obtain ⟨p', us, rfl, hq, b2⟩ := h'.lst w1 ac hF
  refine ⟨p, p', vs, us, rfl, .inl (.inl hp), .inl (.inl hq), n_lcJ src_zip w ⟨h, h'⟩ (fun D acc h => ⟨h.1.more, h.2.more⟩) R h0 (by omega) (fun i x D acc H0 Ap Sk hi hR w k1 k2 => ?_) q⟩
  have h1 : i < ds.length := by omega
  have h2 : i < es.length := by omega
  have e1 : ds[i]? = some ds[i] := List.getElem?_eq_getElem h1
  have e2 : es[i]? = some es[i] := List.getElem?_eq_getElem h2
  rw [getD_of e1, getD_of e2] at w
  exact step i _ _ x D acc H0 Ap Sk e1 e2 hR w k1 k2
theorem n_lcE {xs : List Nat} (w : Wf F H M) (h : Rk F M v (.lst ds)) (R : Nat → List D → Prop) (h0 : R 0 []) (hn : ds.length ≤ 100000)
    (step : ∀ i d x D acc H0 (Ap : VK) (Sk : Hp → Prop), ds[i]? = some d → R i acc → Wf ((x, .tup [.int (i : Nat), d]) :: F) H0 (.ml D acc :: M) → (∀ y d H4, Wf ((y, d) :: F) H4 (.ml D acc :: M) → R (i + 1) (acc ++ [d]) → Ap y H4) → (∀ H3, Wf F H3 (.ml D acc :: M) → R (i + 1) acc → Sk H3) →
      g x (wipe σ xs) H0 fun σ2 H2 => wipe σ2 xs = wipe σ xs ∧ tt σ2 H2 fun b H3 => if b = true then te σ2 H3 Ap else Sk H3)
    (q : ∀ p es H', R ds.length es → Wf F H' (.ml p es :: M) → Q (.ref p) H') : ∃ a xs', [v] = [V.ref a] ∧ SqL K H a xs' ∧ LcGo (Ite K a) g tt te xs σ Q H := by
  obtain ⟨I, Mc, p, vs, rfl, w1, ac, hF, hp, b⟩ := w.lstE h
  refine ⟨p, vs, rfl, .inl (.inl hp), n_lcJ src_enum w h (fun D acc h => h.more) R h0 hn (fun i x D acc H0 Ap Sk hi hR w k1 k2 => ?_) q⟩
  have e1 : ds[i]? = some ds[i] := List.getElem?_eq_getElem hi
  rw [getD_of e1] at w
  exact step i _ x D acc H0 Ap Sk e1 hR w k1 k2
theorem n_lcN {xs : List Nat} {lo : Int} (w : Wf F H M) (R : Nat → List D → Prop) (h0 : R 0 []) (hn : n ≤ 100000)
    (step : ∀ i D acc H0 (Ap : VK) (Sk : Hp → Prop), i < n → R i acc → Wf F H0 (.ml D acc :: M) → (∀ y d H4, Wf ((y, d) :: F) H4 (.ml D acc :: M) → R (i + 1) (acc ++ [d]) → Ap y H4) → (∀ H3, Wf F H3 (.ml D acc :: M) → R (i + 1) acc → Sk H3) →
      g (.int (lo + i)) (wipe σ xs) H0 fun σ2 H2 => wipe σ2 xs = wipe σ xs ∧ tt σ2 H2 fun b H3 => if b = true then te σ2 H3 Ap else Sk H3)
    (q : ∀ p es H', R n es → Wf F H' (.ml p es :: M) → Q (.ref p) H') : LcGo (Itr lo n) g tt te xs σ Q H :=
  n_lcJ src_range w trivial (fun _ _ _ => trivial) R h0 hn (fun i x D acc H0 Ap Sk hi hR w k1 k2 => by
    have w2 := w.eq0.2
    rw [w.eq0.1]
    exact step i D acc H0 Ap Sk hi hR w2 k1 k2) q
-- ints in lists
theorem Wf.ints {ns : List Int} (w : Wf F H M) (h : Rk F M v (.lst (ns.map D.int))) : ∃ p, v = .ref p ∧ H p = some (.lst (ns.map V.int)) := by
  obtain ⟨I, Mc, p, vs, rfl, w1, ac, hF, hp, b⟩ := w.lstE h
  exact ⟨p, rfl, by rw [hp, b.ints_eq]⟩
theorem n_min {ns : List Int} (w : Wf F H M) (h : Rk F M v (.lst (ns.map D.int))) (h0 : 0 < ns.length) (q : ∀ m, m ∈ ns → (∀ y ∈ ns, m ≤ y) → Q (.int m) H) : rMinU K [v] H Q := by
  obtain ⟨p, rfl, hp⟩ := w.ints h
  exact .inr ⟨p, ns, rfl, .inl (.inl hp), h0, q⟩
theorem n_max {ns : List Int} (w : Wf F H M) (h : Rk F M v (.lst (ns.map D.int))) (h0 : 0 < ns.length) (q : ∀ m, m ∈ ns → (∀ y ∈ ns, y ≤ m) → Q (.int m) H) : rMaxU K [v] H Q := by
  obtain ⟨p, rfl, hp⟩ := w.ints h
  exact .inr ⟨p, ns, rfl, .inl (.inl hp), h0, q⟩
theorem n_sum {ns : List Int} (w : Wf F H M) (h : Rk F M v (.lst (ns.map D.int))) (q : Q (.int ns.sum) H) : rSum K [v] H Q := by
  obtain ⟨p, rfl, hp⟩ := w.ints h
  exact ⟨p, ns, rfl, .inl (.inl hp), q⟩
theorem n_sorted {ns : List Int} (w : Wf F H M) (h : Rk F M v (.lst (ns.map D.int))) (q : ∀ (ms : List Int) p H', ms.Perm ns → ms.Pairwise (· ≤ ·) → Wf F H' (.ml p (ms.map D.int) :: M) → Q (.ref p) H') : rSortedI K [v] H Q := by
  obtain ⟨p, rfl, hp⟩ := w.ints h
  refine ⟨p, ns, rfl, .inl (.inl hp), fun ms p h1 h2 h3 => q ms p _ h1 h2 ?_⟩
  obtain ⟨I, Mc, w, a, hF⟩ := w.ex
  exact ⟨I, _, w.newM h3, .cons (.ml (IsA.ints ms)) a, hF⟩
theorem IsA.flat {I : Hp} {vs : List V} (a : IsA I vs ds) : ∀ n : Nat, IsA I (List.replicate n vs).flatten (List.replicate n ds).flatten
  | 0 => .nil
  | n + 1 => by
    rw [List.replicate_succ, List.replicate_succ, List.flatten_cons, List.flatten_cons]
    exact a.app (IsA.flat a n)
theorem flat_one {α : Type} (x : α) : ∀ n : Nat, (List.replicate n [x]).flatten = List.replicate n x
  | 0 => rfl
  | n + 1 => by rw [List.replicate_succ, List.flatten_cons, flat_one x n]; rfl
theorem n_rep {k : Int} (w : Wf F H M) (h : Rk F M v (.lst ds)) (h1 : -(2 ^ 63) ≤ k) (h2 : k < 2 ^ 63) (hz : ds.length * k.toNat ≤ 100000) (q : ∀ p H', Wf F H' (.ml p (List.replicate k.toNat ds).flatten :: M) → Q (.ref p) H') : rMulU v (.int k) H Q := by
  obtain ⟨I, Mc, p, vs, rfl, w1, ac, hF, hp, b⟩ := w.lstE h
  exact .inr ⟨p, k, vs, rfl, rfl, hp, h1, h2, by rw [b.length]; exact Nat.le_trans hz (by decide), fun l hl => q l _ ⟨I, _, w1.newM hl, .cons (.ml (b.flat _)) ac, hF⟩⟩
/-- [d] * k -/
theorem n_rep1 {k : Int} {d : D} (w : Wf F H M) (h : Rk F M v (.lst [d])) (h1 : 0 ≤ k) (h2 : k ≤ 100000) (q : ∀ p H', Wf F H' (.ml p (List.replicate k.toNat d) :: M) → Q (.ref p) H') : rMulU v (.int k) H Q :=
  n_rep w h (by omega) (by omega) (by rw [List.length_singleton]; omega) fun p H' w => q p H' (by rw [flat_one] at w; exact w)
def rTupOf (K : PySem.W.Frag) : List V → Hp → VK → Prop := fun xs H Q => ∃ p ys, xs = [.ref p] ∧ ((SqL K H p ys ∧ ∀ l, H l = none → Q (.ref l) (upd H l (.tup ys))) ∨ (SqT K H p ys ∧ Q (.ref p) H))
theorem k_tuple {X : Cx} (h : X.K = K) : CallR X (.type "tuple") (rTupOf K) := h ▸ call_tuple_of
theorem n_tupL (w : Wf F H M) (h : Rk F M v (.lst ds)) (q : ∀ p H', Wf ((.ref p, .tup ds) :: F) H' M → Q (.ref p) H') : rTupOf K [v] H Q := by
  obtain ⟨I, Mc, p, vs, rfl, w1, ac, hF, hp, b⟩ := w.lstE h
  exact ⟨p, vs, rfl, .inl ⟨.inl (.inl hp), fun l hl => q l _ (.cons (w1.newI hl) (ac.mono (w1.same hl)) (fun f hf => (hF f hf).mono (w1.same hl)) (.tup upd_same (b.mono (w1.same hl))))⟩⟩
-- dicts with tuples as keys
def keyD : Key → D
  | .inl i => .int i
  | .inr x => .str x
def getP {κ : Type} [DecidableEq κ] (kvs : List (κ × D)) (k : κ) : Option D := (kvs.find? fun kv => decide (kv.1 = k)).map (·.2)
def putP {κ : Type} [DecidableEq κ] (kvs : List (κ × D)) (k : κ) (d : D) : List (κ × D) :=
  if (kvs.any fun kv => decide (kv.1 = k)) = true then kvs.map (fun kv => if kv.1 = k then (kv.1, d) else kv) else kvs ++ [(k, d)]
theorem IsP.length {I : Hp} {κ : Type} : ∀ {vs : List (κ × V)} {ds : List (κ × D)}, IsP I vs ds → vs.length = ds.length
  | _, _, .nil => rfl
  | _, _, .cons _ a => by rw [List.length_cons, List.length_cons, a.length]
theorem IsP.app {I : Hp} {κ : Type} {us : List (κ × V)} {es : List (κ × D)} (b : IsP I us es) : ∀ {vs : List (κ × V)} {ds : List (κ × D)}, IsP I vs ds → IsP I (vs ++ us) (ds ++ es)
  | _, _, .nil => b
  | _, _, .cons h a => .cons h (IsP.app b a)
theorem IsP.get {I : Hp} {κ : Type} [DecidableEq κ] {k : κ} : ∀ {vs : List (κ × V)} {ds : List (κ × D)}, IsP I vs ds → (getP ds k = none ∧ valV vs k = none) ∨ ∃ v d, valV vs k = some v ∧ getP ds k = some d ∧ Is I v d
  | _, _, .nil => .inl ⟨rfl, rfl⟩
  | _, _, .cons (f := f) h a => by
    by_cases e : f = k
    · exact .inr ⟨_, _, by simp [valV, List.find?_cons, e], by simp [getP, List.find?_cons, e], h⟩
    · rcases IsP.get (k := k) a with ⟨h1, h2⟩ | ⟨v, d, h1, h2, h3⟩
      · exact .inl ⟨by simpa [getP, List.find?_cons, e] using h1, by simpa [valV, List.find?_cons, e] using h2⟩
      · exact .inr ⟨v, d, by simpa [valV, List.find?_cons, e] using h1, by simpa [getP, List.find?_cons, e] using h2, h3⟩
theorem IsP.any {I : Hp} {κ : Type} [DecidableEq κ] {k : κ} : ∀ {vs : List (κ × V)} {ds : List (κ × D)}, IsP I vs ds → (vs.any fun kv => decide (kv.1 = k)) = ds.any fun kv => decide (kv.1 = k)
  | _, _, .nil => rfl
  | _, _, .cons h a => by rw [List.any_cons, List.any_cons, IsP.any a]
theorem IsP.mapP {I : Hp} {κ : Type} [DecidableEq κ] {k : κ} {v : V} {d : D} (h : Is I v d) : ∀ {vs : List (κ × V)} {ds : List (κ × D)}, IsP I vs ds → IsP I (vs.map fun kv => if kv.1 = k then (kv.1, v) else kv) (ds.map fun kv => if kv.1 = k then (kv.1, d) else kv)
  | _, _, .nil => .nil
  | _, _, .cons (f := f) h' a => by
    rw [List.map_cons, List.map_cons]
    by_cases e : f = k
    · simp only [e, if_true]; exact .cons h (IsP.mapP h a)
    · simp only [e, if_false]; exact .cons h' (IsP.mapP h a)
theorem IsP.put {I : Hp} {κ : Type} [DecidableEq κ] {k : κ} {v : V} {d : D} (h : Is I v d) {vs : List (κ × V)} {ds : List (κ × D)} (a : IsP I vs ds) : IsP I (putK vs k v) (putP ds k d) := by
  unfold putK putP
  rw [a.any]
  split
  · exact a.mapP h
  · exact IsP.app (.cons h .nil) a
theorem isA_keys {I : Hp} : ∀ {k : List Key} {vs : List V}, IsA I vs (k.map keyD) → vs = k.map kV
  | [], _, h => by cases h; rfl
  | k :: r, _, h => by
    cases h with
    | cons h a =>
      rw [isA_keys a]
      cases k with
      | inl i => rw [h.int_eq]; rfl
      | inr i => rw [h.str_eq]; rfl
def DGetQ (Q : VK) (x y : V) (H : Hp) : Prop := ∃ a v, x = .ref a ∧ DGet H a y (some v) ∧ Q v H
def DInQ (P : Bool → Prop) (x y : V) (H : Hp) : Prop := ∃ a o, x = .ref a ∧ DGet H a y o ∧ P o.isSome
def DPutQ (P : Hp → Prop) (x y v : V) (H : Hp) : Prop := ∃ a H4, x = .ref a ∧ DPut H a y v H4 ∧ P H4
theorem s_dget {td ty : TE} (h : td σ H fun x H1 => ty σ H1 fun y H2 => DGetQ Q x y H2) : tDGet td ty σ H Q := h
theorem s_din {td ty : TE} (h : ty σ H fun y H1 => td σ H1 fun x H2 => DInQ (fun b => Q (.bl b) H2) x y H2) : tDIn ty td σ H Q := h
theorem s_dnotin {td ty : TE} (h : ty σ H fun y H1 => td σ H1 fun x H2 => DInQ (fun b => Q (.bl (!b)) H2) x y H2) : tDNotIn ty td σ H Q := h
theorem s_dput {td ty tv : TE} (h : tv σ H fun v H1 => td σ H1 fun x H2 => ty σ H2 fun y H3 => DPutQ (fun H4 => G.nx σ H4) x y v H3) : sDPut td ty tv G σ H := h
theorem s_dnewT (w : Wf F H M) (q : ∀ p H', Wf F H' (.dt p [] :: M) → Q (.ref p) H') : tDNewT σ H Q := fun p hp => by
  obtain ⟨I, Mc, w, a, hF⟩ := w.ex
  exact q p _ ⟨I, _, w.newM hp, .cons (.dt .nil) a, hF⟩
theorem s_dnewK (w : Wf F H M) (q : ∀ p H', Wf F H' (.dk p [] :: M) → Q (.ref p) H') : tDNewK σ H Q := fun p hp => by
  obtain ⟨I, Mc, w, a, hF⟩ := w.ex
  exact q p _ ⟨I, _, w.newM hp, .cons (.dk .nil) a, hF⟩
theorem Wf.keyT {k : List Key} (w : Wf F H M) (h : Rk F M y (.tup (k.map keyD))) : ∃ b, y = .ref b ∧ H b = some (.tup (k.map kV)) := by
  obtain ⟨I, Mc, w, a, hF⟩ := w.ex
  obtain ⟨p, vs, rfl, hp, b⟩ := h.tup w a hF
  exact ⟨p, rfl, by rw [hp, isA_keys b]⟩
theorem Wf.dtAt {p : Addr} {kvs : List (List Key × D)} (w : Wf F H M) (h : .dt p kvs ∈ M) : ∃ I Mc vs, W I H Mc ∧ CnA I M Mc ∧ (∀ f ∈ F, Is I f.1 f.2) ∧ H p = some (.dT vs) ∧ IsP I vs kvs := by
  obtain ⟨I, Mc, w, a, hF⟩ := w.ex
  obtain ⟨m, h1, h2⟩ := a.mem h
  cases h2 with
  | dt b => exact ⟨I, Mc, _, w, a, hF, (w.mu _ h1).1, b⟩
theorem n_dinT {P : Bool → Prop} {p : Addr} {kvs : List (List Key × D)} {k : List Key} (w : Wf F H M) (h : .dt p kvs ∈ M) (hy : Rk F M y (.tup (k.map keyD))) (q : P (getP kvs k).isSome) : DInQ P (.ref p) y H := by
  obtain ⟨b, rfl, hb⟩ := w.keyT hy
  obtain ⟨I, Mc, vs, w, a, hF, hp, ha⟩ := w.dtAt h
  refine ⟨p, _, rfl, DGet.t hp hb, ?_⟩
  rcases ha.get (k := k) with ⟨h1, h2⟩ | ⟨v, d, h1, h2, h3⟩
  · rw [h2]; rw [h1] at q; exact q
  · rw [h1]; rw [h2] at q; exact q
theorem n_dgetT {p : Addr} {kvs : List (List Key × D)} {k : List Key} {d : D} (w : Wf F H M) (h : .dt p kvs ∈ M) (hy : Rk F M y (.tup (k.map keyD))) (hd : getP kvs k = some d) (q : ∀ u, Wf ((u, d) :: F) H M → Q u H) : DGetQ Q (.ref p) y H := by
  obtain ⟨b, rfl, hb⟩ := w.keyT hy
  obtain ⟨I, Mc, vs, w, a, hF, hp, ha⟩ := w.dtAt h
  rcases ha.get (k := k) with ⟨h1, h2⟩ | ⟨v, d', h1, h2, h3⟩
  · rw [h1] at hd; cases hd
  · rw [h2] at hd; cases hd
    exact ⟨p, v, rfl, h1 ▸ DGet.t hp hb, q v (.cons w a hF h3)⟩
theorem n_dputT {P : Hp → Prop} {p : Addr} {kvs : List (List Key × D)} {k : List Key} {d : D} (w : Wf F H M) (f : Foc M (.dt p kvs) M' (.dt p (putP kvs k d))) (hy : Rk F M y (.tup (k.map keyD))) (hv : Kn F v d) (hl : kvs.length ≤ 100000) (q : ∀ H', Wf F H' M' → P H') : DPutQ P (.ref p) y v H := by
  obtain ⟨b, rfl, hb⟩ := w.keyT hy
  obtain ⟨I, Mc, w, a, hF⟩ := w.ex
  obtain ⟨M1, m, M2, rfl, h3, h4⟩ := a.foc f
  cases h3 with
  | dt ha => exact ⟨p, _, rfl, DPut.t w.at hb (by rw [ha.length]; exact Nat.lt_of_le_of_lt hl (by decide)), q _ ⟨I, _, w.put, h4 I _ (Same.refl _) (.dt (ha.put (hv.is hF))), hF⟩⟩
-- keys are ints and texts
theorem Wf.keyK {k : Key} (w : Wf F H M) (h : Rk F M y (keyD k)) : y = kV k := by
  have := w.rd h
  cases k with
  | inl i => exact this.int_eq
  | inr i => exact this.str_eq
theorem Wf.dkAt {p : Addr} {kvs : List (Key × D)} (w : Wf F H M) (h : .dk p kvs ∈ M) : ∃ I Mc vs, W I H Mc ∧ CnA I M Mc ∧ (∀ f ∈ F, Is I f.1 f.2) ∧ H p = some (.dK vs) ∧ IsP I vs kvs := by
  obtain ⟨I, Mc, w, a, hF⟩ := w.ex
  obtain ⟨m, h1, h2⟩ := a.mem h
  cases h2 with
  | dk b => exact ⟨I, Mc, _, w, a, hF, (w.mu _ h1).1, b⟩
theorem n_dinK {P : Bool → Prop} {p : Addr} {kvs : List (Key × D)} {k : Key} (w : Wf F H M) (h : .dk p kvs ∈ M) (hy : Rk F M y (keyD k)) (q : P (getP kvs k).isSome) : DInQ P (.ref p) y H := by
  cases w.keyK hy
  obtain ⟨I, Mc, vs, w, a, hF, hp, ha⟩ := w.dkAt h
  refine ⟨p, _, rfl, DGet.k hp, ?_⟩
  rcases ha.get (k := k) with ⟨h1, h2⟩ | ⟨v, d, h1, h2, h3⟩
  · rw [h2]; rw [h1] at q; exact q
  · rw [h1]; rw [h2] at q; exact q
theorem n_dgetK {p : Addr} {kvs : List (Key × D)} {k : Key} {d : D} (w : Wf F H M) (h : .dk p kvs ∈ M) (hy : Rk F M y (keyD k)) (hd : getP kvs k = some d) (q : ∀ u, Wf ((u, d) :: F) H M → Q u H) : DGetQ Q (.ref p) y H := by
  cases w.keyK hy
  obtain ⟨I, Mc, vs, w, a, hF, hp, ha⟩ := w.dkAt h
  rcases ha.get (k := k) with ⟨h1, h2⟩ | ⟨v, d', h1, h2, h3⟩
  · rw [h1] at hd; cases hd
  · rw [h2] at hd; cases hd
    exact ⟨p, v, rfl, h1 ▸ DGet.k hp, q v (.cons w a hF h3)⟩
theorem n_dputK {P : Hp → Prop} {p : Addr} {kvs : List (Key × D)} {k : Key} {d : D} (w : Wf F H M) (f : Foc M (.dk p kvs) M' (.dk p (putP kvs k d))) (hy : Rk F M y (keyD k)) (hv : Kn F v d) (hl : kvs.length ≤ 100000) (q : ∀ H', Wf F H' M' → P H') : DPutQ P (.ref p) y v H := by
  cases w.keyK hy
  obtain ⟨I, Mc, w, a, hF⟩ := w.ex
  obtain ⟨M1, m, M2, rfl, h3, h4⟩ := a.foc f
  cases h3 with
  | dk ha => exact ⟨p, _, rfl, DPut.k w.at (by rw [ha.length]; exact Nat.lt_of_le_of_lt hl (by decide)), q _ ⟨I, _, w.put, h4 I _ (Same.refl _) (.dk (ha.put (hv.is hF))), hF⟩⟩
end
theorem hu1 {n : Nat} (h : n + 64 < cLine) : n + 1 < cLine := by omega
theorem k_sorted {X : Cx} {K : PySem.W.Frag} (h : X.K = K) : CallR X (.builtin "sorted") (rSortedI K) := h ▸ cr_sortedI
theorem ps_augLS {X : Cx} {pos : Pos} {o i e : Expr} {to ti te : TE} {tpos : Pos} (ho : PE X o to) (hi : PE X i ti) (he : PE X e te)
    (ha : ∀ ov iv new, augStore i ov iv new = (do holding [new, ov, iv] (setItem ov iv new); release [new, ov, iv] []; pure .next) := by intros; rfl) : PS X (.AugAssign (.Subscript o i tpos) .Sub e pos) (tAugS to ti te (rIxL X.K) (ipI fun i j => i - j) rSetL) :=
  ps_augS ho hi get_list he ip_sub set_list ha
section
variable {K : PySem.W.Frag} {σ : L2.St} {H : Hp} {F : List (V × D)} {M M' : List ME} {Q : VK} {G : Ends} {v u x y : V} {ds es : List D} {tb : TS} {c : TT} {i : Int}
/-- while, by any measure -/
theorem n_whileG (w : Wf F H M) (R : Nat → L2.St → List (V × D) → List ME → Prop) (m : Nat) (h0 : R m σ F M)
    (step : ∀ m σ H F M, R m σ F M → Wf F H M → c σ H fun b H1 => if b = true then ∃ N : L2.St → Hp → Prop, (∀ σ' H', N σ' H' → ∃ m', m' < m ∧ LI (R m') σ' H') ∧ tb { G with nx := N, ct := N, bk := G.nx } σ H1 else G.nx σ H1) : tWhile c tb G σ H :=
  ⟨fun m σ H => LI (R m) σ H, ⟨m, F, M, h0, w⟩, fun m σ H ⟨F, M, hR, w⟩ => step m σ H F M hR w⟩
theorem n_wG {R : Nat → L2.St → List (V × D) → List ME → Prop} {m : Nat} {σ1 : L2.St} (h : tb { G with nx := fun σ' H' => ∃ m', m' < m ∧ LI (R m') σ' H', ct := fun σ' H' => ∃ m', m' < m ∧ LI (R m') σ' H', bk := G.nx } σ1 H) :
    ∃ N : L2.St → Hp → Prop, (∀ σ' H', N σ' H' → ∃ m', m' < m ∧ LI (R m') σ' H') ∧ tb { G with nx := N, ct := N, bk := G.nx } σ1 H := ⟨_, fun _ _ h => h, h⟩
theorem n_ixN {ns : List Int} {j : Nat} (w : Wf F H M) (h : Rk F M v (.lst (ns.map D.int))) (hi : i = (j : Int)) (hj : j < ns.length) (q : Q (.int (ns.getD j 0)) H) : rIx K v (.int i) H Q := by
  subst hi
  refine n_ixInts w h (by omega) (by omega) fun n hn => ?_
  rw [Int.toNat_natCast] at hn
  rw [List.getD_eq_getElem?_getD, hn] at q
  exact q
/-- an item of a list made from another one -/
theorem n_ixM {α : Type} {f : α → D} {l : List α} {z : α} {j : Nat} (w : Wf F H M) (h : Rk F M v (.lst (l.map f))) (hi : i = (j : Int)) (hj : j < l.length) (q : ∀ u, Wf ((u, f (l.getD j z)) :: F) H M → Q u H) : rIx K v (.int i) H Q := by
  subst hi
  refine n_ixAny w h (by omega) (by rw [List.length_map]; omega) fun d u hd w => ?_
  rw [Int.toNat_natCast, List.getElem?_map, List.getElem?_eq_getElem hj] at hd
  cases hd
  have e : l.getD j z = l[j] := by rw [List.getD_eq_getElem?_getD, List.getElem?_eq_getElem hj]; rfl
  rw [← e] at w
  exact q u w
theorem ixN_of {n j : Nat} (h : j < n) : ixN n (j : Int) = some j := by
  have := atI_nat (xs := List.range n) (List.getElem?_range h)
  unfold atI at this
  rw [List.length_range] at this
  cases e : ixN n (j : Int) with
  | none => rw [e] at this; cases this
  | some k =>
    rw [e] at this
    have h2 : (List.range n)[k]? = some j := this
    by_cases hk : k < n
    · rw [List.getElem?_range hk] at h2; exact h2
    · rw [List.getElem?_eq_none (by rw [List.length_range]; omega)] at h2; cases h2
theorem atI_head {α : Type} {x : α} {l : List α} : atI (x :: l) 0 = some x := atI_nat (j := 0) rfl
theorem map_get {α β : Type} {f : α → β} {l : List α} {i : Nat} {d : β} (h : (l.map f)[i]? = some d) : ∃ x, l[i]? = some x ∧ d = f x := by
  rw [List.getElem?_map] at h
  cases e : l[i]? with
  | none => rw [e] at h; cases h
  | some x => rw [e] at h; exact ⟨x, rfl, (Option.some.inj h).symm⟩
theorem Wf.non0 (w : Wf ((v, .non) :: F) H M) : v = .non ∧ Wf F H M := ⟨(w.rd (.mem List.mem_cons_self) : Is H v .non).non_eq, w.tail⟩
theorem Wf.bl0 {b : Bool} (w : Wf ((v, .bl b) :: F) H M) : v = .bl b ∧ Wf F H M := ⟨(w.rd (.mem List.mem_cons_self) : Is H v (.bl b)).bl_eq, w.tail⟩
theorem Wf.str0 {b : Str} (w : Wf ((v, .str b) :: F) H M) : v = .str b ∧ Wf F H M := ⟨(w.rd (.mem List.mem_cons_self) : Is H v (.str b)).str_eq, w.tail⟩
theorem Wf.ref0 {b : Addr} (w : Wf ((v, .ref b) :: F) H M) : v = .ref b ∧ Wf F H M := ⟨(w.rd (.mem List.mem_cons_self) : Is H v (.ref b)).ref_eq, w.tail⟩
theorem Wf.tup0 (w : Wf ((v, .tup ds) :: F) H M) : ∃ p, v = .ref p := by
  obtain ⟨p, _, e, _⟩ := (w.rd (.mem List.mem_cons_self) : Is H v (.tup ds)).tup_ex
  exact ⟨p, e⟩
theorem Wf.lst0 (w : Wf ((v, .lst ds) :: F) H M) : ∃ p, v = .ref p := by
  obtain ⟨p, _, e, _⟩ := (w.rd (.mem List.mem_cons_self) : Is H v (.lst ds)).lst_ex
  exact ⟨p, e⟩
theorem n_gtup4i {gs : TGs} {T : L2.St → Hp → Prop} {a b c : Int} {d3 : D} (w : Wf F H M) (h : Rk F M v (.tup [.int a, .int b, .int c, d3])) (q : ∀ u, Wf ((u, d3) :: F) H M → gs [.int a, .int b, .int c, u] σ H T) : gTup K 4 gs v σ H T :=
  n_gtup4 w h fun x y z u w => by
    rw [w.eq0.1, w.eq0.2.eq0.1, w.eq0.2.eq0.2.eq0.1]
    exact q u w.eq0.2.eq0.2.eq0.2
theorem take_flat {α β : Type} {f : α → List β} {l : List α} {i : Nat} {x : α} (h : l[i]? = some x) : (l.take (i + 1)).flatMap f = (l.take i).flatMap f ++ f x := by
  rw [List.take_add_one, h, List.flatMap_append]
  simp
theorem take_snoc {α : Type} {l : List α} {i : Nat} {x : α} (h : l[i]? = some x) : l.take (i + 1) = l.take i ++ [x] := by
  rw [List.take_add_one, h]
  rfl
end
def oD : Option Int → D
  | none => .non
  | some k => .int k
def oV : Option Int → V
  | none => .non
  | some k => .int k
theorem Kn.oV {F : List (V × D)} (m : Option Int) : Kn F (oV m) (oD m) := by
  cases m with
  | none => exact .non
  | some k => exact .int k
/-- [e for x in xs], e told by f -/
theorem n_lcMap {α : Type} {K : PySem.W.Frag} {σ : L2.St} {H : Hp} {F : List (V × D)} {M : List ME} {Q : VK} {v : V} {te : TE} {xs : List Nat} {k : Nat} {g f : α → D} {l : List α} (w : Wf F H M) (h : Rk F M v (.lst (l.map g))) (hn : l.length ≤ 100000)
    (hw : ∀ v, wipe ((wipe σ xs).set k (some v)) xs = wipe σ xs)
    (step : ∀ x y D acc H0 C, x ∈ l → Wf ((y, g x) :: F) H0 (.ml D acc :: M) → (∀ z H4, Wf ((z, f x) :: F) H4 (.ml D acc :: M) → C z H4) → te ((wipe σ xs).set k (some y)) H0 C)
    (q : ∀ p H', Wf F H' (.ml p (l.map f) :: M) → Q (.ref p) H') :
    ∃ a, v = .ref a ∧ (∃ xs, SqL K H a xs) ∧ LcGo (Itl K a) (gName k) tYes te xs σ Q H := by
  refine n_lcL w h (fun i d => ∃ x, l[i]? = some x ∧ d = f x) (by rw [List.length_map]; exact hn) hw (fun i y d D acc H0 C hd w kc => ?_) fun p es H' hl hP w => ?_
  · obtain ⟨x, hx, rfl⟩ := map_get hd
    exact step x y D acc H0 C (List.mem_of_getElem? hx) w fun z H4 w4 => kc z _ H4 w4 ⟨x, hx, rfl⟩
  · have e : es = l.map f := by
      rw [List.length_map] at hl
      apply List.ext_getElem (by rw [List.length_map]; exact hl)
      intro i h1 h2
      obtain ⟨x, hx, e⟩ := hP i _ (List.getElem?_eq_getElem h1)
      rw [List.getElem_map, e]
      have h3 : i < l.length := by omega
      rw [List.getElem?_eq_getElem h3] at hx
      cases hx
      rfl
    rw [e] at w
    exact q p H' w
theorem n_lcMapI {α : Type} {K : PySem.W.Frag} {σ : L2.St} {H : Hp} {F : List (V × D)} {M : List ME} {Q : VK} {v : V} {te : TE} {xs : List Nat} {k : Nat} {g : α → D} {f : α → Int} {l : List α} (w : Wf F H M) (h : Rk F M v (.lst (l.map g))) (hn : l.length ≤ 100000)
    (hw : ∀ v, wipe ((wipe σ xs).set k (some v)) xs = wipe σ xs)
    (step : ∀ x y D acc H0 C, x ∈ l → Wf ((y, g x) :: F) H0 (.ml D acc :: M) → (∀ H4, Wf F H4 (.ml D acc :: M) → C (.int (f x)) H4) → te ((wipe σ xs).set k (some y)) H0 C)
    (q : ∀ p H', Wf F H' (.ml p ((l.map f).map D.int) :: M) → Q (.ref p) H') :
    ∃ a, v = .ref a ∧ (∃ xs, SqL K H a xs) ∧ LcGo (Itl K a) (gName k) tYes te xs σ Q H :=
  n_lcMap (f := fun x => .int (f x)) w h hn hw (fun x y D acc H0 C hx w kc => step x y D acc H0 C hx w fun H4 w4 => kc _ H4 (w4.add (.int _))) fun p H' w => q p H' (by rw [List.map_map]; exact w)
theorem n_gtup5 {K : PySem.W.Frag} {σ : L2.St} {H : Hp} {F : List (V × D)} {M : List ME} {v : V} {gs : TGs} {T : L2.St → Hp → Prop} {d0 d1 d2 d3 d4 : D} (w : Wf F H M) (h : Rk F M v (.tup [d0, d1, d2, d3, d4])) (q : ∀ x y z u t, Wf ((x, d0) :: (y, d1) :: (z, d2) :: (u, d3) :: (t, d4) :: F) H M → gs [x, y, z, u, t] σ H T) : gTup K 5 gs v σ H T :=
  n_gtup w h rfl fun I Mc xs w a hF b => by
    cases b with | cons h0 b =>
    cases b with | cons h1 b =>
    cases b with | cons h2 b =>
    cases b with | cons h3 b =>
    cases b with | cons h4 b =>
    cases b
    refine q _ _ _ _ _ ⟨I, Mc, w, a, fun f hf => ?_⟩
    rcases List.mem_cons.mp hf with rfl | hf
    · exact h0
    rcases List.mem_cons.mp hf with rfl | hf
    · exact h1
    rcases List.mem_cons.mp hf with rfl | hf
    · exact h2
    rcases List.mem_cons.mp hf with rfl | hf
    · exact h3
    rcases List.mem_cons.mp hf with rfl | hf
    · exact h4
    · exact hF f hf
/-- a row of a part: four ints and a greatest -/
theorem n_gtupRow {K : PySem.W.Frag} {σ : L2.St} {H : Hp} {F : List (V × D)} {M : List ME} {v : V} {gs : TGs} {T : L2.St → Hp → Prop} {b l w s : Int} {g : D} (ww : Wf F H M) (h : Rk F M v (.tup [.int b, .int l, g, .int w, .int s])) (q : ∀ u, Wf ((u, g) :: F) H M → gs [.int b, .int l, u, .int w, .int s] σ H T) : gTup K 5 gs v σ H T :=
  n_gtup5 ww h fun x y z u t w2 => by
    rw [w2.int_eq (v := x) (n := b) (.mem (by simp)), w2.int_eq (v := y) (n := l) (.mem (by simp)), w2.int_eq (v := u) (n := w) (.mem (by simp)), w2.int_eq (v := t) (n := s) (.mem (by simp))]
    exact q z (w2.sub (KS.cons (.mem (by simp)) (KS.drop (KS.drop (KS.drop (KS.drop (KS.drop KS.refl)))))) (.refl _))
end Fs

namespace Fs
open PySem PySem.Spec PyProof.Rows L2
/-! ### defs that may raise -/
structure CalX (P : Program) (w : World) (K : PySem.W.Frag) (mg : Str → Option Value) (base : Heap) (x : Str) (k : Nat) (ps : List Str) (dvs : List V) (sp : Sp) : Prop where
  ex : ∃ (f : Addr) (fd : FuncData) (ds : List Value), FnOk P w K mg base (L2.CX P w) k f fd ps sp ∧ mg x = some (.ref f) ∧ PySem.W.keepIn K (.ref f) = true ∧ Binds K fd ps ds ∧ Vals dvs ds
section
variable {X : Cx} {x : Str} {p pos : Pos} {e : Expr} {es : List Expr} {t : TA} {k : Nat} {ps : List Str} {dvs : List V} {sp : Sp} {W : WX}
theorem pe_calX (c : CalX X.prog X.w X.K X.mg X.base x k ps [] sp) (hr : Room k X.A) (hg : Gl X x) (tk : Takes X W) (ha : PA X (e :: es) t) (hdb : (x == ("__debug__" : Str)) = false := by decide)
    (he : starEach (e :: es) X.env = (false, eval e X.env) :: starEach es X.env := by rfl) (hpl : (backTo pos (starEach es X.env)).any (·.1) = false := by rfl) : PE X (.Call (.Name x p) (e :: es) [] pos) (tCallS sp (WE W) t) := by
  obtain ⟨f, fd, ds, F, hm, hk, hb, hd⟩ := c.ex
  cases hd
  exact pe_callS F hr hg hm hk hb (fun σ => passAt tk σ) ha hdb he hpl
end
section
variable {P : Program} {w : World} {K : PySem.W.Frag} {mg : Str → Option Value} {base : Heap}
theorem _root_.L2.FunD.okX {x qual : Str} {st : Stmt} {dvs : List V} {f : Addr} {fd : FuncData} {N ps : List Str} {k : Nat} {sp : Sp} (F : FunD K x qual (defArgs st) (defBody st) (defScope st) dvs [] f fd) (S : FnScope N ps (defScope st)) (len : ∀ vs H Q E, sp vs H Q E → vs.length = ps.length)
    (hbody : ∀ (cdv : Value) (A : Around) (outer : List Env) (s : Shared) (H : Hp) (vs : List V) (Q : VK) (E : XK), Room k (A.deeper (envOfC qual (defScope st) s.heap.objs.size f cdv)) → sp vs H Q E →
      ∃ t, PSs (cxOf (L2.CX P w) P w K mg base N qual (defScope st) f cdv A outer s H E) (defBody st) t ∧ t { nx := fun _ H' => Q .non H', rt := Q } (start N vs) H) : FnOk P w K mg base (L2.CX P w) (k + 1) f fd ps sp :=
  F.ok S len fun cdv A outer s H vs Q E hr h => hbody cdv A outer s H vs Q E hr h
end
/-- a def that is called with keywords -/
structure CalK (P : Program) (w : World) (K : PySem.W.Frag) (mg : Str → Option Value) (base : Heap) (x : Str) (k : Nat) (ps : List Str) (n : Nat) (ks : List Str) (gV : List V → List V → List V) (sp : Sp) : Prop where
  ex : ∃ (f : Addr) (fd : FuncData) (g : List Value → List Value → List Value), FnOk P w K mg base CX0 k f fd ps sp ∧ mg x = some (.ref f) ∧ PySem.W.keepIn K (.ref f) = true ∧ KBn K fd ps n ks g gV
section
variable {X : Cx} {x : Str} {p pos : Pos} {e : Expr} {es : List Expr} {kws : List Keyword} {t tk : TA} {k n : Nat} {ps ks : List Str} {gV : List V → List V → List V} {sp : Sp}
theorem pe_calK (c : CalK X.prog X.w X.K X.mg X.base x k ps n ks gV sp) (hr : Room k X.A) (hg : Gl X x) (ha : PA X (e :: es) t) (hkw : PK X kws tk)
    (hall : (backToKw pos (keywordEach kws X.env)).all (·.1.isSome) = true := by rfl) (hks : (backToKw pos (keywordEach kws X.env)).filterMap (·.1) = ks := by rfl) (hdb : (x == ("__debug__" : Str)) = false := by decide)
    (he : starEach (e :: es) X.env = (false, eval e X.env) :: starEach es X.env := by rfl) (hpl : ((backTo pos (starEach (e :: es) X.env)).any (·.1) || (backToKw pos (keywordEach kws X.env)).any (·.1.isNone)) = false := by rfl) :
    PE X (.Call (.Name x p) (e :: es) kws pos) (tCallN n ks.length sp gV E0 t tk) := by
  obtain ⟨f, fd, g, F, hm, hk, hb⟩ := c.ex
  exact pe_callN F hr hg hm hk hb pass0 ha hkw hall hks hdb he hpl
end
theorem s_callN {sp : Sp} {n m : Nat} {gV : List V → List V → List V} {E : XK} {tA tK : TA} {σ : L2.St} {H : Hp} {Q : VK} (h : tA σ H fun vs H1 => tK σ H1 fun zs H2 => vs.length = n ∧ zs.length = m ∧ sp (gV vs zs) H2 Q E) : tCallN n m sp gV E tA tK σ H Q := h
theorem s_callS {sp : Sp} {E : L2.St → XK} {t : TA} {σ : L2.St} {H : Hp} {Q : VK} (h : t σ H fun vs H1 => sp vs H1 Q (E σ)) : tCallS sp E t σ H Q := h
/-- an exception of the class C comes to 'except x as n' -/
theorem s_caught {K : PySem.W.Frag} {cls c : Value} {i : Nat} {ts : Addr → Value → Option Addr → TS} {D : Ends} {d : Option Addr} {σ : L2.St} {H : Hp} (e : PySem.W.exmOne K cls c = some true)
    (h : ∀ a, H a = none → ts a cls d { nx := fun σ' H' => D.nx (σ'.set i none) H', rt := D.rt, bk := fun σ' H' => D.bk (σ'.set i none) H', ct := fun σ' H' => D.ct (σ'.set i none) H' } (σ.set i (some (.ref a))) H) :
    WE (wAs K c i ts (fun _ _ _ _ => False) D) σ cls d H := ⟨true, e, fun _ a ha => h a ha, fun q => nomatch q⟩
/-! ### own error classes -/
/-- an own error class that is raised with a text -/
structure ErrC (K : PySem.W.Frag) (mg : Str → Option Value) (x : Str) (C : Addr) : Prop where
  g : mg x = some (.ref C)
  q : PySem.W.excIn K C HandSPX.veTail "ValueError.__new__" = true
  kp : PySem.W.keepIn K (.ref C) = true
  ex : PySem.W.subIn K (.ref C) (.type "BaseException") = some true
  ty : PySem.W.typeIn K (.ref C) = some (.type "type")
theorem ps_raiseC {X : Cx} {W : WX} {x m : Str} {C : Addr} {j : Nat} {p p2 pos pos2 : Pos} (c : ErrC X.K X.mg x C) (hc : X.calm = true) (tk : Takes X W) (hg : Gl X x) (hdb : (x == ("__debug__" : Str)) = false := by decide) :
    PS X (.Raise (some (.Call (.Name x p) [.Constant (.str m) j p2] [] pos)) none pos2) (fun _ σ H => W (.ref C) none σ H) :=
  ps_raise hc tk (pmk_own PySem.F.excBase_ValueError c.q c.g c.kp (raises_own c.ex c.ty) hg hdb)
section
variable {X : Cx} {C : Addr} {bmB : List Value} {B newId initId : String}
theorem pmk_own0 {x : Str} {p pos : Pos} (F : ExcBaseFacts B newId initId bmB) (q : PySem.W.excIn X.K C bmB newId = true) (gC : X.mg x = some (.ref C)) (kC : PySem.W.keepIn X.K (.ref C) = true) (r : Raises X (.ref C)) (hg : Gl X x)
    (hdb : (x == ("__debug__" : Str)) = false := by decide) : PMk X (.Call (.Name x p) [] [] pos) (fun _ H Q => Q (.ref C) none H) := by
  intro pins s σ H Q I h
  refine wpAny_Call_Name_kw (ld_glob I hg gC ?_ hdb)
  refine PySem.W.callWith_K0 I.kIn kC ?_
  show wpAny _ _ (call (.ref C) []) _ _ _
  obtain ⟨bm, N, nm, qn, bs, hdct, sn, sub, ab, col, dd, k0, k1, k2, k3, k5, mN, hC, hN, hni, T⟩ := exc_obj I.kIn q
  refine wpAny_call_exc_subT F T hC hN hni (fun h' e hm => ?_) (by show 0 ≤ sizeLine; omega)
  exact mk_of I hm r h (I.hok.gone hm.new)
theorem ps_raiseC0 {W : WX} {x : Str} {p pos pos2 : Pos} (c : ErrC X.K X.mg x C) (hc : X.calm = true) (tk : Takes X W) (hg : Gl X x) (hdb : (x == ("__debug__" : Str)) = false := by decide) :
    PS X (.Raise (some (.Call (.Name x p) [] [] pos)) none pos2) (fun _ σ H => W (.ref C) none σ H) :=
  ps_raise hc tk (pmk_own0 PySem.F.excBase_ValueError c.q c.g c.kp (raises_own c.ex c.ty) hg hdb)
end
/-! ### own error classes with a field -/
/-- what an __init__ of such a class leaves -/
def sp_xinit (C : Addr) (f : Str) : Sp := fun vs H Q _ => ∃ a v, vs = [.ref a, v] ∧ H a = some (exo a C none) ∧ ∀ dx, H dx = none → dx ≠ a → Q .non (upd (upd H dx (exd dx [(f, v)])) a (exo a C (some dx)))
structure ErrB (K : PySem.W.Frag) (mg : Str → Option Value) (x : Str) (B : Addr) : Prop where
  g : mg x = some (.ref B)
  sp : PySem.W.specialIn K (.ref B) "__getattribute__" = some (some (.builtin "type.__getattribute__"))
  rd : PySem.W.readsIn K B (.type "type") = true
  at_ : PySem.W.findCls K (.ref B) (.type "type") "__init__" = some (.val (.builtin "ValueError.__init__"))
section
variable {X : Cx} {o e : Expr} {es : List Expr} {to te : TE} {ta : TA} {x f : Str} {p p' p1 p2 pos : Pos} {C B : Addr}
theorem pe_clinit {pl : Sem Bool} (b : ErrB X.K X.mg x B) (hg : Gl X x) (ha : PA X (e :: es) ta) (hdb : (x == ("__debug__" : Str)) = false := by decide)
    (hc : eval (.Call (.Attribute (.Name x p1) "__init__" p2) (e :: es) [] pos) X.env = (do
      let ov ← eval (.Name x p1) X.env
      standAt p2.atName
      let (f, first) ← holding [ov] (getMethod ov "__init__" pl)
      callWith pos f first (backTo pos (starEach (e :: es) X.env)) (backToKw pos (keywordEach [] X.env))) := by rfl)
    (he : starEach (e :: es) X.env = (false, eval e X.env) :: starEach es X.env := by rfl) (hpl : (backTo pos (starEach es X.env)).any (·.1) = false := by rfl) :
    PE X (.Call (.Attribute (.Name x p1) "__init__" p2) (e :: es) [] pos) (tVeI X.K ta) := by
  refine ⟨fun pins s σ H Q I h => ?_⟩
  refine PySem.W.methodCall_KW (ld_glob I hg b.g ?_ hdb) hc
  refine PySem.W.method_cls I.kIn b.sp (PySem.W.cls_value I.kIn b.rd b.at_ (by decide +kernel) ?_)
  show wpAny _ _ (callWith pos (Value.builtin "ValueError.__init__") [] (backTo pos (starEach (e :: es) X.env)) []) _ _ _
  refine PyProof.Rows.callWith_method1 (thn (ha.run pos pins _ σ H _ (I.tok _) h) fun us s1 ⟨vs, H1, I1, r1, a, C, ws, ev, hl, T, ea, q⟩ => ?_) he hpl
  subst ev
  cases r1 with
  | @cons _ u0 _ ur ra rw' =>
    obtain rfl : u0 = Value.ref a := ra
    have hlen : ur.length ≤ sizeLine := by
      rw [← Paired.length rw', sizeLine_eq]
      omega
    exact oinit_ok T I1 ea hlen fun s' J => ⟨.non, H1, J, rfl, q⟩
end
structure ErrI (P : Program) (w : World) (K : PySem.W.Frag) (mg : Str → Option Value) (base : Heap) (x : Str) (C : Addr) (k : Nat) (ps : List Str) (f : Str) : Prop where
  T : OexC K C
  g : mg x = some (.ref C)
  ex : ∃ (fI : Addr) (fd : FuncData), PySem.W.findIn K (.ref C) "__init__" = some (some (.ref fI)) ∧ PySem.W.typeIn K (.ref fI) = some (.type "function") ∧ FnOk P w K mg base CX0 k fI fd ps (sp_xinit C f) ∧ Binds K fd ps []
section
variable {X : Cx} {e : Expr} {ta : TA} {x f : Str} {p pos pos2 : Pos} {C : Addr} {k : Nat} {ps : List Str} {W : WX}
theorem ps_raiseI (c : ErrI X.prog X.w X.K X.mg X.base x C k ps f) (hr : Room (k + 1) X.A) (hc : X.calm = true) (tk : Takes X W) (hg : Gl X x) (ha : PA X [e] ta) (hdb : (x == ("__debug__" : Str)) = false := by decide)
    (he : starEach (e :: []) X.env = (false, eval e X.env) :: starEach [] X.env := by rfl) (hpl : (backTo pos (starEach [] X.env)).any (·.1) = false := by rfl) :
    PS X (.Raise (some (.Call (.Name x p) [e] [] pos)) none pos2) (fun _ σ H => tMkO C (sp_xinit C f) [] ta σ H fun cls d H' => W cls d σ H') := by
  obtain ⟨fI, fd, h1, h2, F, hb⟩ := c.ex
  exact ps_raise hc tk (pmk_oex c.T h1 h2 F hr hb .nil (fun _ _ _ _ _ _ _ z => False.elim z) hg c.g ha hdb he hpl)
end
section
variable {K : PySem.W.Frag} {σ : L2.St} {H : Hp} {C : Addr} {f : Str} {v : V} {Q : XK} {sp : Sp} {tA : TA}
theorem s_mkO0 {dvs : List V} (h : tA σ H fun vs H1 => vs.length ≤ 1000 ∧ ∀ a, H1 a = none → sp (.ref a :: (vs ++ dvs)) (upd H1 a (exo a C none))
  (fun v H2 => v = .non ∧ ∃ (d : Addr) (fs : List (Str × V)), H2 a = some (exo a C (some d)) ∧ H2 d = some (exd d fs) ∧ H1 d = none ∧ Q (.ref C) (some d) (upd (del H2 a) d (.xd fs))) (fun _ _ _ => False)) : tMkO C sp dvs tA σ H Q := h
theorem s_mkO (q : ∀ d, H d = none → Q (.ref C) (some d) (upd H d (.xd [(f, v)]))) : [v].length ≤ 1000 ∧ ∀ a, H a = none → sp_xinit C f (.ref a :: ([v] ++ [])) (upd H a (exo a C none))
  (fun v H2 => v = .non ∧ ∃ (d : Addr) (fs : List (Str × V)), H2 a = some (exo a C (some d)) ∧ H2 d = some (exd d fs) ∧ H d = none ∧ Q (.ref C) (some d) (upd (del H2 a) d (.xd fs))) (fun _ _ _ => False) := by
  refine ⟨by simp, fun a ha => ⟨a, v, rfl, upd_same, fun dx hd ne => ⟨rfl, dx, [(f, v)], upd_same, ?_, ?_, ?_⟩⟩⟩
  · rw [upd_ne ne, upd_same]
  · rw [upd_ne ne] at hd
    exact hd
  · rw [upd_ne ne] at hd
    have e : upd (del (upd (upd (upd H a (exo a C none)) dx (exd dx [(f, v)])) a (exo a C (some dx))) a) dx (.xd [(f, v)]) = upd H dx (.xd [(f, v)]) := by
      funext b
      by_cases hb : b = dx
      · subst hb
        rw [upd_same, upd_same]
      · rw [upd_ne hb, upd_ne hb]
        by_cases ha' : b = a
        · subst ha'
          rw [del_same, ha]
        · rw [del_ne ha', upd_ne ha', upd_ne hb, upd_ne ha']
    rw [e]
    exact q dx hd
end
section
variable {K : PySem.W.Frag} {σ : L2.St} {H : Hp} {Q : VK} {G : Ends} {ta : TA} {to te : TE} {f : Str}
theorem s_veI (h : ta σ H fun vs H1 => ∃ (a C : Addr) (ws : List V), vs = .ref a :: ws ∧ ws.length ≤ 1000 ∧ OexC K C ∧ H1 a = some (exo a C none) ∧ Q .non H1) : tVeI K ta σ H Q := h
theorem s_ost (h : te σ H fun y H1 => to σ H1 fun x H2 => ∃ a C : Addr, x = .ref a ∧ OexC K C ∧ PySem.W.findIn K (.ref C) f = some none ∧
  ((H2 a = some (exo a C none) ∧ ∀ dx, H2 dx = none → dx ≠ a → G.nx σ (upd (upd H2 dx (exd dx [(f, y)])) a (exo a C (some dx)))) ∨
    ∃ (dx : Addr) (fs : List (Str × V)), H2 a = some (exo a C (some dx)) ∧ H2 dx = some (exd dx fs) ∧ fs.length ≤ 900 ∧ G.nx σ (upd H2 dx (exd dx ((f, y) :: fs))))) : tOst K f to te G σ H := h
end
/-- e.f, e the error that the suite holds -/
def tXf (K : PySem.W.Frag) (a : Addr) (cls : Value) (d : Option Addr) (f : Str) (te : TE) : TE := fun σ H Q => te σ H fun x H1 => x = .ref a ∧ ∃ (C dd : Addr) (fs : List (Str × V)) (v : V), cls = .ref C ∧ d = some dd ∧ H1 dd = some (.xd fs) ∧ fs.lookup f = some v ∧
  ExcC K C ∧ PySem.W.findIn K (.ref C) f = some none ∧ Q v H1
theorem s_xf {K : PySem.W.Frag} {σ : L2.St} {H : Hp} {Q : VK} {a : Addr} {cls : Value} {d : Option Addr} {f : Str} {te : TE} (h : te σ H fun x H1 => x = .ref a ∧ ∃ (C dd : Addr) (fs : List (Str × V)) (v : V), cls = .ref C ∧ d = some dd ∧ H1 dd = some (.xd fs) ∧ fs.lookup f = some v ∧
  ExcC K C ∧ PySem.W.findIn K (.ref C) f = some none ∧ Q v H1) : tXf K a cls d f te σ H Q := h
theorem pe_xfld {X : Cx} {f : Str} {a : Addr} {oe : Obj} {cls : Value} {d : Option Addr} {pn : List (Addr × Obj)} {e : Expr} {te : TE} {pos : Pos} (hz : Zc cls d oe) (hf : ∃ vs, oe.data = .fields vs) (he : PE (X.suite a ((a, oe) :: pn)) e te)
    (hb : attributeBase e f X.env (eval e X.env) = eval e X.env := by rfl) :
    PE (X.suite a ((a, oe) :: pn)) (.Attribute e f pos) (tXf X.K a cls d f te) := by
  refine ⟨fun pins s σ H Q I h => ?_⟩
  refine attr_of hb (thn (he.run pins s σ H _ I h) fun u s1 hh => ?_)
  obtain ⟨x, H1, I1, rx, ex, C, dd, fs, v, ec, ed, ea, l, T, hno, q⟩ := hh
  subst ex
  obtain rfl : u = Value.ref a := rx
  subst ec
  subst ed
  obtain ⟨ha, _⟩ := I1.pin (a, oe) (List.mem_append_left _ List.mem_cons_self)
  obtain ⟨vs, hd⟩ := hf
  have hx : ObjOk X.prog X.w H1 s1.heap dd (.xd fs) := I1.hok dd _ ea
  obtain ⟨mA, hns, hr⟩ := hx
  obtain ⟨od, ho, hl⟩ := lookIn_ns hns
  obtain ⟨u, hu, ru⟩ := RelO.some_of (v := v) (o := mA f) (by rw [← l]; exact hr f)
  have J : PySem.W.InstAt s1.heap a oe C (some od) := ⟨ha, hz.1, by unfold PySem.W.notCls; rw [hd] <;> rfl, by rw [hz.2]; exact ho⟩
  exact HandSPX.exc_get I1.kIn J T.hg T.hk T.hs (PySem.W.findObj_own T.hd hno rfl (by rw [hl, hu])) (handed_of ru) ⟨v, H1, I1.tok _, ru, q⟩
/-! ### isinstance of the error that a suite holds -/
def isOne (K : PySem.W.Frag) (D : Addr) (c : V) (b : Bool) : Prop := ∃ cv, (∀ u, RelV c u → u = cv) ∧ PySem.W.kitOne K (.ref D) cv = some b
def rIsX (K : PySem.W.Frag) (a : Addr) (cls : Value) (d : Option Addr) : List V → Hp → VK → Prop := fun xs H Q => ∃ (D : Addr) (c : V) (b : Bool), xs = [.ref a, c] ∧ cls = .ref D ∧ ExcC K D ∧
  (d = none ∨ ∃ dd fs, d = some dd ∧ H dd = some (.xd fs)) ∧
  (isOne K D c b ∨ ∃ tp vs, ∃ cvs : List Value, c = .ref tp ∧ SqT K H tp vs ∧ (∀ us, Vals vs us → us = cvs) ∧ PySem.W.kitAny K (.ref D) cvs = some b) ∧ Q (.bl b) H
theorem call_isX {X : Cx} {a : Addr} {oe : Obj} {cls : Value} {d : Option Addr} {pn : List (Addr × Obj)} (hz : Zc cls d oe) (hf : ∃ vs, oe.data = .fields vs) : CallR (X.suite a ((a, oe) :: pn)) (.builtin "isinstance") (rIsX X.K a cls d) := by
  intro pins s σ H xs us Q I r h
  obtain ⟨D, c, b, rfl, rfl, C, hd, hc, q⟩ := h
  cases r with
  | cons rx rr =>
    cases rr with
    | cons rt rr =>
      cases rr
      cases rx
      obtain ⟨hget, _⟩ := I.pin (a, oe) (List.mem_append.mpr (.inl List.mem_cons_self))
      obtain ⟨vs, hv⟩ := hf
      have J : ∃ od, PySem.W.InstAt s.heap a oe D od := by
        rcases hd with rfl | ⟨dd, fs, rfl, hx⟩
        · obtain ⟨oc, od, oda, osl⟩ := oe
          obtain ⟨h1, h2⟩ := hz
          dsimp only at h1 h2 hv
          subst h1 h2 hv
          exact ⟨none, hget, rfl, rfl, trivial⟩
        · have hx' := I.hok dd _ hx
          obtain ⟨mA, hns, hr⟩ := hx'
          obtain ⟨od, ho, hl⟩ := lookIn_ns hns
          exact ⟨some od, hget, hz.1, by unfold PySem.W.notCls; rw [hv] <;> rfl, by rw [hz.2]; exact ho⟩
      obtain ⟨od, J⟩ := J
      have Z := PySem.W.kitx_exc (K := X.K) (x := a) (ox := oe) (od := od) (C := D) (by obtain ⟨cd, hc, _⟩ := PySem.W.any_some C.hd; rw [hc]; rfl) C.hg C.hk C.hs C.ha C.hn C.ht C.hm
      rcases hc with ⟨cv, hcv, e⟩ | ⟨tp, ts, cvs, rfl, hq, hcs, e⟩
      · have ec := hcv _ rt
        subst ec
        exact PySem.W.kia_one Z I.kIn J e (fun z => nomatch z) fun tk => ⟨.bl b, H, I.kept (t' := tk) fun _ _ z => z, rfl, q⟩
      · cases rt
        obtain ⟨its, rv, ⟨o, ho, hc, n, hd'⟩, _⟩ := I.tuple hq
        have ec := hcs _ rv
        subst ec
        obtain ⟨oc, od', oda, osl⟩ := o
        dsimp only at hc hd'
        subst hc hd'
        exact PySem.W.kia_tup Z I.kIn J ho e (fun z => nomatch z) fun tk => ⟨.bl b, H, I.kept (t' := tk) fun _ _ z => z, rfl, q⟩
section
variable {K : PySem.W.Frag} {H : Hp} {F : List (V × D)} {M : List ME} {Q : VK} {v : V} {a C D : Addr} {b : Bool}
theorem isOne_ref (h : PySem.W.kitOne K (.ref D) (.ref C) = some b) : isOne K D (.ref C) b := ⟨.ref C, fun u r => r, h⟩
theorem isOne_ty {n : String} (h : PySem.W.kitOne K (.ref D) (.type n) = some b) : isOne K D (.ty n) b := ⟨.type n, fun u r => r, h⟩
theorem n_isX {c : V} (C : ExcC K D) (h : isOne K D c b) (q : Q (.bl b) H) : rIsX K a (.ref D) none [.ref a, c] H Q := ⟨D, c, b, rfl, rfl, C, .inl rfl, .inl h, q⟩
theorem n_isXd {c : V} {dd : Addr} {fs : List (Str × V)} (C : ExcC K D) (hd : H dd = some (.xd fs)) (h : isOne K D c b) (q : Q (.bl b) H) : rIsX K a (.ref D) (some dd) [.ref a, c] H Q := ⟨D, c, b, rfl, rfl, C, .inr ⟨dd, fs, rfl, hd⟩, .inl h, q⟩
theorem isA_refs {I : Hp} : ∀ {cs : List Addr} {vs : List V}, IsA I vs (cs.map Fs.D.ref) → vs = cs.map V.ref
  | [], _, h => by cases h; rfl
  | c :: cs, _, h => by
    cases h with
    | cons h1 h2 =>
      cases h1
      rw [isA_refs h2]
      rfl
theorem vals_refs : ∀ {cs : List Addr} {us : List Value}, Vals (cs.map V.ref) us → us = cs.map Value.ref
  | [], _, h => by cases h; rfl
  | c :: cs, _, h => by
    cases h with
    | cons h1 h2 =>
      have e : _ = Value.ref c := h1
      rw [vals_refs h2, e]
      rfl
theorem n_isXT {cs : List Addr} (w : Wf F H M) (ht : Rk F M v (.tup (cs.map Fs.D.ref))) (C : ExcC K D) (h : PySem.W.kitAny K (.ref D) (cs.map Value.ref) = some b) (q : Q (.bl b) H) : rIsX K a (.ref D) none [.ref a, v] H Q := by
  obtain ⟨I, Mc, w, ac, hF⟩ := w.ex
  obtain ⟨p, vs, rfl, hp, ha⟩ := ht.tup w ac hF
  have e := isA_refs ha
  subst e
  exact ⟨D, .ref p, b, rfl, rfl, C, .inl rfl, .inr ⟨p, _, _, rfl, .inl (.inl hp), fun us h => vals_refs h, h⟩, q⟩
theorem s_isXT {I : Hp} {M : List (Addr × HO)} {cs : List Addr} (w : W I H M) (ht : Is I v (.tup (cs.map Fs.D.ref))) (C : ExcC K D) (h : PySem.W.kitAny K (.ref D) (cs.map Value.ref) = some b) (q : Q (.bl b) H) : rIsX K a (.ref D) none [.ref a, v] H Q := by
  obtain ⟨p, vs, rfl, hp, ha⟩ := ht.tup_ex
  have e := isA_refs ha
  subst e
  exact ⟨D, .ref p, b, rfl, rfl, C, .inl rfl, .inr ⟨p, _, _, rfl, .inl (.inl (w.imm _ _ hp)), fun us h => vals_refs h, h⟩, q⟩
theorem isA_ofRefs {I : Hp} : ∀ (cs : List Addr), IsA I (cs.map V.ref) (cs.map Fs.D.ref)
  | [] => .nil
  | c :: cs => .cons (.ref c) (isA_ofRefs cs)
theorem kitAny_no {t : Value} : ∀ {cs : List Value}, (∀ c ∈ cs, PySem.W.kitOne K t c = some false) → PySem.W.kitAny K t cs = some false
  | [], _ => rfl
  | c :: cs, h => by
    unfold PySem.W.kitAny
    rw [h c List.mem_cons_self]
    exact kitAny_no fun d hd => h d (List.mem_cons_of_mem _ hd)
end
/-! facts of the classes -/
theorem kit_sub {K : PySem.W.Frag} {C D : Addr} (ic : PySem.W.isClsIn K C = true) (et : PySem.W.typeIn K (.ref C) = some (.type "type")) (sD : PySem.W.subIn K (.ref D) (.ref D) = some true) {b : Bool} (h : PySem.W.subIn K (.ref D) (.ref C) = some b) : PySem.W.kitOne K (.ref D) (.ref C) = some b := by
  have e2 : ((PySem.W.clsIn K C).isSome && PySem.W.typeIn K (.ref C) == some (.type "type")) = true := by
    have h2' : (PySem.W.clsIn K C).isSome = true := ic
    rw [h2', et] <;> rfl
  show (if (Value.ref D == Value.ref C) = true then some true else PySem.W.kitCls K (.ref D) (.ref C)) = some b
  by_cases q : D = C
  · subst q
    rw [if_pos (beq_self_eq_true _), ← h, sD]
  · rw [if_neg (fun z => q (Value.ref.inj (beq_iff_eq.mp z)))]
    show (if ((PySem.W.clsIn K C).isSome && PySem.W.typeIn K (.ref C) == some (.type "type")) = true then PySem.W.subIn K (.ref D) (.ref C) else none) = some b
    rw [if_pos e2]
    exact h
theorem kit_subT {K : PySem.W.Frag} {D : Addr} {n : String} (hk : PySem.W.kitMeta n = true) {b : Bool} (h : PySem.W.subIn K (.ref D) (.type n) = some b) : PySem.W.kitOne K (.ref D) (.type n) = some b := by
  have e : ¬ (Value.ref D == Value.type n) = true := fun h => by cases (beq_iff_eq.mp h)
  show (if (Value.ref D == Value.type n) = true then some true else PySem.W.kitCls K (.ref D) (.type n)) = some b
  rw [if_neg e]
  show (if PySem.W.kitMeta n = true then PySem.W.subIn K (.ref D) (.type n) else none) = some b
  rw [if_pos hk]
  exact h
theorem exm_sub {K : PySem.W.Frag} {C D : Addr} (ic : PySem.W.isClsIn K C = true) (et : PySem.W.typeIn K (.ref C) = some (.type "type")) (eb : PySem.W.subIn K (.ref C) (.type "BaseException") = some true) {b : Bool} (h : PySem.W.subIn K (.ref D) (.ref C) = some b) : PySem.W.exmOne K (.ref D) (.ref C) = some b := by
  have e2 : ((PySem.W.clsIn K C).isSome && PySem.W.typeIn K (.ref C) == some (.type "type")) = true := by
    have h2' : (PySem.W.clsIn K C).isSome = true := ic
    rw [h2', et] <;> rfl
  have e1 : (PySem.W.subIn K (.ref C) (.type "BaseException") == some true) = true := by rw [eb] <;> rfl
  show (if (PySem.W.subIn K (.ref C) (.type "BaseException") == some true) = true then (if ((PySem.W.clsIn K C).isSome && PySem.W.typeIn K (.ref C) == some (.type "type")) = true then PySem.W.subIn K (.ref D) (.ref C) else none) else none) = some b
  rw [if_pos e1, if_pos e2]
  exact h
/-! ### what lies on the heap as it is; lists of truths -/
section
variable {K : PySem.W.Frag} {H : Hp} {F : List (V × D)} {M : List ME} {Q : VK} {x y : V} {p : Addr} {o : HO}
theorem Wf.newRaw (w : Wf F H M) (hd : H p = none) : Wf F (upd H p o) (.raw p o :: M) := by
  obtain ⟨I, Mc, w, ac, hF⟩ := w.ex
  exact ⟨I, (p, o) :: Mc, w.newM hd, .cons .raw ac, hF⟩
theorem Wf.rawAt (w : Wf F H M) (h : .raw p o ∈ M) : H p = some o := by
  obtain ⟨I, Mc, w, ac, hF⟩ := w.ex
  obtain ⟨m, hm, c⟩ := ac.mem h
  cases c
  exact (w.mu _ hm).1
theorem isA_bools {I : Hp} : ∀ {bs : List Bool} {vs : List V}, IsA I vs (bs.map D.bl) → vs = bs.map V.bl
  | [], _, h => by cases h; rfl
  | c :: cs, _, h => by
    cases h with
    | cons h1 h2 =>
      cases h1
      rw [isA_bools h2]
      rfl
theorem dp_bools {K : PySem.W.Frag} : ∀ (bs : List Bool), DpAll K H (bs.map V.bl) (D.pds (bs.map D.bl))
  | [] => .nil
  | b :: bs => .cons (.bl b) (dp_bools bs)
theorem sh_bools (bs : List Bool) : SeqAt.shaped (D.pd (.lst (bs.map D.bl))) = true := by
  obtain ⟨h1, h2⟩ := pds_can (ds := bs.map D.bl) (k := 1) fun d hd => by
    obtain ⟨b, _, rfl⟩ := List.mem_map.mp hd
    exact ⟨by simp [D.pd, PyData.canLay0], by simp [D.pd, PyData.depth]⟩
  unfold SeqAt.shaped
  rw [show (D.pd (.lst (bs.map D.bl))).canLay0 = true by simp [D.pd, PyData.canLay0, h1], decide_eq_true (by simp only [D.pd, PyData.depth]; omega)]
  rfl
theorem eqv_bools (bs cs : List Bool) : PyData.eqv (D.pd (.lst (bs.map D.bl))) (D.pd (.lst (cs.map D.bl))) = true ↔ bs = cs := by
  simp only [D.pd, PyData.eqv]
  rw [pds_eqv (P := fun e => ∃ b, e = D.bl b)]
  · constructor
    · exact fun h => (List.map_inj_right (fun a b e => by injection e)).mp h
    · exact fun h => by rw [h]
  · intro d hd e he
    obtain ⟨b, _, rfl⟩ := List.mem_map.mp hd
    obtain ⟨c, rfl⟩ := he
    simp [D.pd, PyData.eqv]
  · intro e he
    obtain ⟨c, _, rfl⟩ := List.mem_map.mp he
    exact ⟨c, rfl⟩
theorem Wf.bools {bs : List Bool} (w : Wf F H M) (h : Rk F M x (.lst (bs.map D.bl))) : Dp K H x (D.pd (.lst (bs.map D.bl))) := by
  obtain ⟨I, Mc, w, ac, hF⟩ := w.ex
  obtain ⟨p, vs, rfl, hp, ha⟩ := h.lst w ac hF
  have e := isA_bools ha
  subst e
  exact .lst (.inl (.inl hp)) (dp_bools bs)
theorem n_neB {bs cs : List Bool} (w : Wf F H M) (hx : Rk F M x (.lst (bs.map D.bl))) (hy : Rk F M y (.lst (cs.map D.bl))) (q : Q (.bl (!decide (bs = cs))) H) : rNeU K x y H Q :=
  .inr ⟨_, _, w.bools hx, w.bools hy, sh_bools bs, sh_bools cs, by
    have h2 : PyData.eqv (D.pd (.lst (bs.map D.bl))) (D.pd (.lst (cs.map D.bl))) = decide (bs = cs) := by rw [Bool.eq_iff_iff, eqv_bools, decide_eq_true_iff]
    rw [h2]; exact q⟩
end
end Fs

namespace Fs
open PySem PySem.Spec PyProof.Rows L2
/-! ### a class whose __init__ may raise -/
structure MakX (P : Program) (w : World) (K : PySem.W.Frag) (mg : Str → Option Value) (base : Heap) (x : Str) (C : Addr) (k : Nat) (ps : List Str) (dvs : List V) (sp : Sp) : Prop where
  ex : ∃ (f : Addr) (fd : FuncData) (ds : List Value), Mk K C f ∧ FnOk P w K mg base (L2.CX P w) k f fd ps sp ∧ mg x = some (.ref C) ∧ Binds K fd ps ds ∧ Vals dvs ds
def MakeXQ (C : Addr) (sp : Sp) (E : XK) (Q : VK) (vs : List V) (H1 : Hp) : Prop := ∀ o d, H1 o = none → H1 d = none → d ≠ o → sp (.ref o :: vs) (upd (upd H1 d (.own o)) o (.ins C d [])) (fun v H2 => v = .non ∧ Q (.ref o) H2) E
def tMakeX (C : Addr) (sp : Sp) (dvs : List V) (W : WX) (t : TA) : TE := fun σ H Q => t σ H fun vs H1 => MakeXQ C sp (WE W σ) Q (vs ++ dvs) H1
theorem s_makeX {C : Addr} {sp : Sp} {dvs : List V} {W : WX} {t : TA} {σ : L2.St} {H : Hp} {Q : VK} (h : t σ H fun vs H1 => MakeXQ C sp (WE W σ) Q (vs ++ dvs) H1) : tMakeX C sp dvs W t σ H Q := h
section
variable {X : Cx} {x : Str} {C : Addr} {p pos : Pos} {e : Expr} {es : List Expr} {t : TA} {k : Nat} {ps : List Str} {dvs : List V} {sp : Sp} {W : WX}
theorem run_makeX {pins : List (Addr × Obj)} {σ : L2.St} {H : Hp} {s : Shared} {Q : VK} {us ds : List Value} {vs : List V} {f : Addr} {fd : FuncData} (m : Mk X.K C f) (ok : FnOk X.prog X.w X.K X.mg X.base (L2.CX X.prog X.w) k f fd ps sp) (room : Room (k + 1) X.A)
    (bd : Binds X.K fd ps ds) (dv : Vals dvs ds) (tk : Takes X W) (J : Inv X pins σ H s) (rv : Vals vs us) (q : MakeXQ C sp (WE W σ) Q (vs ++ dvs) H) : wpAny (model X.prog X.w) X.A (call (.ref C) us) (EP X pins σ Q) X.xe s := by
  have q0 := q (s.heap.objs.size + 1) s.heap.objs.size (J.hok.fresh (Nat.le_succ _)) (J.hok.fresh (Nat.le_refl _)) (Nat.ne_of_lt (Nat.lt_succ_self _))
  have J2 := Inv.made (C := C) J
  have rr : Vals (V.ref (s.heap.objs.size + 1) :: (vs ++ dvs)) (Value.ref (s.heap.objs.size + 1) :: (us ++ ds)) := .cons rfl (rv.append dv)
  have hlen : (Value.ref (s.heap.objs.size + 1) :: us ++ ds).length = ps.length := rr.length.symm.trans (ok.len _ _ _ _ q0)
  have run := ok.run (X.A.under (.builtin "type.__call__" ⟨.ref C :: us, []⟩)) X.stack _ _ ⟨Value.ref (s.heap.objs.size + 1) :: us, []⟩ _ _ _ _ (room.make C us []) (J2.env0.make C us []) (bd _ (Value.ref (s.heap.objs.size + 1) :: us) J2.kIn hlen) rr q0
  refine wpAny_call (make_map (f := f) J.kIn m.makes m.init (beq_iff_eq.mp m.fn) (codeAny_mono run fun r s' z => ?_))
  match r, z with
  | .error er, z => exact tk er s' (XE.of_call J2 (fun _ _ _ y => y) z)
  | .ok (.ret u), z =>
    obtain ⟨v, H', J3, r3, e3, q3⟩ := J2.after z
    subst e3
    exact ⟨r3, ⟨V.ref (s.heap.objs.size + 1), H', J3, rfl, q3⟩⟩
  | .ok .next, z => exact z.elim
  | .ok .brk, z => exact z.elim
  | .ok .cont, z => exact z.elim
theorem pe_mkX (c : MakX X.prog X.w X.K X.mg X.base x C k ps dvs sp) (hr : Room (k + 1) X.A) (hg : Gl X x) (tk : Takes X W) (ha : PA X (e :: es) t) (hdb : (x == ("__debug__" : Str)) = false := by decide)
    (he : starEach (e :: es) X.env = (false, eval e X.env) :: starEach es X.env := by rfl) (hpl : (backTo pos (starEach es X.env)).any (·.1) = false := by rfl) : PE X (.Call (.Name x p) (e :: es) [] pos) (tMakeX C sp dvs W t) := by
  obtain ⟨f, fd, ds, m, ok, g, bd, dv⟩ := c.ex
  exact ⟨fun pins s σ H Q J h => wpAny_Call_Name_kw (ld_glob J hg g (PySem.W.callWith_K (h₀ := X.base) J.ok.mod.kin m.kp (thn (ha.run pos pins s σ H _ J h) fun us s1 ⟨vs, H1, J1, rv, q⟩ => ⟨J1.kIn, run_makeX m ok hr bd dv tk J1 rv q⟩) he hpl) hdb)⟩
end
section
variable {K : PySem.W.Frag} {H : Hp} {F : List (V × D)} {M M' : List ME} {Q : VK} {v : V} {p C : Addr} {d : D} {vs : List V} {sp : Sp} {E : XK}
/-- the new instance, its dict aside -/
theorem n_makeX (w : Wf F H M) (q : ∀ o H', Wf F H' (.mi o C [] :: M) → sp (.ref o :: vs) H' (fun v H2 => v = .non ∧ Q (.ref o) H2) E) : MakeXQ C sp E Q vs H := fun o dx ho hd ne => by
  obtain ⟨I, Mc, w, ac, hF⟩ := w.ex
  have w1 : W I (upd H dx (.own o)) Mc := w.more (same_new hd)
  have h1 : upd H dx (.own o) o = none := by rw [upd_ne ne.symm]; exact ho
  exact q o _ ⟨I, (o, .ins C dx []) :: Mc, w1.newM h1, .cons (.mi .nil) ac, hF⟩
theorem n_isXTd {a D dd : Addr} {b : Bool} {fs : List (Str × V)} {cs : List Addr} (w : Wf F H M) (ht : Rk F M v (.tup (cs.map Fs.D.ref))) (C : ExcC K D) (hd : H dd = some (.xd fs)) (h : PySem.W.kitAny K (.ref D) (cs.map Value.ref) = some b) (q : Q (.bl b) H) : rIsX K a (.ref D) (some dd) [.ref a, v] H Q := by
  obtain ⟨I, Mc, w, ac, hF⟩ := w.ex
  obtain ⟨p, vs, rfl, hp, ha⟩ := ht.tup w ac hF
  have e := isA_refs ha
  subst e
  exact ⟨D, .ref p, b, rfl, rfl, C, .inr ⟨dd, fs, rfl, hd⟩, .inr ⟨p, _, _, rfl, .inl (.inl hp), fun us h => vals_refs h, h⟩, q⟩
theorem knA_refs {F : List (V × Fs.D)} : ∀ (cs : List Addr), KnA F (cs.map V.ref) (cs.map Fs.D.ref)
  | [] => .nil
  | c :: cs => .cons (.ref c) (knA_refs cs)
theorem Wf.frzK {kvs : List (Key × D)} (w : Wf F H M) (r : Rem M (.dk p kvs) M') : Wf ((.ref p, .dict) :: F) H M' := by
  obtain ⟨I, Mc, w, a, hF⟩ := w.ex
  obtain ⟨M1, m, M2, rfl, h1, h2⟩ := a.rem r
  cases h1 with
  | dk b =>
    refine ⟨_, _, w.frz, h2.mono w.frzS, fun f hf => ?_⟩
    rcases List.mem_cons.mp hf with rfl | hf
    · exact .dct upd_same
    · exact (hF f hf).mono w.frzS
end
theorem putD_new {f : Str} {d : D} : ∀ {fs : List (Str × D)}, f ∉ fs.map (·.1) → putD f d fs = fs ++ [(f, d)]
  | [], _ => rfl
  | (g, x) :: r, h => by
    have e1 : ¬ g = f := fun e => h (by rw [e]; exact List.mem_cons_self)
    have e2 : f ∉ r.map (·.1) := fun e => h (List.mem_cons_of_mem _ e)
    unfold putD
    rw [if_neg e1, putD_new e2]
    rfl
/-! ### == of two lists of the same values, of two empty dicts -/
def plainV : V → Bool
  | .non => true | .bl _ => true | .int _ => true | .str _ => true | .ref _ => true
  | _ => false
theorem eqAt_id {A : Around} {s : Shared} {v : V} {u u' : Value} (r : RelV v u) (r' : RelV v u') (f : plainV v = true) : SeqAt.EqAt A s u u' true := by
  cases v with
  | ref a =>
    cases (show u = Value.ref a from r)
    cases (show u' = Value.ref a from r')
    exact SeqAt.EqAt.same _
  | non => exact eqAt_same r r' rfl
  | bl b => exact eqAt_same r r' rfl
  | int i => exact eqAt_same r r' rfl
  | str x => exact eqAt_same r r' rfl
  | _ => cases f
def rEqId (K : PySem.W.Frag) : R2 := fun x y H Q => ∃ a b xs, x = .ref a ∧ y = .ref b ∧ SqL K H a xs ∧ SqL K H b xs ∧ (∀ v ∈ xs, plainV v = true) ∧ Q (.bl true) H
def rEqU2 (K : PySem.W.Frag) : R2 := fun x y H Q => rEqU K x y H Q ∨ (rEqId K x y H Q ∨ rEqDA x y H Q)
section
variable {X : Cx}
theorem op_eqId (hu : X.A.units + 64 < cLine) : OpR X (compareOp .Eq) (rEqId X.K) := by
  intro pins s σ H x y v u Q I rx ry h
  obtain ⟨a, b, xs, rfl, rfl, ha, hb, hf, q⟩ := h
  obtain rfl : v = Value.ref a := rx
  obtain rfl : u = Value.ref b := ry
  obtain ⟨it, ra, ⟨o, n, ho, hc, _, hd⟩, _⟩ := I.list ha
  obtain ⟨jt, rb, ⟨o2, n2, ho2, hc2, _, hd2⟩, _⟩ := I.list hb
  have l1 := ra.length
  have l2 := rb.length
  have hsz : it.toArray.size = jt.toArray.size := by simp; omega
  refine SeqAt.eq_listAt (e := fun _ => true) ⟨o, ho, hc, n, hd⟩ ⟨o2, ho2, hc2, n2, hd2⟩ hsz (by omega) (fun j h1 h2 => ?_) ?_
  · have hj : j < xs.length := by
      simp at h1
      omega
    have hx : xs[j]? = some xs[j] := List.getElem?_eq_getElem hj
    obtain ⟨u1, e1, r1⟩ := ra.get hx
    obtain ⟨u2, e2, r2⟩ := rb.get hx
    have q1 : it.toArray[j] = u1 := by
      have := List.getElem?_eq_some_iff.mp e1
      simpa using this.2
    have q2 : jt.toArray[j] = u2 := by
      have := List.getElem?_eq_some_iff.mp e2
      simpa using this.2
    rw [q1, q2]
    exact eqAt_id r1 r2 (hf _ (List.getElem_mem hj))
  · have e : (List.range it.toArray.size).all (fun _ => true) = true := by simp
    rw [e]
    exact ⟨.bl true, H, I, rfl, q⟩
theorem uo_eq2 (hu : X.A.units + 64 < cLine) : OpR X (compareOp .Eq) (rEqU2 X.K) := opOr (uo_eq hu) (opOr (op_eqId hu) (op_eq_dictA (by omega)))
end
theorem k_eq2 {X : Cx} {K : PySem.W.Frag} (h : X.K = K) (hu : X.A.units + 64 < cLine) : OpR X (compareOp .Eq) (rEqU2 K) := h ▸ uo_eq2 hu
/-- a thing of which there is but one value -/
def rigid : D → Option V
  | .non => some .non
  | .bl b => some (.bl b)
  | .int i => some (.int i)
  | .str x => some (.str x)
  | .ref a => some (.ref a)
  | _ => none
theorem Is.rigid {I : Hp} {v u : V} {d : D} (h : Is I v d) (e : rigid d = some u) : v = u := by
  cases h <;> first | (cases e; rfl) | cases e
theorem IsA.rigid {I : Hp} : ∀ {ds : List D} {vs us : List V}, IsA I vs ds → ds.map Fs.rigid = us.map some → vs = us
  | [], _, [], h, _ => by cases h; rfl
  | [], _, _ :: _, _, e => by cases e
  | d :: ds, _, [], _, e => by cases e
  | d :: ds, _, u :: us, h, e => by
    cases h with
    | cons h1 h2 =>
      injection e with e1 e2
      rw [h1.rigid e1, IsA.rigid h2 e2]
theorem rigid_plain {d : D} {v : V} (e : rigid d = some v) : plainV v = true := by
  cases d <;> first | (cases e; rfl) | cases e
section
variable {K : PySem.W.Frag} {H : Hp} {F : List (V × D)} {M : List ME} {Q : VK} {x y : V} {ds : List D}
theorem n_eqId (w : Wf F H M) (hx : Rk F M x (.lst ds)) (hy : Rk F M y (.lst ds)) (hr : ∀ d ∈ ds, ∃ v, rigid d = some v) (q : Q (.bl true) H) : rEqU2 K x y H Q := by
  obtain ⟨I, Mc, w, a, hF⟩ := w.ex
  obtain ⟨p, vs, rfl, hp, h1⟩ := hx.lst w a hF
  obtain ⟨p', vs', rfl, hp', h2⟩ := hy.lst w a hF
  have ex : ∃ us : List V, ds.map rigid = us.map some := by
    clear hx hy h1 h2
    induction ds with
    | nil => exact ⟨[], rfl⟩
    | cons d ds ih =>
      obtain ⟨us, e⟩ := ih fun d hd => hr d (List.mem_cons_of_mem _ hd)
      obtain ⟨v, ev⟩ := hr d List.mem_cons_self
      exact ⟨v :: us, by rw [List.map_cons, List.map_cons, e, ev]⟩
  obtain ⟨us, e⟩ := ex
  have e1 := h1.rigid e
  have e2 := h2.rigid e
  subst e1
  subst e2
  refine .inr (.inl ⟨p, p', _, rfl, rfl, .inl (.inl hp), .inl (.inl hp'), fun v hv => ?_, q⟩)
  have : some v ∈ ds.map rigid := by rw [e]; exact List.mem_map_of_mem hv
  obtain ⟨d, _, hd⟩ := List.mem_map.mp this
  exact rigid_plain hd
theorem n_eqDict {a : Addr} (w : Wf F H M) (h : .raw a (.dK []) ∈ M) (q : Q (.bl true) H) : rEqU2 K (.ref a) (.ref a) H Q :=
  .inr (.inr ⟨a, a, [], [], rfl, rfl, w.rawAt h, w.rawAt h, rfl, fun _ h => (nomatch h), q⟩)
theorem n_eqTD {d : D} (w : Wf F H M) (hx : Rk F M x d) (hy : Rk F M y d) (n : NB 60 d) (q : Q (.bl true) H) : rEqU2 K x y H Q := .inl (n_eqT w hx hy n q)
end
/-- a thing of a known kind: by itself, or by a fact of the dict that it is -/
def TyF (F : List (V × D)) (d : D) : Prop := Ty d ∨ ∃ a, d = .ref a ∧ (V.ref a, D.dict) ∈ F
theorem TyF.more {F : List (V × D)} {d : D} {f : V × D} (h : TyF F d) : TyF (f :: F) d := h.elim .inl fun ⟨a, e, m⟩ => .inr ⟨a, e, List.mem_cons_of_mem _ m⟩
theorem Ty.rk {F : List (V × D)} {M : List ME} {v : V} {d : D} (t : Ty d) (h : Kn F v d) : Rk F M v d := Rk.of h fun q => by
  obtain ⟨a, e⟩ := t
  rcases q with ⟨n, rfl⟩ | ⟨n, rfl⟩ <;> cases e
theorem TyF.go {F : List (V × D)} {H : Hp} {M : List ME} {v : V} {d : D} (w : Wf F H M) (h : Kn F v d) (t : TyF F d) : ∃ e, Ty e ∧ Rk F M v e ∧ e.whole = d.whole := by
  rcases t with t | ⟨a, rfl, m⟩
  · exact ⟨d, t, t.rk h, rfl⟩
  · obtain ⟨I, Mc, w, ac, hF⟩ := w.ex
    have e : v = .ref a := (h.is hF).ref_eq
    subst e
    exact ⟨.dict, ⟨_, rfl⟩, .mem m, rfl⟩
end Fs

namespace Fs
open PySem PySem.Spec PyProof.Rows L2
/-- a tuple that the written part holds -/
theorem sqT_of {K : PySem.W.Frag} {H : Hp} {a : Addr} {td : Option Addr} {its : List Value} {n : Nat} {sl : Array (Option Value)} {xs : List V} (l : K.lookup a = some ⟨.type "tuple", td, .seq its.toArray n, sl⟩) (r : Vals xs its) (hz : its.length ≤ 1000) : SqT K H a xs :=
  .inr ⟨_, _, _, l, rfl, rfl, by rw [List.size_toArray, sizeLine_eq]; omega, by simpa using r⟩
section
variable {K : PySem.W.Frag} {H : Hp} {Q : VK} {x : V} {a : Addr} {xs : List V} {b : Bool}
theorem s_inT (h : SqT K H a xs) (f : flatV x = true) (g : xs.all flatV = true) (e : inV x xs = b) (q : Q (.bl b) H) : rIn K false x (.ref a) H Q := ⟨a, xs, rfl, .inr h, f, g, by rw [e]; exact q⟩
end
section
variable {K : PySem.W.Frag} {H : Hp} {F : List (V × D)} {M : List ME} {Q : VK} {v : V} {C a : Addr} {f : Str} {fs : List (Str × D)} {L : List Str} {ds : List D} {i : Int}
theorem n_fldr (w : Wf F H M) (h : Rk F M v (.obj C fs)) (hc : Cls K C) (hn : ∀ f ∈ L, NoAttr K C f) (hf : f ∈ L) (hd : fs.lookup f = some (.ref a)) (q : Q (.ref a) H) : FldQ K f Q v H := n_fld w h hc hn hf hd fun u w => by rw [w.ref0.1]; exact q
theorem n_ixTr (w : Wf F H M) (h : Rk F M v (.tup ds)) (hd : atI ds i = some (.ref a)) (q : Q (.ref a) H) : rIx K v (.int i) H Q := n_ixT w h hd fun u w => by rw [w.ref0.1]; exact q
theorem n_ixLr (w : Wf F H M) (h : Rk F M v (.lst ds)) (hd : atI ds i = some (.ref a)) (q : Q (.ref a) H) : rIx K v (.int i) H Q := n_ixL w h hd fun u w => by rw [w.ref0.1]; exact q
end
theorem k_slT {X : Cx} {K : PySem.W.Frag} (h : X.K = K) : SlR X (rSlT K) := h ▸ sl_tup
theorem n_slT {K : PySem.W.Frag} {H : Hp} {F : List (V × D)} {M : List ME} {Q : VK} {x : V} {ds : List D} {lo hi : Option Int} (w : Wf F H M) (h : Rk F M x (.tup ds)) (hn : ¬ (HT.sIx ds.length 0 lo = 0 ∧ HT.sIx ds.length ds.length hi = ds.length)) (q : ∀ p H', Wf ((.ref p, .tup (cutD ds lo hi)) :: F) H' M → Q (.ref p) H') : rSlT K x lo hi H Q := by
  obtain ⟨I, Mc, w0, ac, hF⟩ := w.ex
  obtain ⟨p, vs, rfl, hp, ha⟩ := h.tup w0 ac hF
  refine ⟨p, vs, rfl, .inl (.inl hp), by rw [ha.length]; exact hn, fun p' hp' => q p' _ (w.newT hp' fun I1 Mc1 w1 a1 hF1 => ?_)⟩
  obtain ⟨p2, vs2, e, hp2, ha2⟩ := h.tup w1 a1 hF1
  cases e
  rw [hp] at hp2
  cases hp2
  exact ha2.cut lo hi
section
variable {K : PySem.W.Frag} {H : Hp} {F : List (V × D)} {M : List ME} {Q : VK} {r : V} {p : Addr} {l : Int} {ds : List D}
/-- a tuple of a number and a list that may be changed, as it is now -/
theorem Wf.deep2 (w : Wf F H M) (h : Rk F M r (.tup [.int l, .ref p])) (hm : ME.ml p ds ∈ M) : Is H r (.tup [.int l, .lst ds]) := by
  obtain ⟨I, Mc, w, ac, hF⟩ := w.ex
  obtain ⟨t, vs, rfl, ht, ha⟩ := h.tup w ac hF
  have hl : Is H (.ref p) (.lst ds) := (Rk.ml (F := F) hm).rd w ac hF
  cases ha with
  | cons h1 ha =>
    cases ha with
    | cons h2 ha =>
      cases ha
      cases h1
      cases h2
      exact .tup ht (.cons (.int l) (.cons hl .nil))
/-- .. and for good -/
theorem Wf.upT (w : Wf F H M) (h : Kn F r (.tup [.int l, .ref p])) (h2 : Kn F (.ref p) (.lst ds)) : Wf ((r, .tup [.int l, .lst ds]) :: F) H M := by
  obtain ⟨I, Mc, w, ac, hF⟩ := w.ex
  have e := h.is hF
  have e2 := h2.is hF
  refine ⟨I, Mc, w, ac, fun f hf => ?_⟩
  rcases List.mem_cons.mp hf with rfl | hf
  · cases e with
    | tup ht ha =>
      cases ha with
      | cons h1 ha =>
        cases ha with
        | cons h2 ha =>
          cases ha
          cases h1
          cases h2
          exact .tup ht (.cons (.int l) (.cons e2 .nil))
  · exact hF f hf
end
end Fs

namespace Fs
open PySem PySem.Spec PyProof.Rows L2
theorem k_all {X : Cx} {K : PySem.W.Frag} (h : X.K = K) (hc : X.calm = true) : CallR X (.builtin "all") (rAll K) := h ▸ cr_all hc
theorem k_any {X : Cx} {K : PySem.W.Frag} (h : X.K = K) (hc : X.calm = true) : CallR X (.builtin "any") (rAny K) := h ▸ cr_any hc
section
variable {K : PySem.W.Frag} {H : Hp} {F : List (V × D)} {M M' : List ME} {Q : VK} {v : V} {p : Addr} {ds : List D} {bs : List Bool} {b : Bool}
theorem IsA.bls {I : Hp} : ∀ {bs : List Bool} {vs : List V}, IsA I vs (bs.map D.bl) → vs = bs.map V.bl
  | [], _, .nil => rfl
  | _ :: _, _, .cons h a => by
    cases h
    rw [IsA.bls a]
    rfl
theorem n_all (w : Wf F H M) (h : Rk F M v (.lst (bs.map D.bl))) (hb : bs.all id = b) (q : Q (.bl b) H) : rAll K [v] H Q := by
  obtain ⟨I, Mc, w, a, hF⟩ := w.ex
  obtain ⟨p, vs, rfl, hp, c⟩ := h.lst w a hF
  have e := c.bls
  subst e
  exact ⟨p, bs, rfl, .inl (.inl hp), by rw [hb]; exact q⟩
theorem n_any (w : Wf F H M) (h : Rk F M v (.lst (bs.map D.bl))) (hb : bs.any id = b) (q : Q (.bl b) H) : rAny K [v] H Q := by
  obtain ⟨I, Mc, w, a, hF⟩ := w.ex
  obtain ⟨p, vs, rfl, hp, c⟩ := h.lst w a hF
  have e := c.bls
  subst e
  exact ⟨p, bs, rfl, .inl (.inl hp), by rw [hb]; exact q⟩
theorem IsA.dropLast {I : Hp} : ∀ {vs : List V} {ds : List D}, IsA I vs ds → IsA I vs.dropLast ds.dropLast
  | _, _, .nil => .nil
  | _, _, .cons _ .nil => .nil
  | _, _, .cons h (.cons h' a) => .cons h (IsA.dropLast (.cons h' a))
theorem n_pop (w : Wf F H M) (f : Foc M (.ml p ds) M' (.ml p ds.dropLast)) (hz : 0 < ds.length) (q : ∀ y H', Wf F H' M' → Q y H') : rPop (.ref p) [] H Q := by
  obtain ⟨I, Mc, w, a, hF⟩ := w.ex
  obtain ⟨M1, m, M2, rfl, h3, h4⟩ := a.foc f
  cases h3 with
  | @ml _ vs _ b =>
    have h2 : vs.length - 1 < vs.length := by have := b.length; omega
    exact ⟨p, vs, _, rfl, rfl, w.at, List.getElem?_eq_getElem h2, q _ _ ⟨I, _, w.put, h4 I _ (Same.refl _) (.ml b.dropLast), hF⟩⟩
end
end Fs

namespace Fs
open PySem PySem.Spec PyProof.Rows L2
local macro_rules | `(tactic| wtm_at "is") => `(tactic| first | assumption | exact Is.int _ | exact Is.bl _ | exact Is.non | exact Is.str _ | ((refine' Is.mono ?s ?h); (case s => assumption); (case h => wtm_at "is")))
local macro_rules | `(tactic| wtm_at "isa") => `(tactic| first | exact IsA.nil | ((refine' IsA.cons ?x ?y); (case x => wtm_at "is"); (case y => wtm_at "isa")) | assumption)
local macro_rules | `(tactic| wtm_at "lst") => `(tactic| first | assumption | exact W.at0 (by assumption) | exact W.at1 (by assumption) | exact W.at2 (by assumption) | ((refine' W.imm ?w _ _ ?h); (case w => assumption); (case h => assumption)))
local macro_rules | `(tactic| wtm_at "inv") => `(tactic| (intro u hu; first | (have e := Is.int_eq hu; subst e) | (have e := Is.bl_eq hu; subst e) | (have e := Is.non_eq hu; subst e) | (have e := Is.str_eq hu; subst e) | (have e := Is.ref_eq hu; subst e) | skip))
local macro_rules | `(tactic| wtm_at "e1") => `(tactic| first
  | (with_reducible refine' s_var ?h ?_); (case h => exact rfl)
  | with_reducible refine s_c ?_
  | with_reducible refine s_op ?_
  | with_reducible refine s_cons ?_
  | with_reducible refine s_nil ?_
  | with_reducible refine s_I0 ?_
  | with_reducible refine s_add ?_
  | with_reducible refine s_U ?_
  | with_reducible refine s_un ?_
  | with_reducible refine s_test ?_
  | with_reducible refine s_B ?_
  | with_reducible refine s_k ?_
  | with_reducible refine s_call ?_
  | with_reducible refine s_callS ?_
  | with_reducible refine s_callN ?_
  | with_reducible refine s_makeX ?_
  | with_reducible refine s_cb ?_
  | with_reducible refine s_not ?_
  | with_reducible refine s_and ?_
  | with_reducible refine s_or ?_
  | with_reducible refine s_andV ?_
  | with_reducible refine s_orV ?_
  | with_reducible refine s_notV ?_
  | with_reducible refine s_if ?_
  | with_reducible refine s_chain ?_
  | with_reducible refine s_isN ?_
  | with_reducible refine s_notN ?_
  | with_reducible refine s_tup ?_
  | with_reducible refine s_lst ?_
  | with_reducible refine s_fldQ ?_
  | with_reducible refine s_make ?_
  | with_reducible refine s_makeK ?_
  | with_reducible refine s_meth ?_
  | with_reducible refine s_rev ?_
  | with_reducible refine s_sl ?_
  | with_reducible refine s_noP ?_
  | with_reducible refine s_part ?_
  | with_reducible refine s_part' ?_
  | with_reducible refine s_lcc ?_
  | with_reducible refine s_yes ?_
  | with_reducible refine s_abs ?_
  | with_reducible refine s_intB ?_
  | with_reducible refine s_intI ?_
  | with_reducible refine s_min2 ?_
  | with_reducible refine s_max2 ?_
  | with_reducible refine s_ipI ?_
  | ((with_reducible refine' s_ixT (by assumption) ?h ?d ?_); (case h => wtm_at "is"); (case d => exact rfl); wtm_at "inv")
  | ((with_reducible refine' s_ixL (by assumption) ?h ?d ?_); (case h => wtm_at "is"); (case d => exact rfl); wtm_at "inv")
  | ((with_reducible refine' s_ixM ?h ?d ?_); (case h => wtm_at "lst"); (case d => exact rfl))
  | ((with_reducible refine' s_ixLM ?h ?d ?_); (case h => wtm_at "lst"); (case d => exact rfl))
  | ((with_reducible refine' s_fldI (by assumption) ?h ?c ?n ?f ?d ?_); (case h => wtm_at "is"); (case c => exact OwnC.cl (by assumption)); (case n => assumption); (case f => decide); (case d => exact rfl); wtm_at "inv")
  | ((with_reducible refine' s_lenT (by assumption) ?h ?_); (case h => wtm_at "is"))
  | ((with_reducible refine' s_lenL (by assumption) ?h ?_); (case h => wtm_at "is"))
  | ((with_reducible refine' s_lenM ?h ?_); (case h => wtm_at "lst"))
  | ((with_reducible refine' s_I ?c ?_); (case c => exact ⟨⟨by decide, by decide, by decide⟩, by decide⟩))
  | ((with_reducible refine' s_eq ?h ?_); (case h => exact rfl))
  | ((with_reducible refine' s_ne ?h ?_); (case h => exact rfl))
  | ((with_reducible refine' s_isi (by assumption) ?h ?e ?k ?_); (case h => wtm_at "is"); (case e => exact rfl); (case k => first | exact kit_ii | exact kit_ib | exact kit_bi | exact kit_bb | exact kit_tt | exact kit_ll | decide +kernel)))
local macro_rules | `(tactic| wtm_at "s1") => `(tactic| first
  | with_reducible refine s_seq ?_
  | with_reducible refine s_asg ?_
  | with_reducible refine s_gname ?_
  | with_reducible refine s_ret ?_
  | with_reducible refine s_ifS ?_
  | with_reducible refine s_drop ?_
  | with_reducible refine s_next ?_
  | with_reducible refine s_par ?_
  | with_reducible refine s_par2 ?_
  | with_reducible refine s_for ?_
  | with_reducible refine s_bm ?_
  | with_reducible refine s_bm0 ?_
  | with_reducible refine s_gsub ?_
  | with_reducible refine s_sfld ?_
  | with_reducible refine s_augS ?_
  | ((with_reducible refine' s_setW0 (by assumption) ?j ?_); (case j => exact rfl); (intro H' w'))
  | ((with_reducible refine' s_setW1 (by assumption) ?j ?_); (case j => exact rfl); (intro H' w'))
  | ((with_reducible refine' s_tyL ?h ?_); (case h => wtm_at "lst"))
  | with_reducible refine s_gnil ?_
  | with_reducible refine s_gcons ?_
  | with_reducible refine s_retN ?_
  | with_reducible refine s_rng1 ?_
  | with_reducible refine s_zip ?_
  | ((with_reducible refine' s_aug ?h ?_); (case h => exact rfl))
  | with_reducible refine s_iL ?_
  | with_reducible refine s_iT ?_
  | with_reducible refine s_cnt ?_
  | with_reducible refine s_brk ?_)
local macro_rules | `(tactic| wtm_at "b1") => `(tactic| first
  | with_reducible refine iteT ?_
  | with_reducible refine iteF ?_
  | with_reducible refine s_iteN ?_
  | with_reducible refine s_intN ?_
  | with_reducible refine s_refN ?_
  | with_reducible refine s_nonN ?_
  | ((with_reducible refine s_iteIp ?h ?_); (case h => exact rfl)))
local macro_rules | `(tactic| wtm_at "o1") => `(tactic| first
  | ((with_reducible refine' s_mul ?c ?_); (case c => exact cm64 (by omega) (by omega) (by omega) (by omega)))
  | ((with_reducible refine' s_I ?c ?_); (case c => first | exact cd64 (by omega) (by omega) | (show (0 : Int) < _; omega) | exact ⟨⟨by decide, by decide, by decide⟩, by decide⟩))
  | with_reducible refine s_iteIp (by omega) ?_
  | with_reducible refine s_iteIn (by omega) ?_
  | with_reducible refine s_iteDp (by omega) ?_
  | with_reducible refine s_iteDn (by omega) ?_)
local macro_rules | `(tactic| wtm_at "go") => `(tactic| repeat (first | wtm_at "e1" | wtm_at "s1" | wtm_at "b1"))
local macro_rules | `(tactic| wtm_at "goo") => `(tactic| repeat (first | wtm_at "e1" | wtm_at "s1" | wtm_at "b1" | wtm_at "o1"))
local macro_rules | `(tactic| wtm_at "st") => `(tactic| (wtm_at "s1"; wtm_at "s1"))
local macro_rules | `(tactic| wtm_at "fork") => `(tactic| first
  | with_reducible refine s_iteI (fun _ => ?_) (fun _ => ?_)
  | with_reducible refine s_iteD (fun _ => ?_) (fun _ => ?_)
  | with_reducible refine s_ite (fun _ => ?_) (fun _ => ?_))
local macro_rules | `(tactic| wtm_at "mem") => `(tactic| first | with_reducible exact List.mem_cons_self | assumption | ((with_reducible refine' List.mem_cons_of_mem _ ?h); (case h => wtm_at "mem")))
local macro_rules | `(tactic| wtm_at "kn") => `(tactic| first | with_reducible exact Kn.int _ | with_reducible exact Kn.bl _ | with_reducible exact Kn.str _ | with_reducible exact Kn.non | ((refine' Kn.mem ?h); (case h => wtm_at "mem")) | assumption | exact Kn.ty _ | exact Kn.ref _)
local macro_rules | `(tactic| wtm_at "kn0") => `(tactic| first | with_reducible exact Kn.int _ | with_reducible exact Kn.bl _ | with_reducible exact Kn.str _ | with_reducible exact Kn.non | ((refine' Kn.mem ?h); (case h => wtm_at "mem")) | assumption | with_reducible exact Kn.ty _)
local macro_rules | `(tactic| wtm_at "kna0") => `(tactic| first | exact KnA.nil | ((refine' KnA.cons ?x ?y); (case x => wtm_at "kn0"); (case y => wtm_at "kna0")))
local macro_rules | `(tactic| wtm_at "kna") => `(tactic| first | exact KnA.nil | ((refine' KnA.cons ?x ?y); (case x => wtm_at "kn"); (case y => wtm_at "kna")))
local macro_rules | `(tactic| wtm_at "rk") => `(tactic| first | with_reducible exact Rk.int _ | with_reducible exact Rk.bl _ | with_reducible exact Rk.str _ | with_reducible exact Rk.non | ((refine' Rk.mem ?h); (case h => wtm_at "mem")) | ((with_reducible refine' Rk.ml ?h); (case h => wtm_at "mem")) | ((with_reducible refine' Rk.mi ?h); (case h => wtm_at "mem")) | wtm_at "rkM")
local macro_rules | `(tactic| wtm_at "rkF") => `(tactic| first | assumption | ((with_reducible refine' Rk.moreF ?h); (case h => wtm_at "rkF")))
local macro_rules | `(tactic| wtm_at "rkM") => `(tactic| first | wtm_at "rkF" | ((with_reducible refine' Rk.more ?h); (case h => wtm_at "rkM")))
local macro_rules | `(tactic| wtm_at "foc") => `(tactic| first | with_reducible exact Foc.here | ((with_reducible refine' Foc.there ?h); (case h => wtm_at "foc")))
local macro_rules | `(tactic| wtm_at "rem") => `(tactic| first | with_reducible exact Rem.here | ((with_reducible refine' Rem.there ?h); (case h => wtm_at "rem")))
local macro_rules | `(tactic| wtm_at "ks") => `(tactic| first | with_reducible exact KS.refl | with_reducible exact KS.nil | ((with_reducible refine' KS.cons ?x ?y); (case x => wtm_at "kn"); (case y => wtm_at "ks")) | ((with_reducible refine' KS.drop ?h); (case h => wtm_at "ks")))
local macro_rules | `(tactic| wtm_at "sl") => `(tactic| first | with_reducible exact List.Sublist.refl _ | with_reducible exact List.nil_sublist _ | ((with_reducible refine' List.Sublist.cons_cons _ ?h); (case h => wtm_at "sl")) | ((with_reducible refine' List.Sublist.cons _ ?h); (case h => wtm_at "sl")))
local macro_rules | `(tactic| wtm_at "wf") => `(tactic| first | assumption | ((refine' Wf.sub ?w ?k ?s); (case w => assumption); (case k => wtm_at "ks"); (case s => wtm_at "sl")))
local macro_rules | `(tactic| wtm_at "lc") => `(tactic| (simp only [List.length_cons, List.length_nil, List.length_map, List.length_append, List.length_singleton, List.length_reverse, List.length_set, List.length_replicate, List.length_range] at *; omega))
local macro_rules | `(tactic| wtm_at "c1") => `(tactic| fail)
local macro_rules | `(tactic| wtm_at "c0") => `(tactic| fail)
local macro_rules | `(tactic| wtm_at "n2") => `(tactic| first
  | with_reducible refine s_dget ?_
  | with_reducible refine s_din ?_
  | with_reducible refine s_dnotin ?_
  | with_reducible refine s_dput ?_
  | with_reducible refine s_enum ?_
  | ((with_reducible refine' s_iteDp ?h ?_); (case h => with_reducible exact rfl))
  | with_reducible refine s_iS ?_)
local macro_rules | `(tactic| wtm_at "n1") => `(tactic| first
  | ((with_reducible refine' n_ixTi (by assumption) ?h ?d ?_); (case h => wtm_at "rk"); (case d => exact rfl))
  | ((with_reducible refine' n_ixTr (by assumption) ?h ?d ?_); (case h => wtm_at "rk"); (case d => exact rfl))
  | ((with_reducible refine' n_ixLi (by assumption) ?h ?d ?_); (case h => wtm_at "rk"); (case d => exact rfl))
  | ((with_reducible refine' n_ixLr (by assumption) ?h ?d ?_); (case h => wtm_at "rk"); (case d => exact rfl))
  | ((with_reducible refine' n_ixTn (by assumption) ?h ?d ?_); (case h => wtm_at "rk"); (case d => exact rfl))
  | ((with_reducible refine' n_ixT (by assumption) ?h ?d ?_); (case h => wtm_at "rk"); (case d => exact rfl); (intro u w'))
  | ((with_reducible refine' n_ixL (by assumption) ?h ?d ?_); (case h => wtm_at "rk"); (case d => first | exact rfl | with_reducible exact atI_head | with_reducible exact atI_last _ _); (intro u w'))
  | ((with_reducible refine' n_lenL (by assumption) ?h ?_); (case h => wtm_at "rk"))
  | ((with_reducible refine' n_lenT (by assumption) ?h ?_); (case h => wtm_at "rk"))
  | ((with_reducible refine' n_newT (by assumption) ?a ?z ?_); (case a => wtm_at "kna0"); (case z => exact Nat.le_of_ble_eq_true rfl); (intro p H' w'))
  | ((with_reducible refine' n_newL (by assumption) ?a ?z ?_); (case a => wtm_at "kna0"); (case z => exact Nat.le_of_ble_eq_true rfl); (intro p H' w'))
  | ((with_reducible refine' n_gtupII (by assumption) ?h ?_); (case h => wtm_at "rk"))
  | ((with_reducible refine' n_gtupIII (by assumption) ?h ?_); (case h => wtm_at "rk"))
  | ((with_reducible refine' n_gtup2 (by assumption) ?h ?_); (case h => wtm_at "rk"); (intro x y w'))
  | ((with_reducible refine' n_gtup3 (by assumption) ?h ?_); (case h => wtm_at "rk"); (intro x y z w'))
  | ((with_reducible refine' n_gtup4 (by assumption) ?h ?_); (case h => wtm_at "rk"); (intro x y z u w'))
  | ((with_reducible refine' n_tyL (by assumption) ?h ?_); (case h => wtm_at "mem"))
  | ((with_reducible refine' n_app (by assumption) ?f ?h ?z ?_); (case f => wtm_at "foc"); (case h => wtm_at "kn0"); (case z => first | omega | (simp; done) | (simp; omega)); (intro H' w'))
  | ((with_reducible refine' n_clear (by assumption) ?f ?_); (case f => wtm_at "foc"); (intro H' w'))
  | ((with_reducible refine' n_set (by assumption) ?f ?h ?z ?_); (case f => wtm_at "foc"); (case h => wtm_at "kn"); (case z => exact rfl); (intro H' w'))
  | ((with_reducible refine' n_sl (by assumption) ?h ?_); (case h => wtm_at "rk"); (intro p H' w'))
  | ((with_reducible refine' n_list (by assumption) ?h ?_); (case h => wtm_at "rk"); (intro p H' w'))
  | ((with_reducible refine' n_listT (by assumption) ?h ?_); (case h => wtm_at "rk"); (intro p H' w'))
  | ((with_reducible refine' n_rev (by assumption) ?h ?_); (case h => wtm_at "rk"); (intro p H' w'))
  | ((with_reducible refine' n_isi (by assumption) ?h ?e ?k ?_); (case h => wtm_at "rk"); (case e => exact rfl); (case k => first | exact kit_ii | exact kit_ib | exact kit_bi | exact kit_bb | exact kit_tt | exact kit_ll | decide +kernel))
  | ((with_reducible refine' n_fldi (by assumption) ?h ?c ?n ?f ?d ?_); (case h => wtm_at "rk"); (case c => exact OwnC.cl (by assumption)); (case n => assumption); (case f => decide); (case d => exact rfl))
  | ((with_reducible refine' n_fldr (by assumption) ?h ?c ?n ?f ?d ?_); (case h => wtm_at "rk"); (case c => exact OwnC.cl (by assumption)); (case n => assumption); (case f => decide); (case d => exact rfl))
  | ((with_reducible refine' n_fldn (by assumption) ?h ?c ?n ?f ?d ?_); (case h => wtm_at "rk"); (case c => exact OwnC.cl (by assumption)); (case n => assumption); (case f => decide); (case d => exact rfl))
  | ((with_reducible refine' n_fld (by assumption) ?h ?c ?n ?f ?d ?_); (case h => wtm_at "rk"); (case c => exact OwnC.cl (by assumption)); (case n => assumption); (case f => decide); (case d => exact rfl); (intro u w'))
  | ((with_reducible refine' n_meth (by assumption) ?h ?m ?_); (case h => wtm_at "rk"); (case m => first | decide | (simp only [List.map_cons, List.map_nil]; decide)))
  | ((with_reducible refine' n_sf (by assumption) ?f ?h ?c ?n ?z ?g ?_); (case f => wtm_at "foc"); (case h => wtm_at "kn"); (case c => exact OwnC.cl (by assumption)); (case n => assumption); (case z => decide); (case g => first | decide | (simp; done)); (intro H' w')))
local macro_rules | `(tactic| wtm_at "f1") => `(tactic| first
  | (with_reducible refine' s_var ?h ?_); (case h => exact rfl)
  | with_reducible refine s_c ?_
  | with_reducible refine s_op ?_
  | with_reducible refine s_cons ?_
  | with_reducible refine s_nil ?_
  | with_reducible refine s_seq ?_
  | with_reducible refine s_asg ?_
  | with_reducible refine s_gname ?_
  | with_reducible refine s_ifS ?_
  | with_reducible refine s_test ?_
  | with_reducible refine s_k ?_
  | with_reducible refine s_call ?_
  | with_reducible refine s_callS ?_
  | with_reducible refine s_callN ?_
  | with_reducible refine s_makeX ?_
  | with_reducible refine s_cb ?_
  | with_reducible refine s_I0 ?_
  | with_reducible refine iteT ?_
  | with_reducible refine iteF ?_
  | with_reducible refine s_next ?_
  | with_reducible refine s_iteN ?_
  | with_reducible refine s_add ?_
  | with_reducible refine s_ret ?_)
local macro_rules | `(tactic| wtm_at "n") => `(tactic| repeat (first | wtm_at "f1" | wtm_at "n1" | wtm_at "n2" | wtm_at "e1" | wtm_at "s1" | wtm_at "b1" | wtm_at "c0"))
local macro_rules | `(tactic| wtm_at "no") => `(tactic| repeat (first | wtm_at "f1" | wtm_at "n1" | wtm_at "n2" | wtm_at "e1" | wtm_at "s1" | wtm_at "b1" | wtm_at "c0" | wtm_at "o1"))
local macro_rules | `(tactic| wtm_at "na") => `(tactic| repeat (first | wtm_at "f1" | wtm_at "n1" | wtm_at "n2" | wtm_at "e1" | wtm_at "s1" | wtm_at "b1" | wtm_at "c0" | wtm_at "o1" | wtm_at "c1"))
local macro_rules | `(tactic| wtm_at "x1") => `(tactic| first
  | (with_reducible refine' s_var ?h ?_); (case h => exact rfl)
  | with_reducible refine s_c ?_
  | with_reducible refine s_op ?_
  | with_reducible refine s_cons ?_
  | with_reducible refine s_nil ?_
  | with_reducible refine s_asg ?_
  | with_reducible refine s_gname ?_
  | with_reducible refine s_drop ?_
  | with_reducible refine s_par ?_
  | with_reducible refine s_par2 ?_
  | with_reducible refine s_bm ?_
  | with_reducible refine s_bm0 ?_
  | with_reducible refine s_gsub ?_
  | with_reducible refine s_sfld ?_
  | with_reducible refine s_augS ?_
  | with_reducible refine s_gnil ?_
  | with_reducible refine s_gcons ?_
  | ((with_reducible refine' s_aug ?h ?_); (case h => exact rfl)))
local macro_rules | `(tactic| wtm_at "st2") => `(tactic| repeat (first | wtm_at "x1" | wtm_at "n1" | wtm_at "e1" | wtm_at "b1"))
section
variable {P : Program} {w : World} {K : PySem.W.Frag} {mg : Str → Option Value} {base : Heap}
variable {A_SIDES : Addr}
variable {C_Outline : Addr}
def top (i : Nat) : Stmt := PySem.Challenge.pw_fairsheet_k72_pieces_high.main.body.getD i (.Pass ⟨0, 0, 0, 0⟩)
abbrev s_is_whole : Stmt := top 7
theorem sc_is_whole : FnScope ["thing"] ["thing"] (defScope s_is_whole) := ⟨rfl, rfl, rfl, by decide +kernel, rfl, by decide +kernel, by decide +kernel⟩
def sp_is_whole (K : PySem.W.Frag) : Sp := fun vs H Q _ => ∃ I M v d, vs = [v] ∧ W I H M ∧ Is I v d ∧ TyK K d ∧ Q (.bl d.whole) H
theorem use_isI {K : PySem.W.Frag} {I H : Hp} {M : List (Addr × HO)} {n : Int} {Q : VK} {E : XK} (w : W I H M) (q : Q (.bl true) H) : sp_is_whole K ([.int n] ++ []) H Q E := ⟨I, M, _, _, rfl, w, .int n, .inl ⟨_, rfl⟩, q⟩
theorem use_isN {K : PySem.W.Frag} {I H : Hp} {M : List (Addr × HO)} {v : V} {d : D} {a : String} {Q : VK} {E : XK} (w : W I H M) (h : Is I v d) (ha : d.tn = some a) (hd : d.whole = false) (q : Q (.bl false) H) : sp_is_whole K ([v] ++ []) H Q E := ⟨I, M, _, _, rfl, w, h, .inl ⟨_, ha⟩, by rw [hd]; exact q⟩
theorem n_isw {K : PySem.W.Frag} {F : List (V × D)} {H : Hp} {M : List ME} {v : V} {d : D} {Q : VK} {E : XK} (w : Wf F H M) (hv : Rk F M v d) (ht : TyK K d) (q : Q (.bl d.whole) H) : sp_is_whole K ([v] ++ []) H Q E := ⟨H, [], v, d, rfl, W.self, w.rd hv, ht, q⟩
theorem n_isI {K : PySem.W.Frag} {n : Int} {H : Hp} {Q : VK} {E : XK} (q : Q (.bl true) H) : sp_is_whole K ([.int n] ++ []) H Q E := ⟨H, [], .int n, .int n, rfl, W.self, .int n, .inl ⟨_, rfl⟩, q⟩
local macro_rules | `(tactic| wtm_at "c0") => `(tactic| with_reducible refine n_isI ?_)

theorem ok_is_whole {f : Addr} {fd : FuncData} (F : Fun K "is_whole" "is_whole" s_is_whole f fd) (B : Bn mg)  : FnOk P w K mg base CX0 1 f fd ["thing"] (sp_is_whole K) := by
  refine F.ok sc_is_whole (fun vs H Q E h => ?_) (fun cdv A outer s H vs Q E hr h => ?_)
  · obtain ⟨I, M, v, d, rfl, w, hv, ha, k⟩ := h
    all_goals rfl
  · obtain ⟨I, M, v, d, rfl, w, hv, ha, k⟩ := h
    refine ⟨_, (pss_one (ps_ret (pe_and (pe_callB (k_isi (K := K) rfl) (by rfl) B.isinstance_ (by decide +kernel) (pa_cons (pv 0) (pa_cons (pe_bltn (v := .ty "int") (by rfl) B.int_ (by decide +kernel) rfl) pa_nil))) (pe_one (pe_not (pe_callB (k_isi (K := K) rfl) (by rfl) B.isinstance_ (by decide +kernel) (pa_cons (pv 0) (pa_cons (pe_bltn (v := .ty "bool") (by rfl) B.bool_ (by decide +kernel) rfl) pa_nil)))))))), ?_⟩
    try dsimp only [cxOf, Cx.nox, Cx.wish, Cx.blk]
    rcases ha with ⟨a, ha⟩ | ⟨C, fs, rfl, oc, ki⟩
    · cases d with
      | int n => wtm_at "go"; exact k
      | bl n => wtm_at "go"; exact k
      | non => wtm_at "go"; exact k
      | str n => wtm_at "go"; exact k
      | tup n => wtm_at "go"; exact k
      | lst n => wtm_at "go"; exact k
      | ref n => cases ha
      | ty n => cases ha
      | obj n m => cases ha
      | dict => wtm_at "go"; exact k
    · wtm_at "go"
      refine s_isiO oc w hv ki ?_
      wtm_at "go"
      exact k
def D.upto (m : Int) : D → Bool
  | .int n => decide (0 ≤ n) && decide (n ≤ m)
  | _ => false
theorem upto_ok {n m : Int} (h0 : 0 ≤ n) (h1 : n ≤ m) : (D.int n).upto m = true := by simp [D.upto, h0, h1]

abbrev s_is_length : Stmt := top 8
theorem sc_is_length : FnScope ["thing"] ["thing"] (defScope s_is_length) := ⟨rfl, rfl, rfl, by decide +kernel, rfl, by decide +kernel, by decide +kernel⟩
def sp_is_length (K : PySem.W.Frag) : Sp := fun vs H Q _ => ∃ I M v d, vs = [v] ∧ W I H M ∧ Is I v d ∧ TyK K d ∧ Q (.bl (d.upto 1000000000000)) H
theorem use_is_length {K : PySem.W.Frag} {I H : Hp} {M : List (Addr × HO)} {n : Int} {Q : VK} {E : XK} (w : W I H M) (h0 : 0 ≤ n) (h1 : n ≤ 1000000000000) (q : Q (.bl true) H) : sp_is_length K ([.int n] ++ []) H Q E := ⟨I, M, _, _, rfl, w, .int n, .inl ⟨_, rfl⟩, by rw [upto_ok h0 h1]; exact q⟩

theorem ok_is_length {f : Addr} {fd : FuncData} (F : Fun K "is_length" "is_length" s_is_length f fd) (B : Bn mg) (c_is_whole : Cal P w K mg base "is_whole" 1 ["thing"] [] (sp_is_whole K)) (g_LENGTH : ∃ t, mg "LENGTH" = some (.int 1000000000000 t))  : FnOk P w K mg base CX0 2 f fd ["thing"] (sp_is_length K) := by
  refine F.ok sc_is_length (fun vs H Q E h => ?_) (fun cdv A outer s H vs Q E hr h => ?_)
  · obtain ⟨I, M, v, d, rfl, w, hv, ha, k⟩ := h
    all_goals rfl
  · obtain ⟨I, M, v, d, rfl, w, hv, ha, k⟩ := h
    refine ⟨_, (pss_one (ps_ret (pe_and (pe_cal c_is_whole (hr.mono (by decide)) (by rfl) (pa_cons (pv 0) pa_nil)) (pe_one (pe_chain op_le op_le pe_int (pv 0) (pe_globI (by rfl) g_LENGTH)))))), ?_⟩
    try dsimp only [cxOf, Cx.nox, Cx.wish, Cx.blk]
    wtm_at "go"
    refine ⟨I, M, _, _, rfl, w, hv, ha, ?_⟩
    cases d with
    | int n =>
      cases hv.int_eq
      dsimp only [D.whole]
      wtm_at "go"
      wtm_at "fork"
      · rename_i h1
        wtm_at "go"
        have e : (D.int n).upto 1000000000000 = decide (n ≤ 1000000000000) := by simp [D.upto, h1]
        rw [← e]; exact k
      · rename_i h1
        wtm_at "go"
        have e : (D.int n).upto 1000000000000 = false := by simp [D.upto, h1]
        rw [← e]; exact k
    | bl n => wtm_at "go"; exact k
    | non => wtm_at "go"; exact k
    | str n => wtm_at "go"; exact k
    | tup n => wtm_at "go"; exact k
    | lst n => wtm_at "go"; exact k
    | ref n => wtm_at "go"; exact k
    | ty n => wtm_at "go"; exact k
    | obj n m => wtm_at "go"; exact k
    | dict => wtm_at "go"; exact k
abbrev s_is_small : Stmt := top 9
theorem sc_is_small : FnScope ["thing"] ["thing"] (defScope s_is_small) := ⟨rfl, rfl, rfl, by decide +kernel, rfl, by decide +kernel, by decide +kernel⟩
def sp_is_small (K : PySem.W.Frag) : Sp := fun vs H Q _ => ∃ I M v d, vs = [v] ∧ W I H M ∧ Is I v d ∧ TyK K d ∧ Q (.bl (d.upto 1000000)) H
theorem use_is_small {K : PySem.W.Frag} {I H : Hp} {M : List (Addr × HO)} {n : Int} {Q : VK} {E : XK} (w : W I H M) (h0 : 0 ≤ n) (h1 : n ≤ 1000000) (q : Q (.bl true) H) : sp_is_small K ([.int n] ++ []) H Q E := ⟨I, M, _, _, rfl, w, .int n, .inl ⟨_, rfl⟩, by rw [upto_ok h0 h1]; exact q⟩

theorem ok_is_small {f : Addr} {fd : FuncData} (F : Fun K "is_small" "is_small" s_is_small f fd) (B : Bn mg) (c_is_whole : Cal P w K mg base "is_whole" 1 ["thing"] [] (sp_is_whole K)) (g_SMALL : ∃ t, mg "SMALL" = some (.int 1000000 t))  : FnOk P w K mg base CX0 2 f fd ["thing"] (sp_is_small K) := by
  refine F.ok sc_is_small (fun vs H Q E h => ?_) (fun cdv A outer s H vs Q E hr h => ?_)
  · obtain ⟨I, M, v, d, rfl, w, hv, ha, k⟩ := h
    all_goals rfl
  · obtain ⟨I, M, v, d, rfl, w, hv, ha, k⟩ := h
    refine ⟨_, (pss_one (ps_ret (pe_and (pe_cal c_is_whole (hr.mono (by decide)) (by rfl) (pa_cons (pv 0) pa_nil)) (pe_one (pe_chain op_le op_le pe_int (pv 0) (pe_globI (by rfl) g_SMALL)))))), ?_⟩
    try dsimp only [cxOf, Cx.nox, Cx.wish, Cx.blk]
    wtm_at "go"
    refine ⟨I, M, _, _, rfl, w, hv, ha, ?_⟩
    cases d with
    | int n =>
      cases hv.int_eq
      dsimp only [D.whole]
      wtm_at "go"
      wtm_at "fork"
      · rename_i h1
        wtm_at "go"
        have e : (D.int n).upto 1000000 = decide (n ≤ 1000000) := by simp [D.upto, h1]
        rw [← e]; exact k
      · rename_i h1
        wtm_at "go"
        have e : (D.int n).upto 1000000 = false := by simp [D.upto, h1]
        rw [← e]; exact k
    | bl n => wtm_at "go"; exact k
    | non => wtm_at "go"; exact k
    | str n => wtm_at "go"; exact k
    | tup n => wtm_at "go"; exact k
    | lst n => wtm_at "go"; exact k
    | ref n => wtm_at "go"; exact k
    | ty n => wtm_at "go"; exact k
    | obj n m => wtm_at "go"; exact k
    | dict => wtm_at "go"; exact k
/-! ### pieces of an outline -/
structure Pc where
  sd : Bool
  l : Int
  a : Int
  w : Int
  h : Int
def sdS (b : Bool) : Str := if b then "left" else "right"
abbrev pcD (x : Pc) : D := .tup [.str (sdS x.sd), .int x.l, .int x.a, .int x.w, .int x.h]
abbrev olF (W : Int) (pl : Addr) : List (Str × D) := [("whole_wide", .int W), ("pieces", .ref pl)]
def metB (top high : Int) (x : Pc) : Bool := decide (x.a < top + high) && decide (x.a + x.h > top)
def metL (ps : List Pc) (top high : Int) : List Pc := ps.filter (metB top high)
/-- begin and end of a room -/
def rmS (p : Int × Int) (x : Pc) : Int × Int := if x.sd then (if x.l + x.w > p.1 then x.l + x.w else p.1, p.2) else (p.1, if x.l < p.2 then x.l else p.2)
def rmF (ps : List Pc) (W : Int) : Int × Int := ps.foldl rmS (0, W)
def begI (W : Int) (ps : List Pc) (top high : Int) : Int := (rmF (metL ps top high) W).1
def wdI (W : Int) (ps : List Pc) (top high : Int) : Int := if (rmF (metL ps top high) W).2 - begI W ps top high > 0 then (rmF (metL ps top high) W).2 - begI W ps top high else 0
def goodB (W : Int) (ps : List Pc) (need high top : Int) : Bool := decide (wdI W ps top high ≥ need) || decide ((metL ps top high).length = 0)
def endsL (ps : List Pc) : List Int := ps.map fun x => x.a + x.h
def fitsL (W : Int) (ps : List Pc) (need high top : Int) : List Int := (endsL ps).filter fun e => decide (e > top) && goodB W ps need high e
theorem rmF_snoc (ps : List Pc) (x : Pc) (W : Int) : rmF (ps ++ [x]) W = rmS (rmF ps W) x := by simp [rmF, List.foldl_append]
/-- the greatest end: no piece reaches below it -/
theorem fits_ne {W : Int} {ps : List Pc} {need high top : Int} (hp : ∀ x ∈ ps, 0 < x.h) (hh : 0 < high) (hg : goodB W ps need high top = false) : fitsL W ps need high top ≠ [] := by
  have hm : (metL ps top high).length ≠ 0 := by
    intro e
    simp [goodB, e] at hg
  have ex : ∃ x ∈ ps, x.a + x.h > top := by
    cases e : metL ps top high with
    | nil => rw [e] at hm; exact absurd rfl hm
    | cons y ys =>
      have hy : y ∈ metL ps top high := by rw [e]; exact List.mem_cons_self
      obtain ⟨h1, h2⟩ := List.mem_filter.mp hy
      simp [metB] at h2
      exact ⟨y, h1, h2.2⟩
  have big : ∃ x ∈ ps, ∀ y ∈ ps, y.a + y.h ≤ x.a + x.h := by
    have hne : ps ≠ [] := by
      obtain ⟨x0, hx0, _⟩ := ex
      intro e
      rw [e] at hx0
      cases hx0
    clear hg hm hp ex
    induction ps with
    | nil => exact absurd rfl hne
    | cons z zs ih =>
      by_cases hz : zs = []
      · subst hz
        exact ⟨z, List.mem_cons_self, fun y hy => by rw [List.mem_singleton.mp hy]; exact Int.le_refl _⟩
      · obtain ⟨m, hm, hle⟩ := ih hz
        by_cases hc : z.a + z.h ≤ m.a + m.h
        · exact ⟨m, List.mem_cons_of_mem _ hm, fun y hy => by
            rcases List.mem_cons.mp hy with rfl | hy
            · exact hc
            · exact hle y hy⟩
        · exact ⟨z, List.mem_cons_self, fun y hy => by
            rcases List.mem_cons.mp hy with rfl | hy
            · exact Int.le_refl _
            · have := hle y hy
              omega⟩
  obtain ⟨x, hx, hxt⟩ := ex
  obtain ⟨m, hm', hle⟩ := big
  have h1 := hle x hx
  intro e
  have : m.a + m.h ∈ fitsL W ps need high top := by
    refine List.mem_filter.mpr ⟨List.mem_map.mpr ⟨m, hm', rfl⟩, ?_⟩
    have e0 : metL ps (m.a + m.h) high = [] := List.filter_eq_nil_iff.mpr fun y hy => by
      have := hle y hy
      simp [metB]
      omega
    simp [goodB, e0]
    omega
  rw [e] at this
  cases this
theorem sd_eq (b : Bool) : decide (V.str (sdS b) = V.str "left") = b := by
  cases b with
  | true => exact decide_eq_true rfl
  | false =>
    exact decide_eq_false fun h => by
      injection h with h
      revert h
      decide
theorem sd_eqR (b : Bool) : decide (V.str (sdS b) = V.str "right") = !b := by
  cases b with
  | true =>
    exact decide_eq_false fun h => by
      injection h with h
      revert h
      decide
  | false => exact decide_eq_true rfl
theorem last_pc {ps : List Pc} (h : 0 < ps.length) : ∃ x, ps.getLast? = some x ∧ atI (ps.map pcD) (-1) = some (pcD x) := by
  have e1 : ps[ps.length - 1]? = some ps[ps.length - 1] := List.getElem?_eq_getElem (by omega)
  refine ⟨ps[ps.length - 1], by rw [List.getLast?_eq_getElem?, e1], ?_⟩
  unfold atI ixN
  rw [if_neg (by decide), if_pos (by rw [List.length_map]; omega), Option.bind_some, List.length_map, show ((-1 : Int) + (ps.length : Nat)).toNat = ps.length - 1 by omega, List.getElem?_map, e1]
  rfl
theorem last_int (ts : List Int) (z : Int) : atI ((ts ++ [z]).map D.int) (-1) = some (.int z) := by
  unfold atI ixN
  rw [if_neg (by decide), if_pos (by simp; omega), Option.bind_some, List.length_map, List.length_append, List.length_singleton, show ((-1 : Int) + ((ts.length + 1 : Nat) : Int)).toNat = ts.length by omega, List.getElem?_map, List.getElem?_append_right (Nat.le_refl _), Nat.sub_self]
  rfl
abbrev rcD (x : Pc) : D := .tup [.int x.l, .int x.a, .int x.w, .int x.h]
theorem metL_snoc {ps : List Pc} {i : Nat} {x : Pc} {top high : Int} (hx : ps[i]? = some x) : metL (ps.take (i + 1)) top high = metL (ps.take i) top high ++ (if metB top high x then [x] else []) := by
  unfold metL
  rw [take_snoc hx, List.filter_append]
  congr 1
  cases h : metB top high x <;> simp [h]

abbrev s_is_side : Stmt := top 13
theorem sc_is_side : FnScope ["thing"] ["thing"] (defScope s_is_side) := ⟨rfl, rfl, rfl, by decide +kernel, rfl, by decide +kernel, by decide +kernel⟩
def sp_is_side : Sp := fun vs H Q _ => ∃ b, vs = [.str (sdS b)] ∧ Q (.bl true) H
theorem n_side {b : Bool} {H : Hp} {Q : VK} {E : XK} (q : Q (.bl true) H) : sp_is_side ([.str (sdS b)] ++ []) H Q E := ⟨b, rfl, q⟩
local macro_rules | `(tactic| wtm_at "c0") => `(tactic| with_reducible refine n_side ?_)

theorem ok_is_side {f : Addr} {fd : FuncData} (F : Fun K "is_side" "is_side" s_is_side f fd) (B : Bn mg) (g_SIDES : mg "SIDES" = some (.ref A_SIDES)) (s_SIDES : ∀ H : Hp, SqT K H A_SIDES [.str "left", .str "right"])  : FnOk P w K mg base CX0 1 f fd ["thing"] sp_is_side := by
  refine F.ok sc_is_side (fun vs H Q E h => ?_) (fun cdv A outer s H vs Q E hr h => ?_)
  · obtain ⟨b, rfl, k⟩ := h
    all_goals rfl
  · obtain ⟨b, rfl, k⟩ := h
    refine ⟨_, (pss_one (ps_ret (pe_and (pe_callB (k_isi (K := K) rfl) (by rfl) B.isinstance_ (by decide +kernel) (pa_cons (pv 0) (pa_cons (pe_bltn (v := .ty "str") (by rfl) B.str_ (by decide +kernel) rfl) pa_nil))) (pe_one (pe_cmpR op_in_seq (pv 0) (pe_glob (v := .ref A_SIDES) (by rfl) g_SIDES rfl) (by with_unfolding_all rfl)))))), ?_⟩
    try dsimp only [cxOf, Cx.nox, Cx.wish, Cx.blk]
    wtm_at "n"
    refine isi_base (k := true) (Is.str _) rfl (by decide +kernel) ?_
    wtm_at "n"
    refine s_inT (b := true) (s_SIDES H) rfl (by decide) (by cases b <;> decide) ?_
    wtm_at "n"
    exact k
abbrev s_is_extent : Stmt := top 14
theorem sc_is_extent : FnScope ["thing"] ["thing"] (defScope s_is_extent) := ⟨rfl, rfl, rfl, by decide +kernel, rfl, by decide +kernel, by decide +kernel⟩
def sp_is_extent : Sp := fun vs H Q _ => ∃ n : Int, vs = [.int n] ∧ 1 ≤ n ∧ n ≤ 1000000 ∧ Q (.bl true) H
theorem n_ext {n : Int} {H : Hp} {Q : VK} {E : XK} (h1 : 1 ≤ n) (h2 : n ≤ 1000000) (q : Q (.bl true) H) : sp_is_extent ([.int n] ++ []) H Q E := ⟨n, rfl, h1, h2, q⟩

theorem ok_is_extent {f : Addr} {fd : FuncData} (F : Fun K "is_extent" "is_extent" s_is_extent f fd) (B : Bn mg) (c_is_small : Cal P w K mg base "is_small" 2 ["thing"] [] (sp_is_small K))  : FnOk P w K mg base CX0 3 f fd ["thing"] sp_is_extent := by
  refine F.ok sc_is_extent (fun vs H Q E h => ?_) (fun cdv A outer s H vs Q E hr h => ?_)
  · obtain ⟨n, rfl, h1, h2, k⟩ := h
    all_goals rfl
  · obtain ⟨n, rfl, h1, h2, k⟩ := h
    refine ⟨_, (pss_one (ps_ret (pe_and (pe_cal c_is_small (hr.mono (by decide)) (by rfl) (pa_cons (pv 0) pa_nil)) (pe_one (pe_cmpR op_gt (pv 0) pe_int (nomark _)))))), ?_⟩
    try dsimp only [cxOf, Cx.nox, Cx.wish, Cx.blk]
    wtm_at "n"
    refine use_is_small (I := H) (M := []) W.self (by omega) h2 ?_
    wtm_at "n"
    rw [decide_eq_true (by omega)]
    exact k
abbrev s_look_at_piece : Stmt := top 15
theorem sc_look_at_piece : FnScope ["side", "wide", "high"] ["side", "wide", "high"] (defScope s_look_at_piece) := ⟨rfl, rfl, rfl, by decide +kernel, rfl, by decide +kernel, by decide +kernel⟩
def sp_look_at_piece : Sp := fun vs H Q _ => ∃ b, ∃ w h : Int, vs = [.str (sdS b), .int w, .int h] ∧ 1 ≤ w ∧ w ≤ 1000000 ∧ 1 ≤ h ∧ h ≤ 1000000 ∧ Q .non H
theorem n_lookp {b : Bool} {w h : Int} {H : Hp} {Q : VK} {E : XK} (w1 : 1 ≤ w) (w2 : w ≤ 1000000) (h1 : 1 ≤ h) (h2 : h ≤ 1000000) (q : Q .non H) : sp_look_at_piece ([.str (sdS b), .int w, .int h] ++ []) H Q E := ⟨b, w, h, rfl, w1, w2, h1, h2, q⟩

theorem ok_look_at_piece {f : Addr} {fd : FuncData} (F : Fun K "look_at_piece" "look_at_piece" s_look_at_piece f fd) (B : Bn mg) (c_is_side : Cal P w K mg base "is_side" 1 ["thing"] [] sp_is_side) (c_is_extent : Cal P w K mg base "is_extent" 3 ["thing"] [] sp_is_extent)  : FnOk P w K mg base CX0 4 f fd ["side", "wide", "high"] sp_look_at_piece := by
  refine F.ok sc_look_at_piece (fun vs H Q E h => ?_) (fun cdv A outer s H vs Q E hr h => ?_)
  · obtain ⟨b, w, h, rfl, w1, w2, h1, h2, k⟩ := h
    all_goals rfl
  · obtain ⟨b, w, h, rfl, w1, w2, h1, h2, k⟩ := h
    refine ⟨_, (pss_cons (ps_if (pt_not (pt_val (pe_cal c_is_side (hr.mono (by decide)) (by rfl) (pa_cons (pv 0) pa_nil)))) pss_never pss_nil)
      (pss_cons (ps_if (pt_not (pt_val (pe_cal c_is_extent (hr.mono (by decide)) (by rfl) (pa_cons (pv 1) pa_nil)))) pss_never pss_nil)
      (pss_one (ps_if (pt_not (pt_val (pe_cal c_is_extent (hr.mono (by decide)) (by rfl) (pa_cons (pv 2) pa_nil)))) pss_never pss_nil)))), ?_⟩
    try dsimp only [cxOf, Cx.nox, Cx.wish, Cx.blk]
    wtm_at "n"
    refine n_ext w1 w2 ?_
    wtm_at "n"
    refine n_ext h1 h2 ?_
    wtm_at "n"
    exact k
abbrev s_Outline___init__ : Stmt := inClass (top 16) 0
theorem sc_Outline___init__ : FnScope ["self", "wide"] ["self", "wide"] (defScope s_Outline___init__) := ⟨rfl, rfl, rfl, by decide +kernel, rfl, by decide +kernel, by decide +kernel⟩
def sp_Outline___init__ (C : Addr) : Sp := fun vs H Q _ => ∃ F M x, ∃ W : Int, vs = [.ref x, .int W] ∧ Wf F H (.mi x C [] :: M) ∧ 1 ≤ W ∧ W ≤ 1000000 ∧ ∀ pl H', Wf F H' (.mi x C (olF W pl) :: .ml pl [] :: M) → Q .non H'
theorem n_mkOl {C : Addr} {F : List (V × D)} {H : Hp} {M : List ME} {W : Int} {Q : VK} {E : XK} (w : Wf F H M) (h1 : 1 ≤ W) (h2 : W ≤ 1000000) (q : ∀ p pl H', Wf F H' (.mi p C (olF W pl) :: .ml pl [] :: M) → Q (.ref p) H') : MakeQ C (sp_Outline___init__ C) E Q [.int W] H := fun x dx hx hd ne => by
  have w1 : Wf F (upd H dx (.own x)) M := w.more (same_new hd)
  have hx1 : upd H dx (.own x) x = none := by rw [upd_ne ne.symm]; exact hx
  obtain ⟨I, Mc, w1, ac, hF⟩ := w1.ex
  exact ⟨F, M, x, W, rfl, ⟨I, (x, .ins C dx []) :: Mc, w1.newM hx1, .cons (.mi .nil) ac, hF⟩, h1, h2, fun pl H' w' => ⟨rfl, q x pl H' w'⟩⟩

theorem ok_Outline___init__ {f : Addr} {fd : FuncData} (F : Fun K "__init__" "Outline.__init__" s_Outline___init__ f fd) (B : Bn mg) (c_is_extent : Cal P w K mg base "is_extent" 3 ["thing"] [] sp_is_extent) (o_Outline : OwnC K C_Outline) (n_Outline : ∀ f ∈ (["whole_wide", "pieces"] : List Str), NoAttr K C_Outline f)  : FnOk P w K mg base CX0 4 f fd ["self", "wide"] (sp_Outline___init__ C_Outline) := by
  refine F.ok sc_Outline___init__ (fun vs H Q E h => ?_) (fun cdv A outer s H vs Q E hr h => ?_)
  · obtain ⟨F, M, x, W, rfl, w, h1, h2, k⟩ := h
    all_goals rfl
  · obtain ⟨F, M, x, W, rfl, w, h1, h2, k⟩ := h
    refine ⟨_, (pss_cons (ps_if (pt_not (pt_val (pe_cal c_is_extent (hr.mono (by decide)) (by rfl) (pa_cons (pv 1) pa_nil)))) pss_never pss_nil)
      (pss_cons (kps_fld (K := K) rfl (pv 0) (pv 1) rfl)
      (pss_one (kps_fld (K := K) rfl (pv 0) (pe_lst pa_nil) rfl)))), ?_⟩
    try dsimp only [cxOf, Cx.nox, Cx.wish, Cx.blk]
    wtm_at "n"
    refine n_ext h1 h2 ?_
    wtm_at "n"
    rename_i H1 w
    rw [putD_new (by (try simp only [List.nil_append, List.cons_append, List.map_cons, List.map_nil]); decide)] at w
    wtm_at "n"
    rename_i w0 p2 w1 w
    rw [putD_new (by (try simp only [List.nil_append, List.cons_append, List.map_cons, List.map_nil]); decide)] at w
    exact k p2 _ (w.perm (.swap _ _ _))
abbrev s_Outline_met : Stmt := inClass (top 16) 1
theorem sc_Outline_met : FnScope ["self", "top", "high", "piece"] ["self", "top", "high"] (defScope s_Outline_met) := ⟨rfl, rfl, rfl, by decide +kernel, rfl, by decide +kernel, by decide +kernel⟩
def sp_Outline_met (C : Addr) : Sp := fun vs H Q _ => ∃ F M po pl, ∃ (W top high : Int) (ps : List Pc), vs = [.ref po, .int top, .int high] ∧ Wf F H M ∧ .mi po C (olF W pl) ∈ M ∧ .ml pl (ps.map pcD) ∈ M ∧ ps.length ≤ 24 ∧ ∀ p H', Wf F H' (.ml p ((metL ps top high).map pcD) :: M) → Q (.ref p) H'
theorem n_met {C : Addr} {F : List (V × D)} {H : Hp} {M : List ME} {po pl : Addr} {W top high : Int} {ps : List Pc} {Q : VK} {E : XK} (w : Wf F H M) (h1 : .mi po C (olF W pl) ∈ M) (h2 : .ml pl (ps.map pcD) ∈ M) (hl : ps.length ≤ 24) (q : ∀ p H', Wf F H' (.ml p ((metL ps top high).map pcD) :: M) → Q (.ref p) H') : sp_Outline_met C (.ref po :: ([.int top, .int high] ++ [])) H Q E := ⟨F, M, po, pl, W, top, high, ps, rfl, w, h1, h2, hl, q⟩

theorem ok_Outline_met {f : Addr} {fd : FuncData} (F : Fun K "met" "Outline.met" s_Outline_met f fd) (B : Bn mg) (o_Outline : OwnC K C_Outline) (n_Outline : ∀ f ∈ (["whole_wide", "pieces"] : List Str), NoAttr K C_Outline f)  : FnOk P w K mg base CX0 1 f fd ["self", "top", "high"] (sp_Outline_met C_Outline) := by
  refine F.ok sc_Outline_met (fun vs H Q E h => ?_) (fun cdv A outer s H vs Q E hr h => ?_)
  · obtain ⟨F, M, po, pl, W, top, high, ps, rfl, w, h1, h2, hl, k⟩ := h
    all_goals rfl
  · obtain ⟨F, M, po, pl, W, top, high, ps, rfl, w, h1, h2, hl, k⟩ := h
    refine ⟨_, (pss_one (ps_ret (pe_lc (own := [("piece", 3)]) (by rfl) sc_Outline_met.nd (kpi_list (K := K) rfl (kpe_fld (K := K) rfl (pv 0) rfl)) (blkOk_by (own := [("piece", 3)]) (N := ["self", "top", "high", "piece"]) (sc := defScope s_Outline_met) (by decide +kernel)) (fun _ _ _ _ _ => (pg_name (i := 3) sc_Outline_met.nd rfl (Or.inl rfl))) (fun _ _ _ _ _ => (pts_one (pw_and (pt_cmpR op_lt (pe_ix (k_ix (K := K) rfl) (pv 3) pe_int (fun _ _ => rfl)) (pe_op (k_add (K := K) rfl) (pv 1) (pv 2)) (nomark _)) (pw_and1 (pt_cmpR op_gt (pe_op (k_add (K := K) rfl) (pe_ix (k_ix (K := K) rfl) (pv 3) pe_int (fun _ _ => rfl)) (pe_ix (k_ix (K := K) rfl) (pv 3) pe_int (fun _ _ => rfl))) (pv 1) (nomark _)))).pt)) (fun _ _ _ _ _ => (pv 3))))), ?_⟩
    try dsimp only [cxOf, Cx.nox, Cx.wish, Cx.blk]
    wtm_at "n"
    refine n_lcG w (.ml h2) (fun i acc => acc = ((ps.take i).filter (metB top high)).map pcD) rfl (by rw [List.length_map]; omega) ?_ ?_
    · intro i d y Dp acc H0 Ap Sk hd hR w kA kS
      obtain ⟨x, hx, rfl⟩ := map_get hd
      have hy : metB top high x = true → ((ps.take i).filter (metB top high)).map pcD ++ [pcD x] = ((ps.take (i + 1)).filter (metB top high)).map pcD := fun h => by
        rw [take_snoc hx, List.filter_append, List.map_append, List.filter_cons_of_pos h]
        rfl
      have hn : metB top high x = false → ((ps.take i).filter (metB top high)).map pcD = ((ps.take (i + 1)).filter (metB top high)).map pcD := fun h => by
        rw [take_snoc hx, List.filter_append, List.map_append, List.filter_cons_of_neg (by rw [h]; simp)]
        simp
      subst hR
      wtm_at "n"
      refine ⟨rfl, ?_⟩
      wtm_at "n"
      wtm_at "fork"
      · rename_i h3
        wtm_at "n"
        wtm_at "fork"
        · rename_i h4
          wtm_at "n"
          exact kA _ _ _ (by wtm_at "wf") (hy (by simp [metB]; omega))
        · rename_i h4
          wtm_at "n"
          exact kS _ (by wtm_at "wf") (hn (by simp [metB]; omega))
      · rename_i h3
        wtm_at "n"
        exact kS _ (by wtm_at "wf") (hn (by simp [metB]; omega))
    intro p es H' hR w
    rw [List.length_map, List.take_length] at hR
    subst hR
    exact k p _ w
abbrev s_Outline_room_at : Stmt := inClass (top 16) 2
theorem sc_Outline_room_at : FnScope ["self", "top", "high", "begin", "end", "side", "left", "at", "wide", "tall"] ["self", "top", "high"] (defScope s_Outline_room_at) := ⟨rfl, rfl, rfl, by decide +kernel, rfl, by decide +kernel, by decide +kernel⟩
def sp_Outline_room_at (C : Addr) : Sp := fun vs H Q _ => ∃ F M po pl, ∃ (W top high : Int) (ps : List Pc), vs = [.ref po, .int top, .int high] ∧ Wf F H M ∧ .mi po C (olF W pl) ∈ M ∧ .ml pl (ps.map pcD) ∈ M ∧ ps.length ≤ 24 ∧ ∀ r H', Wf ((r, .tup [.int (begI W ps top high), .int (wdI W ps top high)]) :: F) H' M → Q r H'
theorem n_room {C : Addr} {F : List (V × D)} {H : Hp} {M : List ME} {po pl : Addr} {W top high : Int} {ps : List Pc} {Q : VK} {E : XK} (w : Wf F H M) (h1 : .mi po C (olF W pl) ∈ M) (h2 : .ml pl (ps.map pcD) ∈ M) (hl : ps.length ≤ 24) (q : ∀ r H', Wf ((r, .tup [.int (begI W ps top high), .int (wdI W ps top high)]) :: F) H' M → Q r H') : sp_Outline_room_at C (.ref po :: ([.int top, .int high] ++ [])) H Q E := ⟨F, M, po, pl, W, top, high, ps, rfl, w, h1, h2, hl, q⟩

theorem ok_Outline_room_at {f : Addr} {fd : FuncData} (F : Fun K "room_at" "Outline.room_at" s_Outline_room_at f fd) (B : Bn mg) (t_Outline_met : Met P w K mg base "met" C_Outline 1 ["self", "top", "high"] [] (sp_Outline_met C_Outline)) (o_Outline : OwnC K C_Outline) (n_Outline : ∀ f ∈ (["whole_wide", "pieces"] : List Str), NoAttr K C_Outline f)  : FnOk P w K mg base CX0 2 f fd ["self", "top", "high"] (sp_Outline_room_at C_Outline) := by
  refine F.ok sc_Outline_room_at (fun vs H Q E h => ?_) (fun cdv A outer s H vs Q E hr h => ?_)
  · obtain ⟨F, M, po, pl, W, top, high, ps, rfl, w, h1, h2, hl, k⟩ := h
    all_goals rfl
  · obtain ⟨F, M, po, pl, W, top, high, ps, rfl, w, h1, h2, hl, k⟩ := h
    refine ⟨_, (pss_cons (ps_set (i := 3) sc_Outline_room_at.nd rfl (Or.inl rfl) pe_int)
      (pss_cons (ps_set (i := 4) sc_Outline_room_at.nd rfl (Or.inl rfl) (kpe_fld (K := K) rfl (pv 0) rfl))
      (pss_cons (ps_for PassesOwn.never rfl (kpi_list (K := K) rfl (pe_met (pv 0) t_Outline_met (hr.mono (by decide)) (pa_cons (pv 1) (pa_cons (pv 2) pa_nil)))) (kpg_tup (K := K) (n := 5) rfl rfl (pgs_cons (pg_name (i := 5) sc_Outline_room_at.nd rfl (Or.inl rfl)) (pgs_cons (pg_name (i := 6) sc_Outline_room_at.nd rfl (Or.inl rfl)) (pgs_cons (pg_name (i := 7) sc_Outline_room_at.nd rfl (Or.inl rfl)) (pgs_cons (pg_name (i := 8) sc_Outline_room_at.nd rfl (Or.inl rfl)) (pgs_cons (pg_name (i := 9) sc_Outline_room_at.nd rfl (Or.inl rfl)) pgs_nil)))))) (pss_one (ps_if (pt_cmpR (k_eq (K := K) rfl hr.units) (pv 5) pe_str (nomark _)) (pss_one (ps_set (i := 3) sc_Outline_room_at.nd rfl (Or.inl rfl) (pe_callB (k_max (K := K) rfl rfl) (by rfl) B.max_ (by decide +kernel) (pa_cons (pv 3) (pa_cons (pe_op (k_add (K := K) rfl) (pv 6) (pv 8)) pa_nil))))) (pss_one (ps_set (i := 4) sc_Outline_room_at.nd rfl (Or.inl rfl) (pe_callB (k_min (K := K) rfl rfl) (by rfl) B.min_ (by decide +kernel) (pa_cons (pv 4) (pa_cons (pv 6) pa_nil))))))))
      (pss_one (ps_ret (pe_tup (pa_cons (pv 3) (pa_cons (pe_callB (k_max (K := K) rfl rfl) (by rfl) B.max_ (by decide +kernel) (pa_cons pe_int (pa_cons (pe_op op_sub (pv 4) (pv 3)) pa_nil))) pa_nil)))))))), ?_⟩
    try dsimp only [cxOf, Cx.nox, Cx.wish, Cx.blk]
    wtm_at "n"
    refine n_met w h1 h2 hl fun p H1 w => ?_
    refine n_forL w (fun i σ' F' M' => ∃ x5 x6 x7 x8 x9, σ' = [some (.ref po), some (.int top), some (.int high), some (.int (rmF ((metL ps top high).take i) W).1), some (.int (rmF ((metL ps top high).take i) W).2), x5, x6, x7, x8, x9] ∧ F = F' ∧ M' = .ml p ((metL ps top high).map pcD) :: M) (by rintro i σ' F' M' ⟨_, _, _, _, _, _, rfl, rfl⟩; wtm_at "rk") ⟨_, _, _, _, _, rfl, rfl, rfl⟩ ?_ ?_
    · rintro i d y σ' H' F' M' hd ⟨x5, x6, x7, x8, x9, rfl, rfl, rfl⟩ w
      obtain ⟨x, hx, rfl⟩ := map_get hd
      have e := rmF_snoc ((metL ps top high).take i) x W
      rw [← take_snoc hx] at e
      generalize rmF ((metL ps top high).take i) W = q at *
      refine n_gtup5 w (by wtm_at "rk") fun v0 v1 v2 v3 v4 w => ?_
      obtain ⟨rfl, w1⟩ := w.str0
      obtain ⟨rfl, w2⟩ := w1.eq0
      obtain ⟨rfl, w3⟩ := w2.eq0
      obtain ⟨rfl, w4⟩ := w3.eq0
      obtain ⟨rfl, w5⟩ := w4.eq0
      clear w w1 w2 w3 w4
      wtm_at "n"
      rw [sd_eq]
      cases hs : x.sd with
      | true =>
        rw [rmS, hs, if_pos rfl] at e
        wtm_at "n"
        exact ⟨_, _, ⟨_, _, _, _, _, by rw [e]; rfl, rfl, rfl⟩, by wtm_at "wf"⟩
      | false =>
        rw [rmS, hs, if_neg (by simp)] at e
        wtm_at "n"
        exact ⟨_, _, ⟨_, _, _, _, _, by rw [e]; rfl, rfl, rfl⟩, by wtm_at "wf"⟩
    · rintro σ' H' F' M' ⟨x5, x6, x7, x8, x9, rfl, rfl, rfl⟩ w
      rw [List.length_map, List.take_length] at *
      wtm_at "n"
      rename_i pz Hz wz
      exact k _ _ (wz.sub KS.refl (by wtm_at "sl"))
abbrev s_Outline_is_good : Stmt := inClass (top 16) 3
theorem sc_Outline_is_good : FnScope ["self", "need", "high", "top"] ["self", "need", "high", "top"] (defScope s_Outline_is_good) := ⟨rfl, rfl, rfl, by decide +kernel, rfl, by decide +kernel, by decide +kernel⟩
def sp_Outline_is_good (C : Addr) : Sp := fun vs H Q _ => ∃ F M po pl, ∃ (W need high top : Int) (ps : List Pc), vs = [.ref po, .int need, .int high, .int top] ∧ Wf F H M ∧ .mi po C (olF W pl) ∈ M ∧ .ml pl (ps.map pcD) ∈ M ∧ ps.length ≤ 24 ∧ ∀ H', Wf F H' M → Q (.bl (goodB W ps need high top)) H'
theorem n_good {C : Addr} {F : List (V × D)} {H : Hp} {M : List ME} {po pl : Addr} {W need top high : Int} {ps : List Pc} {Q : VK} {E : XK} (w : Wf F H M) (h1 : .mi po C (olF W pl) ∈ M) (h2 : .ml pl (ps.map pcD) ∈ M) (hl : ps.length ≤ 24) (q : ∀ H', Wf F H' M → Q (.bl (goodB W ps need high top)) H') : sp_Outline_is_good C (.ref po :: ([.int need, .int high, .int top] ++ [])) H Q E := ⟨F, M, po, pl, W, need, high, top, ps, rfl, w, h1, h2, hl, q⟩

theorem ok_Outline_is_good {f : Addr} {fd : FuncData} (F : Fun K "is_good" "Outline.is_good" s_Outline_is_good f fd) (B : Bn mg) (t_Outline_room_at : Met P w K mg base "room_at" C_Outline 2 ["self", "top", "high"] [] (sp_Outline_room_at C_Outline)) (t_Outline_met : Met P w K mg base "met" C_Outline 1 ["self", "top", "high"] [] (sp_Outline_met C_Outline)) (o_Outline : OwnC K C_Outline) (n_Outline : ∀ f ∈ (["whole_wide", "pieces"] : List Str), NoAttr K C_Outline f)  : FnOk P w K mg base CX0 3 f fd ["self", "need", "high", "top"] (sp_Outline_is_good C_Outline) := by
  refine F.ok sc_Outline_is_good (fun vs H Q E h => ?_) (fun cdv A outer s H vs Q E hr h => ?_)
  · obtain ⟨F, M, po, pl, W, need, high, top, ps, rfl, w, h1, h2, hl, k⟩ := h
    all_goals rfl
  · obtain ⟨F, M, po, pl, W, need, high, top, ps, rfl, w, h1, h2, hl, k⟩ := h
    refine ⟨_, (pss_one (ps_ret (pe_or (pe_cmpR op_ge (pe_ix (k_ix (K := K) rfl) (pe_met (pv 0) t_Outline_room_at (hr.mono (by decide)) (pa_cons (pv 3) (pa_cons (pv 2) pa_nil))) pe_int (fun _ _ => rfl)) (pv 1) (nomark _)) (pe_one (pe_cmpR (k_eq (K := K) rfl hr.units) (pe_callB (k_len (K := K) rfl) (by rfl) B.len_ (by decide +kernel) (pa_cons (pe_met (pv 0) t_Outline_met (hr.mono (by decide)) (pa_cons (pv 3) (pa_cons (pv 2) pa_nil))) pa_nil)) pe_int (nomark _)))))), ?_⟩
    try dsimp only [cxOf, Cx.nox, Cx.wish, Cx.blk]
    wtm_at "n"
    refine n_room w h1 h2 hl fun r H1 w => ?_
    wtm_at "n"
    wtm_at "fork"
    · rename_i hw
      wtm_at "n"
      rw [show goodB W ps need high top = true by simp [goodB]; omega] at k
      exact k _ (by wtm_at "wf")
    · rename_i hw
      wtm_at "n"
      refine n_met (by assumption) h1 h2 hl fun p H2 w => ?_
      wtm_at "n"
      rw [List.length_map]
      have e : goodB W ps need high top = decide (V.int ((metL ps top high).length : Int) = V.int 0) := by
        have e1 : decide (wdI W ps top high ≥ need) = false := decide_eq_false (by omega)
        unfold goodB
        rw [e1, Bool.false_or]
        by_cases h : (metL ps top high).length = 0
        · rw [h]; simp
        · rw [decide_eq_false h, decide_eq_false fun q => h (by injection q with q; omega)]
      rw [e] at k
      exact k _ (by wtm_at "wf")
abbrev s_Outline_fit_at : Stmt := inClass (top 16) 4
theorem sc_Outline_fit_at : FnScope ["self", "need", "high", "top", "ends", "piece", "end"] ["self", "need", "high", "top"] (defScope s_Outline_fit_at) := ⟨rfl, rfl, rfl, by decide +kernel, rfl, by decide +kernel, by decide +kernel⟩
/-- the place that fit_at tells -/
def fitI (W : Int) (ps : List Pc) (need high top : Int) : Int := if goodB W ps need high top then top else ((fitsL W ps need high top).min?).getD 0
def sp_Outline_fit_at (C : Addr) : Sp := fun vs H Q _ => ∃ F M po pl, ∃ (W need high top : Int) (ps : List Pc), vs = [.ref po, .int need, .int high, .int top] ∧ Wf F H M ∧ .mi po C (olF W pl) ∈ M ∧ .ml pl (ps.map pcD) ∈ M ∧ ps.length ≤ 24 ∧ (∀ x ∈ ps, 0 < x.h) ∧ 0 < high ∧ ∀ H', Wf F H' M → Q (.int (fitI W ps need high top)) H'
theorem n_fit {C : Addr} {F : List (V × D)} {H : Hp} {M : List ME} {po pl : Addr} {W need top high : Int} {ps : List Pc} {Q : VK} {E : XK} (w : Wf F H M) (h1 : .mi po C (olF W pl) ∈ M) (h2 : .ml pl (ps.map pcD) ∈ M) (hl : ps.length ≤ 24) (hp : ∀ x ∈ ps, 0 < x.h) (hh : 0 < high) (q : ∀ H', Wf F H' M → Q (.int (fitI W ps need high top)) H') : sp_Outline_fit_at C (.ref po :: ([.int need, .int high, .int top] ++ [])) H Q E := ⟨F, M, po, pl, W, need, high, top, ps, rfl, w, h1, h2, hl, hp, hh, q⟩

theorem ok_Outline_fit_at {f : Addr} {fd : FuncData} (F : Fun K "fit_at" "Outline.fit_at" s_Outline_fit_at f fd) (B : Bn mg) (t_Outline_is_good : Met P w K mg base "is_good" C_Outline 3 ["self", "need", "high", "top"] [] (sp_Outline_is_good C_Outline)) (o_Outline : OwnC K C_Outline) (n_Outline : ∀ f ∈ (["whole_wide", "pieces"] : List Str), NoAttr K C_Outline f)  : FnOk P w K mg base CX0 4 f fd ["self", "need", "high", "top"] (sp_Outline_fit_at C_Outline) := by
  refine F.ok sc_Outline_fit_at (fun vs H Q E h => ?_) (fun cdv A outer s H vs Q E hr h => ?_)
  · obtain ⟨F, M, po, pl, W, need, high, top, ps, rfl, w, h1, h2, hl, hp, hh, k⟩ := h
    all_goals rfl
  · obtain ⟨F, M, po, pl, W, need, high, top, ps, rfl, w, h1, h2, hl, hp, hh, k⟩ := h
    refine ⟨_, (pss_cons (ps_if (pt_val (pe_met (pv 0) t_Outline_is_good (hr.mono (by decide)) (pa_cons (pv 1) (pa_cons (pv 2) (pa_cons (pv 3) pa_nil))))) (pss_one (ps_ret (pv 3))) pss_nil)
      (pss_cons (ps_setLc (i := 4) (own := [("piece", 5)]) (by rfl) sc_Outline_fit_at.nd rfl rfl (sw_true rfl rfl rfl (by decide +kernel)) (kpi_list (K := K) rfl (kpe_fld (K := K) rfl (pv 0) rfl)) (blkOk_by (own := [("piece", 5)]) (N := ["self", "need", "high", "top", "ends", "piece", "end"]) (sc := defScope s_Outline_fit_at) (by decide +kernel)) (fun _ _ _ _ _ => (pg_name (i := 5) sc_Outline_fit_at.nd rfl (Or.inl rfl))) (fun _ _ _ _ _ => pts_nil) (fun _ _ _ _ _ => (pe_op (k_add (K := K) rfl) (pe_ix (k_ix (K := K) rfl) (pv 5) pe_int (fun _ _ => rfl)) (pe_ix (k_ix (K := K) rfl) (pv 5) pe_int (fun _ _ => rfl)))))
      (pss_one (ps_ret (pe_callB (k_min (K := K) rfl rfl) (by rfl) B.min_ (by decide +kernel) (pa_cons (pe_lc (own := [("end", 6)]) (by rfl) sc_Outline_fit_at.nd (kpi_list (K := K) rfl (pv 4)) (blkOk_by (own := [("end", 6)]) (N := ["self", "need", "high", "top", "ends", "piece", "end"]) (sc := defScope s_Outline_fit_at) (by decide +kernel)) (fun _ _ _ _ _ => (pg_name (i := 6) sc_Outline_fit_at.nd rfl (Or.inl rfl))) (fun _ _ _ _ _ => (pts_one (pw_and (pt_cmpR op_gt (pv 6) (pv 3) (nomark _)) (pw_and1 (pt_val (pe_met (pv 0) t_Outline_is_good (hr.mono (by decide)) (pa_cons (pv 1) (pa_cons (pv 2) (pa_cons (pv 6) pa_nil))))))).pt)) (fun _ _ _ _ _ => (pv 6))) pa_nil)))))), ?_⟩
    try dsimp only [cxOf, Cx.nox, Cx.wish, Cx.blk]
    wtm_at "n"
    refine n_good w h1 h2 hl fun H1 w => ?_
    cases hg : goodB W ps need high top with
    | true =>
      wtm_at "n"
      rw [fitI, hg, if_pos rfl] at k
      exact k _ w
    | false =>
      rw [fitI, hg, if_neg (by simp)] at k
      wtm_at "n"
      refine n_lcMapI (f := fun x : Pc => x.a + x.h) w (.ml h2) (by omega) (fun v => rfl) ?_ ?_
      · intro x y D acc H0 C _ w kc
        wtm_at "n"
        exact kc _ (by wtm_at "wf")
      intro pe H2 w
      wtm_at "n"
      change Wf F H2 (.ml pe ((endsL ps).map D.int) :: M) at w
      have hel : (endsL ps).length = ps.length := by simp [endsL]
      refine n_lcG w (.ml List.mem_cons_self) (fun i acc => acc = (((endsL ps).take i).filter fun e => decide (e > top) && goodB W ps need high e).map D.int) rfl (by rw [List.length_map]; omega) ?_ ?_
      · intro i d y Dp acc H0 Ap Sk hd hR w kA kS
        obtain ⟨x, hx, rfl⟩ := map_get hd
        obtain ⟨rfl, w1⟩ := w.eq0
        subst hR
        have hy : (decide (x > top) && goodB W ps need high x) = true → (((endsL ps).take i).filter fun e => decide (e > top) && goodB W ps need high e).map D.int ++ [D.int x] = (((endsL ps).take (i + 1)).filter fun e => decide (e > top) && goodB W ps need high e).map D.int := fun h => by
          rw [take_snoc hx, List.filter_append, List.map_append, List.filter_cons_of_pos (p := fun e => decide (e > top) && goodB W ps need high e) (a := x) (l := []) h]
          rfl
        have hn : (decide (x > top) && goodB W ps need high x) = false → (((endsL ps).take i).filter fun e => decide (e > top) && goodB W ps need high e).map D.int = (((endsL ps).take (i + 1)).filter fun e => decide (e > top) && goodB W ps need high e).map D.int := fun h => by
          rw [take_snoc hx, List.filter_append, List.map_append, List.filter_cons_of_neg (p := fun e => decide (e > top) && goodB W ps need high e) (a := x) (l := []) (by rw [h]; simp)]
          simp
        wtm_at "n"
        refine ⟨rfl, ?_⟩
        wtm_at "n"
        wtm_at "fork"
        · rename_i h3
          wtm_at "n"
          refine n_good w1 (List.mem_cons_of_mem _ (List.mem_cons_of_mem _ h1)) (List.mem_cons_of_mem _ (List.mem_cons_of_mem _ h2)) hl fun H5 w => ?_
          cases hgx : goodB W ps need high x with
          | true =>
            wtm_at "n"
            exact kA _ _ _ (Wf.add (by wtm_at "wf") (.int _)) (hy (by rw [hgx, decide_eq_true h3]; rfl))
          | false =>
            wtm_at "n"
            exact kS _ (by wtm_at "wf") (hn (by rw [hgx, Bool.and_false]))
        · rename_i h3
          wtm_at "n"
          exact kS _ (by wtm_at "wf") (hn (by rw [decide_eq_false h3, Bool.false_and]))
      intro p es H' hR w
      rw [List.length_map, List.take_length] at hR
      subst hR
      have hne := fits_ne hp hh hg
      wtm_at "n"
      refine n_min (ns := fitsL W ps need high top) w (.ml List.mem_cons_self) (List.length_pos_iff.mpr hne) fun m hm hle => ?_
      have e : (fitsL W ps need high top).min? = some m := List.min?_eq_some_iff.mpr ⟨hm, hle⟩
      rw [e] at k
      exact k _ (by wtm_at "wf")
abbrev s_Outline_put : Stmt := inClass (top 16) 5
theorem sc_Outline_put : FnScope ["self", "side", "wide", "high", "top", "start", "at", "begin", "breadth", "left"] ["self", "side", "wide", "high", "top"] (defScope s_Outline_put) := ⟨rfl, rfl, rfl, by decide +kernel, rfl, by decide +kernel, by decide +kernel⟩
/-- where the search for a place begins -/
def staI (ps : List Pc) (top : Int) : Int := match ps.getLast? with
  | some x => if x.a > top then x.a else top
  | none => top
/-- a piece put -/
def pcP (W : Int) (ps : List Pc) (sd : Bool) (wide high top : Int) : Pc :=
  let at_ := fitI W ps wide high (staI ps top)
  { sd := sd, l := if sd then begI W ps at_ high else (if begI W ps at_ high + wdI W ps at_ high - wide > 0 then begI W ps at_ high + wdI W ps at_ high - wide else 0), a := at_, w := wide, h := high }
def sp_Outline_put (C : Addr) : Sp := fun vs H Q _ => ∃ F M M' po pl sd, ∃ (W wide high top : Int) (ps : List Pc), vs = [.ref po, .str (sdS sd), .int wide, .int high, .int top] ∧ Wf F H M ∧ .mi po C (olF W pl) ∈ M ∧ .ml pl (ps.map pcD) ∈ M ∧ Foc M (.ml pl (ps.map pcD)) M' (.ml pl ((ps ++ [pcP W ps sd wide high top]).map pcD)) ∧ ps.length < 24 ∧ (∀ x ∈ ps, 0 < x.h) ∧ 1 ≤ wide ∧ wide ≤ 1000000 ∧ 1 ≤ high ∧ high ≤ 1000000 ∧ 0 ≤ top ∧ top ≤ 1000000000000 ∧
  ∀ r H', Wf ((r, .tup [.int (pcP W ps sd wide high top).l, .int (pcP W ps sd wide high top).a]) :: F) H' M' → Q r H'
theorem n_put {C : Addr} {F : List (V × D)} {H : Hp} {M M' : List ME} {po pl : Addr} {sd : Bool} {W wide high top : Int} {ps : List Pc} {Q : VK} {E : XK} (w : Wf F H M) (h1 : .mi po C (olF W pl) ∈ M) (h2 : .ml pl (ps.map pcD) ∈ M) (f : Foc M (.ml pl (ps.map pcD)) M' (.ml pl ((ps ++ [pcP W ps sd wide high top]).map pcD))) (hl : ps.length < 24) (hp : ∀ x ∈ ps, 0 < x.h) (w1 : 1 ≤ wide) (w2 : wide ≤ 1000000) (g1 : 1 ≤ high) (g2 : high ≤ 1000000) (t0 : 0 ≤ top) (t1 : top ≤ 1000000000000)
  (q : ∀ r H', Wf ((r, .tup [.int (pcP W ps sd wide high top).l, .int (pcP W ps sd wide high top).a]) :: F) H' M' → Q r H') : sp_Outline_put C (.ref po :: ([.str (sdS sd), .int wide, .int high, .int top] ++ [])) H Q E := ⟨F, M, M', po, pl, sd, W, wide, high, top, ps, rfl, w, h1, h2, f, hl, hp, w1, w2, g1, g2, t0, t1, q⟩

theorem ok_Outline_put {f : Addr} {fd : FuncData} (F : Fun K "put" "Outline.put" s_Outline_put f fd) (B : Bn mg) (c_look_at_piece : Cal P w K mg base "look_at_piece" 4 ["side", "wide", "high"] [] sp_look_at_piece) (c_is_length : Cal P w K mg base "is_length" 2 ["thing"] [] (sp_is_length K)) (t_Outline_fit_at : Met P w K mg base "fit_at" C_Outline 4 ["self", "need", "high", "top"] [] (sp_Outline_fit_at C_Outline)) (t_Outline_room_at : Met P w K mg base "room_at" C_Outline 2 ["self", "top", "high"] [] (sp_Outline_room_at C_Outline)) (o_Outline : OwnC K C_Outline) (n_Outline : ∀ f ∈ (["whole_wide", "pieces"] : List Str), NoAttr K C_Outline f) (g_MOST_PIECES : ∃ t, mg "MOST_PIECES" = some (.int 24 t))  : FnOk P w K mg base CX0 5 f fd ["self", "side", "wide", "high", "top"] (sp_Outline_put C_Outline) := by
  refine F.ok sc_Outline_put (fun vs H Q E h => ?_) (fun cdv A outer s H vs Q E hr h => ?_)
  · obtain ⟨F, M, M', po, pl, sd, W, wide, high, top, ps, rfl, w, h1, h2, f, hl, hp, w1, w2, g1, g2, t0, t1, k⟩ := h
    all_goals rfl
  · obtain ⟨F, M, M', po, pl, sd, W, wide, high, top, ps, rfl, w, h1, h2, f, hl, hp, w1, w2, g1, g2, t0, t1, k⟩ := h
    refine ⟨_, (pss_cons (ps_expr (pe_cal c_look_at_piece (hr.mono (by decide)) (by rfl) (pa_cons (pv 1) (pa_cons (pv 2) (pa_cons (pv 3) pa_nil)))))
      (pss_cons (ps_if (pt_not (pt_val (pe_cal c_is_length (hr.mono (by decide)) (by rfl) (pa_cons (pv 4) pa_nil)))) pss_never pss_nil)
      (pss_cons (ps_if (pt_cmpR op_ge (pe_callB (k_len (K := K) rfl) (by rfl) B.len_ (by decide +kernel) (pa_cons (kpe_fld (K := K) rfl (pv 0) rfl) pa_nil)) (pe_globI (by rfl) g_MOST_PIECES) (nomark _)) pss_never pss_nil)
      (pss_cons (ps_set (i := 5) sc_Outline_put.nd rfl (Or.inl rfl) (pv 4))
      (pss_cons (ps_if (pt_cmpR op_gt (pe_callB (k_len (K := K) rfl) (by rfl) B.len_ (by decide +kernel) (pa_cons (kpe_fld (K := K) rfl (pv 0) rfl) pa_nil)) pe_int (nomark _)) (pss_one (ps_set (i := 5) sc_Outline_put.nd rfl (Or.inl rfl) (pe_callB (k_max (K := K) rfl rfl) (by rfl) B.max_ (by decide +kernel) (pa_cons (pv 4) (pa_cons (pe_ix (k_ix (K := K) rfl) (pe_ix (k_ix (K := K) rfl) (kpe_fld (K := K) rfl (pv 0) rfl) (pe_un un_neg pe_int) (fun _ _ => rfl)) pe_int (fun _ _ => rfl)) pa_nil))))) pss_nil)
      (pss_cons (ps_set (i := 6) sc_Outline_put.nd rfl (Or.inl rfl) (pe_met (pv 0) t_Outline_fit_at (hr.mono (by decide)) (pa_cons (pv 2) (pa_cons (pv 3) (pa_cons (pv 5) pa_nil)))))
      (pss_cons (ps_asg (pe_met (pv 0) t_Outline_room_at (hr.mono (by decide)) (pa_cons (pv 6) (pa_cons (pv 3) pa_nil))) (kpg_tup (K := K) (n := 2) rfl rfl (pgs_cons (pg_name (i := 7) sc_Outline_put.nd rfl (Or.inl rfl)) (pgs_cons (pg_name (i := 8) sc_Outline_put.nd rfl (Or.inl rfl)) pgs_nil))))
      (pss_cons (ps_set (i := 9) sc_Outline_put.nd rfl (Or.inl rfl) (pv 7))
      (pss_cons (ps_if (pt_cmpR (k_eq (K := K) rfl hr.units) (pv 1) pe_str (nomark _)) (pss_one (ps_set (i := 9) sc_Outline_put.nd rfl (Or.inl rfl) (pe_callB (k_max (K := K) rfl rfl) (by rfl) B.max_ (by decide +kernel) (pa_cons pe_int (pa_cons (pe_op op_sub (pe_op (k_add (K := K) rfl) (pv 7) (pv 8)) (pv 2)) pa_nil))))) pss_nil)
      (pss_cons (ps_expr (pe_bm PySem.F.plainAttrs_list PySem.F.slot_list_append PySem.F.type_list_append mt_append (kpe_fld (K := K) rfl (pv 0) rfl) (pa_cons (pe_tup (pa_cons (pv 1) (pa_cons (pv 9) (pa_cons (pv 6) (pa_cons (pv 2) (pa_cons (pv 3) pa_nil)))))) pa_nil)))
      (pss_one (ps_ret (pe_tup (pa_cons (pv 9) (pa_cons (pv 6) pa_nil))))))))))))))), ?_⟩
    try dsimp only [cxOf, Cx.nox, Cx.wish, Cx.blk]
    wtm_at "n"
    refine n_lookp w1 w2 g1 g2 ?_
    wtm_at "n"
    refine use_is_length (I := H) (M := []) Fs.W.self t0 t1 ?_
    wtm_at "n"
    rw [List.length_map]
    refine s_iteDn (by omega) ?_
    wtm_at "st2"
    with_reducible refine s_next ?_
    with_reducible refine s_seq ?_
    wtm_at "st2"
    with_reducible refine s_mid (fun σ' H' => σ' = [some (.ref po), some (.str (sdS sd)), some (.int wide), some (.int high), some (.int top), some (.int (staI ps top)), none, none, none, none] ∧ Wf F H' M) ?_ (fun N fin => ?_)
    rotate_left
    · wtm_at "n"
      rw [List.length_map]
      wtm_at "fork"
      · rename_i hpos
        obtain ⟨x, e1, e2⟩ := last_pc (ps := ps) (by omega)
        wtm_at "n"
        refine n_ixL w (.ml h2) e2 fun y w => ?_
        wtm_at "n"
        exact fin _ _ ⟨by rw [staI, e1]; rfl, by wtm_at "wf"⟩
      · rename_i hpos
        have e : ps = [] := List.eq_nil_of_length_eq_zero (by omega)
        wtm_at "n"
        exact fin _ _ ⟨by rw [e]; rfl, w⟩
    rintro σ' H' ⟨rfl, w⟩
    wtm_at "n"
    refine n_fit w h1 h2 (by omega) hp (by omega) fun H2 w => ?_
    wtm_at "n"
    refine n_room w h1 h2 (by omega) fun r H3 w => ?_
    wtm_at "n"
    rw [sd_eqR]
    rw [List.map_append] at f
    cases sd with
    | true =>
      wtm_at "n"
      rename_i pt Ht w
      refine n_app w f (.mem List.mem_cons_self) (by rw [List.length_map]; omega) fun H5 w => ?_
      wtm_at "n"
      rename_i pz Hz wz
      exact k _ _ (wz.sub (.cons (.mem List.mem_cons_self) (KS.refl.drop.drop.drop)) (.refl _))
    | false =>
      wtm_at "n"
      rename_i pt Ht w
      refine n_app w f (.mem List.mem_cons_self) (by rw [List.length_map]; omega) fun H5 w => ?_
      wtm_at "n"
      rename_i pz Hz wz
      exact k _ _ (wz.sub (.cons (.mem List.mem_cons_self) (KS.refl.drop.drop.drop)) (.refl _))
abbrev s_Outline_clear_at : Stmt := inClass (top 16) 6
theorem sc_Outline_clear_at : FnScope ["self", "top", "piece"] ["self", "top"] (defScope s_Outline_clear_at) := ⟨rfl, rfl, rfl, by decide +kernel, rfl, by decide +kernel, by decide +kernel⟩
def sp_Outline_clear_at (C : Addr) : Sp := fun vs H Q _ => ∃ F M po pl, ∃ (W top : Int) (ps : List Pc), vs = [.ref po, .int top] ∧ Wf F H M ∧ .mi po C (olF W pl) ∈ M ∧ .ml pl (ps.map pcD) ∈ M ∧ ps.length ≤ 24 ∧ ∀ m H', m ∈ top :: endsL ps → (∀ y ∈ top :: endsL ps, y ≤ m) → Wf F H' M → Q (.int m) H'
theorem n_clr {C : Addr} {F : List (V × D)} {H : Hp} {M : List ME} {po pl : Addr} {W top : Int} {ps : List Pc} {Q : VK} {E : XK} (w : Wf F H M) (h1 : .mi po C (olF W pl) ∈ M) (h2 : .ml pl (ps.map pcD) ∈ M) (hl : ps.length ≤ 24) (q : ∀ m H', m ∈ top :: endsL ps → (∀ y ∈ top :: endsL ps, y ≤ m) → Wf F H' M → Q (.int m) H') : sp_Outline_clear_at C (.ref po :: ([.int top] ++ [])) H Q E := ⟨F, M, po, pl, W, top, ps, rfl, w, h1, h2, hl, q⟩

theorem ok_Outline_clear_at {f : Addr} {fd : FuncData} (F : Fun K "clear_at" "Outline.clear_at" s_Outline_clear_at f fd) (B : Bn mg) (o_Outline : OwnC K C_Outline) (n_Outline : ∀ f ∈ (["whole_wide", "pieces"] : List Str), NoAttr K C_Outline f)  : FnOk P w K mg base CX0 1 f fd ["self", "top"] (sp_Outline_clear_at C_Outline) := by
  refine F.ok sc_Outline_clear_at (fun vs H Q E h => ?_) (fun cdv A outer s H vs Q E hr h => ?_)
  · obtain ⟨F, M, po, pl, W, top, ps, rfl, w, h1, h2, hl, k⟩ := h
    all_goals rfl
  · obtain ⟨F, M, po, pl, W, top, ps, rfl, w, h1, h2, hl, k⟩ := h
    refine ⟨_, (pss_one (ps_ret (pe_callB (k_max (K := K) rfl rfl) (by rfl) B.max_ (by decide +kernel) (pa_cons (pe_op (k_add (K := K) rfl) (pe_lst (pa_cons (pv 1) pa_nil)) (pe_lc (own := [("piece", 2)]) (by rfl) sc_Outline_clear_at.nd (kpi_list (K := K) rfl (kpe_fld (K := K) rfl (pv 0) rfl)) (blkOk_by (own := [("piece", 2)]) (N := ["self", "top", "piece"]) (sc := defScope s_Outline_clear_at) (by decide +kernel)) (fun _ _ _ _ _ => (pg_name (i := 2) sc_Outline_clear_at.nd rfl (Or.inl rfl))) (fun _ _ _ _ _ => pts_nil) (fun _ _ _ _ _ => (pe_op (k_add (K := K) rfl) (pe_ix (k_ix (K := K) rfl) (pv 2) pe_int (fun _ _ => rfl)) (pe_ix (k_ix (K := K) rfl) (pv 2) pe_int (fun _ _ => rfl)))))) pa_nil)))), ?_⟩
    try dsimp only [cxOf, Cx.nox, Cx.wish, Cx.blk]
    wtm_at "n"
    rename_i pt Ht w
    refine n_lcMapI (f := fun x : Pc => x.a + x.h) w (.ml (List.mem_cons_of_mem _ h2)) (by omega) (fun v => rfl) ?_ ?_
    · intro x y D acc H0 C _ w kc
      wtm_at "n"
      exact kc _ (by wtm_at "wf")
    intro pe H2 w
    change Wf F H2 (.ml pe ((endsL ps).map D.int) :: .ml pt [.int top] :: M) at w
    wtm_at "n"
    refine n_cat w (ds := [.int top]) (es := (endsL ps).map D.int) (by wtm_at "rk") (by wtm_at "rk") (by simp [endsL]; omega) fun pc H3 w => ?_
    wtm_at "n"
    refine n_max (ns := top :: endsL ps) w (.ml List.mem_cons_self) (by simp) fun m hm hle => ?_
    exact k m _ hm hle (by wtm_at "wf")
abbrev s_Outline_rects : Stmt := inClass (top 16) 7
theorem sc_Outline_rects : FnScope ["self", "side", "left", "at", "wide", "high"] ["self"] (defScope s_Outline_rects) := ⟨rfl, rfl, rfl, by decide +kernel, rfl, by decide +kernel, by decide +kernel⟩
def sp_Outline_rects (C : Addr) : Sp := fun vs H Q _ => ∃ F M po pl, ∃ (W : Int) (ps : List Pc), vs = [.ref po] ∧ Wf F H M ∧ .mi po C (olF W pl) ∈ M ∧ .ml pl (ps.map pcD) ∈ M ∧ ps.length ≤ 24 ∧ ∀ p H', Wf F H' (.ml p (ps.map rcD) :: M) → Q (.ref p) H'
theorem n_rects {C : Addr} {F : List (V × D)} {H : Hp} {M : List ME} {po pl : Addr} {W : Int} {ps : List Pc} {Q : VK} {E : XK} (w : Wf F H M) (h1 : .mi po C (olF W pl) ∈ M) (h2 : .ml pl (ps.map pcD) ∈ M) (hl : ps.length ≤ 24) (q : ∀ p H', Wf F H' (.ml p (ps.map rcD) :: M) → Q (.ref p) H') : sp_Outline_rects C (.ref po :: ([] ++ [])) H Q E := ⟨F, M, po, pl, W, ps, rfl, w, h1, h2, hl, q⟩

theorem ok_Outline_rects {f : Addr} {fd : FuncData} (F : Fun K "rects" "Outline.rects" s_Outline_rects f fd) (B : Bn mg) (o_Outline : OwnC K C_Outline) (n_Outline : ∀ f ∈ (["whole_wide", "pieces"] : List Str), NoAttr K C_Outline f)  : FnOk P w K mg base CX0 1 f fd ["self"] (sp_Outline_rects C_Outline) := by
  refine F.ok sc_Outline_rects (fun vs H Q E h => ?_) (fun cdv A outer s H vs Q E hr h => ?_)
  · obtain ⟨F, M, po, pl, W, ps, rfl, w, h1, h2, hl, k⟩ := h
    all_goals rfl
  · obtain ⟨F, M, po, pl, W, ps, rfl, w, h1, h2, hl, k⟩ := h
    refine ⟨_, (pss_one (ps_ret (pe_lc (own := [("side", 1), ("left", 2), ("at", 3), ("wide", 4), ("high", 5)]) (by rfl) sc_Outline_rects.nd (kpi_list (K := K) rfl (kpe_fld (K := K) rfl (pv 0) rfl)) (blkOk_by (own := [("side", 1), ("left", 2), ("at", 3), ("wide", 4), ("high", 5)]) (N := ["self", "side", "left", "at", "wide", "high"]) (sc := defScope s_Outline_rects) (by decide +kernel)) (fun _ _ _ _ _ => (kpg_tup (K := K) (n := 5) rfl rfl (pgs_cons (pg_name (i := 1) sc_Outline_rects.nd rfl (Or.inl rfl)) (pgs_cons (pg_name (i := 2) sc_Outline_rects.nd rfl (Or.inl rfl)) (pgs_cons (pg_name (i := 3) sc_Outline_rects.nd rfl (Or.inl rfl)) (pgs_cons (pg_name (i := 4) sc_Outline_rects.nd rfl (Or.inl rfl)) (pgs_cons (pg_name (i := 5) sc_Outline_rects.nd rfl (Or.inl rfl)) pgs_nil))))))) (fun _ _ _ _ _ => pts_nil) (fun _ _ _ _ _ => (pe_tup (pa_cons (pv 2) (pa_cons (pv 3) (pa_cons (pv 4) (pa_cons (pv 5) pa_nil))))))))), ?_⟩
    try dsimp only [cxOf, Cx.nox, Cx.wish, Cx.blk]
    wtm_at "n"
    refine n_lcG w (.ml h2) (fun i acc => acc = (ps.take i).map rcD) rfl (by rw [List.length_map]; omega) ?_ ?_
    · intro i d y Dp acc H0 Ap Sk hd hR w kA kS
      obtain ⟨x, hx, rfl⟩ := map_get hd
      refine n_gtup5 w (by wtm_at "rk") fun v0 v1 v2 v3 v4 w => ?_
      obtain ⟨rfl, w1⟩ := w.str0
      obtain ⟨rfl, w2⟩ := w1.eq0
      obtain ⟨rfl, w3⟩ := w2.eq0
      obtain ⟨rfl, w4⟩ := w3.eq0
      obtain ⟨rfl, w5⟩ := w4.eq0
      clear w w1 w2 w3 w4
      wtm_at "n"
      refine ⟨rfl, ?_⟩
      wtm_at "n"
      rename_i pz Hz wz
      refine kA _ (rcD x) _ (by wtm_at "wf") ?_
      rw [hR, take_snoc hx, List.map_append]
      rfl
    intro p es H' hR w
    rw [List.length_map, List.take_length] at hR
    subst hR
    exact k p _ w
abbrev s_Outline_beneath : Stmt := inClass (top 16) 8
theorem sc_Outline_beneath : FnScope ["self", "top", "last", "view", "side", "left", "at", "wide", "high", "edge"] ["self", "top"] (defScope s_Outline_beneath) := ⟨rfl, rfl, rfl, by decide +kernel, rfl, by decide +kernel, by decide +kernel⟩
def vwB (top : Int) (x : Pc) : Bool := decide (x.a + x.h > top)
def vwD (top : Int) (x : Pc) : D := .tup [.str (sdS x.sd), .int (if x.sd then x.l + x.w else x.l), .int (if x.a - top > 0 then x.a - top else 0), .int (x.a + x.h - top)]
def vwL (ps : List Pc) (top : Int) : List D := (ps.filter (vwB top)).map (vwD top)
def lasI (ps : List Pc) (top : Int) : Int := match ps.getLast? with
  | some x => if x.a - top > 0 then x.a - top else 0
  | none => 0
def sp_Outline_beneath (C : Addr) : Sp := fun vs H Q _ => ∃ F M po pl, ∃ (W top : Int) (ps : List Pc), vs = [.ref po, .int top] ∧ Wf F H M ∧ .mi po C (olF W pl) ∈ M ∧ .ml pl (ps.map pcD) ∈ M ∧ ps.length ≤ 24 ∧ ∀ r p H', Wf ((r, .tup [.int (lasI ps top), .ref p]) :: F) H' (.ml p (vwL ps top) :: M) → Q r H'
theorem n_ben {C : Addr} {F : List (V × D)} {H : Hp} {M : List ME} {po pl : Addr} {W top : Int} {ps : List Pc} {Q : VK} {E : XK} (w : Wf F H M) (h1 : .mi po C (olF W pl) ∈ M) (h2 : .ml pl (ps.map pcD) ∈ M) (hl : ps.length ≤ 24) (q : ∀ r p H', Wf ((r, .tup [.int (lasI ps top), .ref p]) :: F) H' (.ml p (vwL ps top) :: M) → Q r H') : sp_Outline_beneath C (.ref po :: ([.int top] ++ [])) H Q E := ⟨F, M, po, pl, W, top, ps, rfl, w, h1, h2, hl, q⟩

theorem ok_Outline_beneath {f : Addr} {fd : FuncData} (F : Fun K "beneath" "Outline.beneath" s_Outline_beneath f fd) (B : Bn mg) (o_Outline : OwnC K C_Outline) (n_Outline : ∀ f ∈ (["whole_wide", "pieces"] : List Str), NoAttr K C_Outline f)  : FnOk P w K mg base CX0 1 f fd ["self", "top"] (sp_Outline_beneath C_Outline) := by
  refine F.ok sc_Outline_beneath (fun vs H Q E h => ?_) (fun cdv A outer s H vs Q E hr h => ?_)
  · obtain ⟨F, M, po, pl, W, top, ps, rfl, w, h1, h2, hl, k⟩ := h
    all_goals rfl
  · obtain ⟨F, M, po, pl, W, top, ps, rfl, w, h1, h2, hl, k⟩ := h
    refine ⟨_, (pss_cons (ps_set (i := 2) sc_Outline_beneath.nd rfl (Or.inl rfl) pe_int)
      (pss_cons (ps_if (pt_cmpR op_gt (pe_callB (k_len (K := K) rfl) (by rfl) B.len_ (by decide +kernel) (pa_cons (kpe_fld (K := K) rfl (pv 0) rfl) pa_nil)) pe_int (nomark _)) (pss_one (ps_set (i := 2) sc_Outline_beneath.nd rfl (Or.inl rfl) (pe_callB (k_max (K := K) rfl rfl) (by rfl) B.max_ (by decide +kernel) (pa_cons pe_int (pa_cons (pe_op op_sub (pe_ix (k_ix (K := K) rfl) (pe_ix (k_ix (K := K) rfl) (kpe_fld (K := K) rfl (pv 0) rfl) (pe_un un_neg pe_int) (fun _ _ => rfl)) pe_int (fun _ _ => rfl)) (pv 1)) pa_nil))))) pss_nil)
      (pss_cons (ps_set (i := 3) sc_Outline_beneath.nd rfl (Or.inl rfl) (pe_lst pa_nil))
      (pss_cons (ps_for PassesOwn.never rfl (kpi_list (K := K) rfl (kpe_fld (K := K) rfl (pv 0) rfl)) (kpg_tup (K := K) (n := 5) rfl rfl (pgs_cons (pg_name (i := 4) sc_Outline_beneath.nd rfl (Or.inl rfl)) (pgs_cons (pg_name (i := 5) sc_Outline_beneath.nd rfl (Or.inl rfl)) (pgs_cons (pg_name (i := 6) sc_Outline_beneath.nd rfl (Or.inl rfl)) (pgs_cons (pg_name (i := 7) sc_Outline_beneath.nd rfl (Or.inl rfl)) (pgs_cons (pg_name (i := 8) sc_Outline_beneath.nd rfl (Or.inl rfl)) pgs_nil)))))) (pss_one (ps_if (pt_cmpR op_gt (pe_op (k_add (K := K) rfl) (pv 6) (pv 8)) (pv 1) (nomark _)) (pss_cons (ps_set (i := 9) sc_Outline_beneath.nd rfl (Or.inl rfl) (pv 5))
      (pss_cons (ps_if (pt_cmpR (k_eq (K := K) rfl hr.units) (pv 4) pe_str (nomark _)) (pss_one (ps_set (i := 9) sc_Outline_beneath.nd rfl (Or.inl rfl) (pe_op (k_add (K := K) rfl) (pv 5) (pv 7)))) pss_nil)
      (pss_one (ps_expr (pe_bm PySem.F.plainAttrs_list PySem.F.slot_list_append PySem.F.type_list_append mt_append (pv 3) (pa_cons (pe_tup (pa_cons (pv 4) (pa_cons (pv 9) (pa_cons (pe_callB (k_max (K := K) rfl rfl) (by rfl) B.max_ (by decide +kernel) (pa_cons pe_int (pa_cons (pe_op op_sub (pv 6) (pv 1)) pa_nil))) (pa_cons (pe_op op_sub (pe_op (k_add (K := K) rfl) (pv 6) (pv 8)) (pv 1)) pa_nil))))) pa_nil)))))) pss_nil)))
      (pss_one (ps_ret (pe_tup (pa_cons (pv 2) (pa_cons (pv 3) pa_nil))))))))), ?_⟩
    try dsimp only [cxOf, Cx.nox, Cx.wish, Cx.blk]
    with_reducible refine s_seq ?_
    wtm_at "st2"
    with_reducible refine s_mid (fun σ' H' => σ' = [some (.ref po), some (.int top), some (.int (lasI ps top)), none, none, none, none, none, none, none] ∧ Wf F H' M) ?_ (fun N fin => ?_)
    rotate_left
    · wtm_at "n"
      rw [List.length_map]
      wtm_at "fork"
      · rename_i hpos
        obtain ⟨x, e1, e2⟩ := last_pc (ps := ps) (by omega)
        wtm_at "n"
        refine n_ixL w (.ml h2) e2 fun y w => ?_
        wtm_at "n"
        exact fin _ _ ⟨by rw [lasI, e1]; rfl, by wtm_at "wf"⟩
      · rename_i hpos
        have e : ps = [] := List.eq_nil_of_length_eq_zero (by omega)
        wtm_at "n"
        exact fin _ _ ⟨by rw [e]; rfl, w⟩
    rintro σ' H' ⟨rfl, w⟩
    wtm_at "n"
    rename_i pv H2 w
    refine n_forL w (fun i σ' F' M' => ∃ x4 x5 x6 x7 x8 x9, σ' = [some (.ref po), some (.int top), some (.int (lasI ps top)), some (.ref pv), x4, x5, x6, x7, x8, x9] ∧ F = F' ∧ M' = .ml pv (vwL (ps.take i) top) :: M) (by rintro i σ' F' M' ⟨_, _, _, _, _, _, _, rfl, rfl⟩; exact .ml (List.mem_cons_of_mem _ h2)) ⟨_, _, _, _, _, _, rfl, rfl, rfl⟩ ?_ ?_
    · rintro i d y σ' H' F' M' hd ⟨x4, x5, x6, x7, x8, x9, rfl, rfl, rfl⟩ w
      obtain ⟨x, hx, rfl⟩ := map_get hd
      have hi : i < ps.length := (List.getElem?_eq_some_iff.mp hx).1
      have hy : vwB top x = true → vwL (ps.take (i + 1)) top = vwL (ps.take i) top ++ [vwD top x] := fun h => by
        unfold vwL
        rw [take_snoc hx, List.filter_append, List.map_append, List.filter_cons_of_pos h]
        rfl
      have hn : vwB top x = false → vwL (ps.take (i + 1)) top = vwL (ps.take i) top := fun h => by
        unfold vwL
        rw [take_snoc hx, List.filter_append, List.map_append, List.filter_cons_of_neg (by rw [h]; simp)]
        simp
      have hvl : (vwL (ps.take i) top).length ≤ 24 := by
        unfold vwL
        rw [List.length_map]
        have := List.length_filter_le (vwB top) (ps.take i)
        rw [List.length_take] at this
        omega
      refine n_gtup5 w (by wtm_at "rk") fun v0 v1 v2 v3 v4 w => ?_
      obtain ⟨rfl, w1⟩ := w.str0
      obtain ⟨rfl, w2⟩ := w1.eq0
      obtain ⟨rfl, w3⟩ := w2.eq0
      obtain ⟨rfl, w4⟩ := w3.eq0
      obtain ⟨rfl, w5⟩ := w4.eq0
      clear w w1 w2 w3 w4
      wtm_at "n"
      wtm_at "fork"
      · rename_i h3
        have hv := hy (decide_eq_true h3)
        wtm_at "n"
        rw [sd_eq]
        rw [vwD] at hv
        cases hs : x.sd with
        | true =>
          rw [hs, if_pos rfl] at hv
          wtm_at "n"
          refine ⟨_, _, ⟨_, _, _, _, _, _, rfl, rfl, rfl⟩, ?_⟩
          rw [hv]
          wtm_at "wf"
        | false =>
          rw [hs, if_neg (by simp)] at hv
          wtm_at "n"
          refine ⟨_, _, ⟨_, _, _, _, _, _, rfl, rfl, rfl⟩, ?_⟩
          rw [hv]
          wtm_at "wf"
      · rename_i h3
        wtm_at "n"
        exact ⟨_, _, ⟨_, _, _, _, _, _, rfl, rfl, by rw [hn (decide_eq_false h3)]⟩, by wtm_at "wf"⟩
    · rintro σ' H' F' M' ⟨x4, x5, x6, x7, x8, x9, rfl, rfl, rfl⟩ w
      rw [List.length_map, List.take_length] at w
      wtm_at "n"
      refine n_newT w (.cons (.int _) (.cons (.ref _) .nil)) (by simp) fun t H6 w => ?_
      exact k _ _ _ w
abbrev s__law_bag : Stmt := top 18
theorem sc__law_bag : FnScope ["_law_script", "_law_cell"] ["_law_script"] (defScope s__law_bag) := ⟨rfl, rfl, rfl, by decide +kernel, rfl, by decide +kernel, by decide +kernel⟩
def sp__law_bag (K : PySem.W.Frag) : Sp := fun vs H Q _ => ∃ I M a, ∃ ns : List Int, vs = [.ref a] ∧ W I H M ∧ SqL K H a (ns.map V.int) ∧ ∀ p c o J H', Same I J → W J H' ((p, o) :: M) → Bag J c o → Q (.ref p) H'
theorem use_bag {K : PySem.W.Frag} {H : Hp} {a : Addr} {ns : List Int} {Q : VK} {E : XK} (hS : SqL K H a (ns.map V.int)) (q : ∀ p c o J H', W J H' ((p, o) :: []) → Bag J c o → Q (.ref p) H') : sp__law_bag K ([.ref a] ++ []) H Q E :=
  ⟨_, _, a, ns, rfl, W.zero, hS, fun p c o J H' _ w b => q p c o J H' w b⟩
theorem n_bag {K : PySem.W.Frag} {H : Hp} {a : Addr} {ns : List Int} {Q : VK} {E : XK} (hS : SqL K H a (ns.map V.int)) (q : ∀ p H', Wf [] H' [.bag p] → Q (.ref p) H') : sp__law_bag K ([.ref a] ++ []) H Q E :=
  use_bag hS fun p c o J H' w hb => q p H' ⟨J, _, w, .cons (.bag hb) .nil, fun _ h => nomatch h⟩

theorem ok__law_bag {f : Addr} {fd : FuncData} (F : Fun K "_law_bag" "_law_bag" s__law_bag f fd) (B : Bn mg)  : FnOk P w K mg base CX0 1 f fd ["_law_script"] (sp__law_bag K) := by
  refine F.ok sc__law_bag (fun vs H Q E h => ?_) (fun cdv A outer s H vs Q E hr h => ?_)
  · obtain ⟨I, M, a, ns, rfl, w, hS, k⟩ := h
    all_goals rfl
  · obtain ⟨I, M, a, ns, rfl, w, hS, k⟩ := h
    refine ⟨_, (pss_one (ps_ret (pe_lst (pa_cons pe_int (pa_cons pe_int (pa_cons pe_int (pa_cons (pe_lc (own := [("_law_cell", 1)]) (by rfl) sc__law_bag.nd (kpi_list (K := K) rfl (pe_slice (k_sl (K := K) rfl) (pv 0) po_none (po_some pe_int))) (blkOk_by (own := [("_law_cell", 1)]) (N := ["_law_script", "_law_cell"]) (sc := defScope s__law_bag) (by decide +kernel)) (fun _ _ _ _ _ => (pg_name (i := 1) sc__law_bag.nd rfl (Or.inl rfl))) (fun _ _ _ _ _ => pts_nil) (fun _ _ _ _ _ => (pe_callB uc_abs (by rfl) B.abs_ (by decide +kernel) (pa_cons (pv 1) pa_nil)))) pa_nil))))))), ?_⟩
    try dsimp only [cxOf, Cx.nox, Cx.wish, Cx.blk]
    wtm_at "go"
    obtain ⟨ms, hm⟩ := cut63 ns none (some 63)
    refine s_slK hS fun p np => ?_
    rw [hm]
    have w1 := w.newI (o := .lst (ms.map V.int)) np
    have s1 : Same I (upd I p (.lst (ms.map V.int))) := w.same np
    refine s_iL' w1 (.lst upd_same (IsA.ints ms)) fun a' vs' ea ha hA => ?_
    cases ea
    rw [upd_same] at ha
    cases ha
    intro D nD
    have w2 := w1.newM (o := .lst []) nD
    refine lc_it (walk_list (xs := ms.map V.int)) (fun i H' => ∃ acc : List Int, W (upd I p (.lst (ms.map V.int))) H' ((D, .lst (acc.map V.int)) :: M) ∧ acc.length = i ∧ ∀ n ∈ acc, 0 ≤ n) ⟨[], w2, rfl, fun _ h => nomatch h⟩ (fun i H' _ ⟨acc, w3, _⟩ => .inl (.inl (w3.imm _ _ upd_same))) ?_ ?_
    · rintro i x H3 H4 hi ⟨acc, w3, hl, hp⟩ ⟨rfl, e⟩
      obtain ⟨z, rfl⟩ : ∃ z, x = V.int z := by
        rw [List.getElem?_map] at e
        cases q : ms[i]? with
        | none => rw [q] at e; cases e
        | some z => rw [q] at e; exact ⟨z, (Option.some.inj e).symm⟩
      refine s_gname ⟨rfl, ?_⟩
      wtm_at "go"
      have hlen : acc.length < 16777216 := by
        rw [hl]
        have := (List.getElem?_eq_some_iff.mp e).1
        have h5 : (ms.map V.int).length ≤ 64 := by
          rw [← hm]
          unfold cutV
          rw [List.length_take]
          have : HT.sIx (ns.map V.int).length (ns.map V.int).length (some 63) ≤ 63 := by
            show min (63 : Int).toNat _ ≤ 63
            exact Nat.min_le_left _ _
          omega
        omega
      refine ⟨_, w3.at0, (by rw [List.length_map]; exact Nat.lt_of_lt_of_le hlen (by decide)), acc ++ [if z < 0 then -z else z], ?_, by rw [List.length_append, hl]; rfl, fun n hn => ?_⟩
      · have q := w3.put0 (o' := .lst (acc.map V.int ++ [V.int (if z < 0 then -z else z)]))
        rw [List.map_append]
        exact q
      · rcases List.mem_append.mp hn with h | h
        · exact hp n h
        · rw [List.mem_singleton.mp h]
          split <;> omega
    · rintro H3 ⟨acc, w3, _, hp⟩
      obtain ⟨J, s2, w4, h4⟩ := w3.done0 (IsA.ints acc)
      wtm_at "go"
      refine s_newM w4 (by simp) fun q H5 w5 => ?_
      obtain ⟨_, vs, e, h6, a6⟩ := h4.lst_ex
      cases e
      exact k q D _ J H5 (s1.trans s2) w5 ⟨⟨acc, by rw [h6, a6.ints_eq], hp⟩, 0, 1234567891, 0, rfl, by decide, by decide, by decide, by decide⟩
abbrev s__law_take : Stmt := top 19
theorem sc__law_take : FnScope ["_law_bag_here", "_law_many", "_law_more", "_law_cell", "_law_value", "_law_first", "_law_second"] ["_law_bag_here", "_law_many"] (defScope s__law_take) := ⟨rfl, rfl, rfl, by decide +kernel, rfl, by decide +kernel, by decide +kernel⟩
def sp__law_take : Sp := fun vs H Q _ => ∃ I M b c o, ∃ m : Int, vs = [.ref b, .int m] ∧ W I H ((b, o) :: M) ∧ Bag I c o ∧ 0 < m ∧ Bd 4000 m ∧ ∀ v o' H', 0 ≤ v → v < m → Bag I c o' → W I H' ((b, o') :: M) → Q (.int v) H'
theorem use_take {I H : Hp} {M : List (Addr × HO)} {b c : Addr} {o : HO} {m : Int} {Q : VK} {E : XK} (w : W I H ((b, o) :: M)) (hb : Bag I c o) (h0 : 0 < m) (h1 : m < 10 ^ 200) (q : ∀ v o' H', 0 ≤ v → v < m → Bag I c o' → W I H' ((b, o') :: M) → Q (.int v) H') : sp__law_take ([.ref b, .int m] ++ []) H Q E :=
  ⟨I, M, b, c, o, m, rfl, w, hb, h0, Bd.of (10 ^ 200) (by omega) (by decide +kernel), q⟩
theorem take_end {I : Hp} {M : List (Addr × HO)} {b c : Addr} {ns : List Int} {x y z m : Int} {Q : VK} (cs : I c = some (.lst (ns.map V.int))) (nn : ∀ n ∈ ns, 0 ≤ n) (x0 : 0 ≤ x) (y0 : 0 ≤ y) (y1 : y < 2147483647) (z0 : 0 ≤ z)
    (k : ∀ v o' H', 0 ≤ v → v < m → Bag I c o' → W I H' ((b, o') :: M) → Q (.int v) H') : ∀ v H', 0 ≤ v → v < m → W I H' ((b, .lst [.int x, .int y, .int z, .ref c]) :: M) → Q (.int v) H' := fun v H' h1 h2 w => k v _ H' h1 h2 ⟨⟨ns, cs, nn⟩, x, y, z, rfl, x0, y0, y1, z0⟩ w
theorem n_take {F : List (V × D)} {H : Hp} {M : List ME} {b : Addr} {m : Int} {Q : VK} {E : XK} (w : Wf F H M) (hb : .bag b ∈ M) (h0 : 0 < m) (h1 : m < 10 ^ 200) (q : ∀ v H', 0 ≤ v → v < m → Wf F H' M → Q (.int v) H') : sp__law_take ([.ref b, .int m] ++ []) H Q E := by
  obtain ⟨I, Mc, c, o, w, hb, _, up, _⟩ := w.oldB hb
  exact use_take w hb h0 h1 fun v o' H' v0 v1 hb' w' => q v H' v0 v1 (up I H' o' (Same.refl _) w' hb')
local macro_rules | `(tactic| wtm_at "c1") => `(tactic| ((with_reducible refine' n_take (by assumption) ?b ?c ?d ?_); (case b => wtm_at "mem"); (case c => omega); (case d => omega); (intro v H' v0 v1 w')))

theorem ok__law_take {f : Addr} {fd : FuncData} (F : Fun K "_law_take" "_law_take" s__law_take f fd) (B : Bn mg)  : FnOk P w K mg base CX0 1 f fd ["_law_bag_here", "_law_many"] sp__law_take := by
  refine F.ok sc__law_take (fun vs H Q E h => ?_) (fun cdv A outer s H vs Q E hr h => ?_)
  · obtain ⟨I, M, b, c, o, m, rfl, w, ⟨⟨ns, cs, nn⟩, x, y, z, rfl, x0, y0, y1, z0⟩, h0, h1, k⟩ := h
    all_goals rfl
  · obtain ⟨I, M, b, c, o, m, rfl, w, ⟨⟨ns, cs, nn⟩, x, y, z, rfl, x0, y0, y1, z0⟩, h0, h1, k⟩ := h
    refine ⟨_, (pss_cons (ps_if (pt_cmpR (k_eq (K := K) rfl hr.units) (pe_ix (k_ix (K := K) rfl) (pv 0) pe_int (fun _ _ => rfl)) pe_int (nomark _)) (pss_cons (ps_set (i := 2) sc__law_take.nd rfl (Or.inl rfl) pe_int)
      (pss_cons (ps_if (pt_cmpR op_lt (pe_ix (k_ix (K := K) rfl) (pv 0) pe_int (fun _ _ => rfl)) (pe_callB (k_len (K := K) rfl) (by rfl) B.len_ (by decide +kernel) (pa_cons (pe_ix (k_ix (K := K) rfl) (pv 0) pe_int (fun _ _ => rfl)) pa_nil)) (nomark _)) (pss_cons (ps_set (i := 3) sc__law_take.nd rfl (Or.inl rfl) (pe_ix (k_ix (K := K) rfl) (pe_ix (k_ix (K := K) rfl) (pv 0) pe_int (fun _ _ => rfl)) (pe_ix (k_ix (K := K) rfl) (pv 0) pe_int (fun _ _ => rfl)) (fun _ _ => rfl)))
      (pss_cons (ps_augL (pv 0) pe_int pe_int)
      (pss_cons (ps_if (pt_cmpR op_ge (pv 3) pe_int (nomark _)) (pss_one (ps_asg (pv 3) (pg_sub (pv 0) pe_int set_list))) pss_nil)
      (pss_one (ps_set (i := 2) sc__law_take.nd rfl (Or.inl rfl) (pe_op (k_add (K := K) rfl) (pe_op op_mod (pv 3) pe_int) pe_int)))))) pss_nil)
      (pss_one (ps_asg (pe_op op_mod (pe_op (k_add (K := K) rfl) (pe_op uo_mul (pe_ix (k_ix (K := K) rfl) (pv 0) pe_int (fun _ _ => rfl)) pe_int) (pv 2)) pe_int) (pg_sub (pv 0) pe_int set_list))))) pss_nil)
      (pss_cons (ps_if (pt_cmpR op_gt (pe_ix (k_ix (K := K) rfl) (pv 0) pe_int (fun _ _ => rfl)) pe_int (nomark _)) (pss_cons (ps_set (i := 4) sc__law_take.nd rfl (Or.inl rfl) (pe_op op_mod (pe_ix (k_ix (K := K) rfl) (pv 0) pe_int (fun _ _ => rfl)) (pv 1)))
      (pss_cons (ps_asg (pe_op op_fdivW (pe_ix (k_ix (K := K) rfl) (pv 0) pe_int (fun _ _ => rfl)) (pv 1)) (pg_sub (pv 0) pe_int set_list))
      (pss_one (ps_ret (pv 4))))) pss_nil)
      (pss_cons (ps_set (i := 5) sc__law_take.nd rfl (Or.inl rfl) (pe_op op_mod (pe_op uo_mul (pe_ix (k_ix (K := K) rfl) (pv 0) pe_int (fun _ _ => rfl)) pe_int) pe_int))
      (pss_cons (ps_set (i := 6) sc__law_take.nd rfl (Or.inl rfl) (pe_op op_mod (pe_op uo_mul (pv 5) pe_int) pe_int))
      (pss_cons (ps_if (pt_cmpR op_gt (pv 1) pe_int (nomark _)) (pss_one (ps_ret (pe_op op_mod (pe_op (k_add (K := K) rfl) (pe_op uo_mul (pv 6) pe_int) (pv 5)) (pv 1)))) pss_nil)
      (pss_one (ps_ret (pe_op op_mod (pe_op op_fdivW (pv 6) pe_int) (pv 1))))))))), ?_⟩
    try dsimp only [cxOf, Cx.nox, Cx.wish, Cx.blk]
    have hc : Is I (.ref c) (.lst (ns.map D.int)) := .lst cs (IsA.ints ns)
    with_reducible refine s_mid (fun σ' H' => ∃ x y z v2 v3, σ' = [some (.ref b), some (.int m), v2, v3, none, none, none] ∧ 0 ≤ x ∧ 0 ≤ y ∧ y < 2147483647 ∧ 0 ≤ z ∧ W I H' ((b, .lst [.int x, .int y, .int z, .ref c]) :: M)) ?_ (fun N1 fin => ?_)
    · clear x0 y0 y1 z0 w
      rintro σ' H' ⟨x, y, z, v2, v3, rfl, x0, y0, y1, z0, w⟩
      wtm_at "go"
      wtm_at "fork"
      · wtm_at "go"
        refine s_I (show (0 : Int) < m from h0) ?_
        wtm_at "go"
        refine s_I (h1.cd h0) ?_
        wtm_at "go"
        refine take_end (x := x / m) (y := y) (z := z) cs nn (Int.ediv_nonneg x0 (by omega)) y0 y1 z0 k _ _ (Int.emod_nonneg _ (by omega)) (Int.emod_lt_of_pos _ h0) (by assumption)
      · wtm_at "go"
        wtm_at "goo"
        wtm_at "fork"
        · wtm_at "goo"
          exact take_end (x := x) (y := y) (z := z) cs nn x0 y0 y1 z0 k _ _ (Int.emod_nonneg _ (by omega)) (Int.emod_lt_of_pos _ h0) w
        · wtm_at "goo"
          exact take_end (x := x) (y := y) (z := z) cs nn x0 y0 y1 z0 k _ _ (Int.emod_nonneg _ (by omega)) (Int.emod_lt_of_pos _ h0) w
    · wtm_at "go"
      wtm_at "fork"
      · wtm_at "s1"; wtm_at "s1"; wtm_at "e1"; wtm_at "s1"
        with_reducible refine s_mid (fun σ' H' => ∃ x z v3, ∃ r : Int, σ' = [some (.ref b), some (.int m), some (.int r), v3, none, none, none] ∧ 0 ≤ r ∧ r ≤ 2147483647 ∧ 0 ≤ x ∧ 0 ≤ z ∧ W I H' ((b, .lst [.int x, .int y, .int z, .ref c]) :: M)) ?_ (fun N2 fin2 => ?_)
        · rintro σ' H' ⟨x', z', v3, r, rfl, r0, r1, x0', z0', w'⟩
          wtm_at "goo"
          exact fin _ _ ⟨x', (y * 48271 + r) % 2147483647, z', _, v3, rfl, x0', Int.emod_nonneg _ (by decide), Int.emod_lt_of_pos _ (by decide), z0', by assumption⟩
        · wtm_at "go"
          wtm_at "fork"
          · rename_i hz
            rw [List.length_map] at hz
            obtain ⟨n, hn, e⟩ := at_ints z0 hz
            have hn0 := nn n hn
            wtm_at "go"
            refine s_ixL w hc e ?_
            wtm_at "inv"
            wtm_at "go"
            wtm_at "fork"
            · wtm_at "goo"
              exact fin2 _ _ ⟨n, z + 1, _, _, rfl, by omega, by omega, by omega, by omega, by assumption⟩
            · wtm_at "goo"
              exact fin2 _ _ ⟨x, z + 1, _, _, rfl, by omega, by omega, by omega, by omega, by assumption⟩
          · wtm_at "go"
            exact fin2 _ _ ⟨x, z, none, 12345, rfl, by decide, by decide, x0, z0, w⟩
      · wtm_at "go"
        exact fin _ _ ⟨x, y, z, none, none, rfl, x0, y0, y1, z0, w⟩
abbrev s__law_extent : Stmt := top 20
theorem sc__law_extent : FnScope ["_law_bag_here", "_law_way"] ["_law_bag_here"] (defScope s__law_extent) := ⟨rfl, rfl, rfl, by decide +kernel, rfl, by decide +kernel, by decide +kernel⟩
def sp__law_extent : Sp := fun vs H Q _ => ∃ F M b, vs = [.ref b] ∧ Wf F H M ∧ .bag b ∈ M ∧ ∀ v H', 1 ≤ v → v ≤ 1000000 → Wf F H' M → Q (.int v) H'
theorem n_lext {F : List (V × D)} {H : Hp} {M : List ME} {b : Addr} {Q : VK} {E : XK} (w : Wf F H M) (hb : .bag b ∈ M) (q : ∀ v H', 1 ≤ v → v ≤ 1000000 → Wf F H' M → Q (.int v) H') : sp__law_extent ([.ref b] ++ []) H Q E := ⟨F, M, b, rfl, w, hb, q⟩

theorem ok__law_extent {f : Addr} {fd : FuncData} (F : Fun K "_law_extent" "_law_extent" s__law_extent f fd) (B : Bn mg) (c__law_take : Cal P w K mg base "_law_take" 1 ["_law_bag_here", "_law_many"] [] sp__law_take)  : FnOk P w K mg base CX0 2 f fd ["_law_bag_here"] sp__law_extent := by
  refine F.ok sc__law_extent (fun vs H Q E h => ?_) (fun cdv A outer s H vs Q E hr h => ?_)
  · obtain ⟨F, M, b, rfl, w, hb, k⟩ := h
    all_goals rfl
  · obtain ⟨F, M, b, rfl, w, hb, k⟩ := h
    refine ⟨_, (pss_cons (ps_set (i := 1) sc__law_extent.nd rfl (Or.inl rfl) (pe_cal c__law_take (hr.mono (by decide)) (by rfl) (pa_cons (pv 0) (pa_cons pe_int pa_nil))))
      (pss_cons (ps_if (pt_cmpR (k_eq (K := K) rfl hr.units) (pv 1) pe_int (nomark _)) (pss_one (ps_ret (pe_op (k_add (K := K) rfl) pe_int (pe_cal c__law_take (hr.mono (by decide)) (by rfl) (pa_cons (pv 0) (pa_cons pe_int pa_nil)))))) pss_nil)
      (pss_cons (ps_if (pt_cmpR (k_eq (K := K) rfl hr.units) (pv 1) pe_int (nomark _)) (pss_one (ps_ret (pe_op (k_add (K := K) rfl) pe_int (pe_cal c__law_take (hr.mono (by decide)) (by rfl) (pa_cons (pv 0) (pa_cons pe_int pa_nil)))))) pss_nil)
      (pss_cons (ps_if (pt_cmpR (k_eq (K := K) rfl hr.units) (pv 1) pe_int (nomark _)) (pss_one (ps_ret (pe_op op_sub pe_int (pe_cal c__law_take (hr.mono (by decide)) (by rfl) (pa_cons (pv 0) (pa_cons pe_int pa_nil)))))) pss_nil)
      (pss_one (ps_ret (pe_op (k_add (K := K) rfl) pe_int (pe_cal c__law_take (hr.mono (by decide)) (by rfl) (pa_cons (pv 0) (pa_cons pe_int pa_nil)))))))))), ?_⟩
    try dsimp only [cxOf, Cx.nox, Cx.wish, Cx.blk]
    wtm_at "n"
    refine n_take w hb (by omega) (by omega) fun wy H1 wy0 wy1 w => ?_
    wtm_at "n"
    wtm_at "fork"
    · wtm_at "n"
      refine n_take w hb (by omega) (by omega) fun y H2 y0 y1 w => ?_
      wtm_at "n"
      exact k _ _ (by omega) (by omega) w
    wtm_at "n"
    wtm_at "fork"
    · wtm_at "n"
      refine n_take w hb (by omega) (by omega) fun y H2 y0 y1 w => ?_
      wtm_at "n"
      exact k _ _ (by omega) (by omega) w
    wtm_at "n"
    wtm_at "fork"
    · wtm_at "n"
      refine n_take w hb (by omega) (by omega) fun y H2 y0 y1 w => ?_
      wtm_at "n"
      exact k _ _ (by omega) (by omega) w
    wtm_at "n"
    refine n_take w hb (by omega) (by omega) fun y H2 y0 y1 w => ?_
    wtm_at "n"
    exact k _ _ (by omega) (by omega) w
abbrev s__law_piece : Stmt := top 21
theorem sc__law_piece : FnScope ["_law_bag_here", "_law_whole_here", "_law_side", "_law_way", "_law_broad", "_law_high"] ["_law_bag_here", "_law_whole_here"] (defScope s__law_piece) := ⟨rfl, rfl, rfl, by decide +kernel, rfl, by decide +kernel, by decide +kernel⟩
def sp__law_piece : Sp := fun vs H Q _ => ∃ F M b, ∃ W : Int, vs = [.ref b, .int W] ∧ Wf F H M ∧ .bag b ∈ M ∧ 1 ≤ W ∧ W ≤ 1000000 ∧ ∀ t H' sd (br hi : Int), 1 ≤ br → br ≤ 1000000 → 1 ≤ hi → hi ≤ 1000000 → Wf ((t, .tup [.str (sdS sd), .int br, .int hi]) :: F) H' M → Q t H'
theorem n_lpiece {F : List (V × D)} {H : Hp} {M : List ME} {b : Addr} {W : Int} {Q : VK} {E : XK} (w : Wf F H M) (hb : .bag b ∈ M) (h1 : 1 ≤ W) (h2 : W ≤ 1000000) (q : ∀ t H' sd (br hi : Int), 1 ≤ br → br ≤ 1000000 → 1 ≤ hi → hi ≤ 1000000 → Wf ((t, .tup [.str (sdS sd), .int br, .int hi]) :: F) H' M → Q t H') : sp__law_piece ([.ref b, .int W] ++ []) H Q E := ⟨F, M, b, W, rfl, w, hb, h1, h2, q⟩

theorem ok__law_piece {f : Addr} {fd : FuncData} (F : Fun K "_law_piece" "_law_piece" s__law_piece f fd) (B : Bn mg) (c__law_take : Cal P w K mg base "_law_take" 1 ["_law_bag_here", "_law_many"] [] sp__law_take) (c__law_extent : Cal P w K mg base "_law_extent" 2 ["_law_bag_here"] [] sp__law_extent)  : FnOk P w K mg base CX0 3 f fd ["_law_bag_here", "_law_whole_here"] sp__law_piece := by
  refine F.ok sc__law_piece (fun vs H Q E h => ?_) (fun cdv A outer s H vs Q E hr h => ?_)
  · obtain ⟨F, M, b, W, rfl, w, hb, h1, h2, k⟩ := h
    all_goals rfl
  · obtain ⟨F, M, b, W, rfl, w, hb, h1, h2, k⟩ := h
    refine ⟨_, (pss_cons (ps_set (i := 2) sc__law_piece.nd rfl (Or.inl rfl) (pe_ix (k_ix (K := K) rfl) (pe_lst (pa_cons pe_str (pa_cons pe_str pa_nil))) (pe_cal c__law_take (hr.mono (by decide)) (by rfl) (pa_cons (pv 0) (pa_cons pe_int pa_nil))) (fun _ _ => rfl)))
      (pss_cons (ps_set (i := 3) sc__law_piece.nd rfl (Or.inl rfl) (pe_cal c__law_take (hr.mono (by decide)) (by rfl) (pa_cons (pv 0) (pa_cons pe_int pa_nil))))
      (pss_cons (ps_set (i := 4) sc__law_piece.nd rfl (Or.inl rfl) (pe_op (k_add (K := K) rfl) pe_int (pe_cal c__law_take (hr.mono (by decide)) (by rfl) (pa_cons (pv 0) (pa_cons (pv 1) pa_nil)))))
      (pss_cons (ps_if (pt_cmpR op_lt (pv 3) pe_int (nomark _)) (pss_one (ps_set (i := 4) sc__law_piece.nd rfl (Or.inl rfl) (pe_op (k_add (K := K) rfl) pe_int (pe_op op_fdivW (pv 4) pe_int)))) pss_nil)
      (pss_cons (ps_if (pt_cmpR (k_eq (K := K) rfl hr.units) (pv 3) pe_int (nomark _)) (pss_one (ps_set (i := 4) sc__law_piece.nd rfl (Or.inl rfl) (pv 1))) pss_nil)
      (pss_cons (ps_if (pt_cmpR (k_eq (K := K) rfl hr.units) (pv 3) pe_int (nomark _)) (pss_one (ps_set (i := 4) sc__law_piece.nd rfl (Or.inl rfl) (pe_callB (k_min (K := K) rfl rfl) (by rfl) B.min_ (by decide +kernel) (pa_cons pe_int (pa_cons (pe_op (k_add (K := K) rfl) (pe_op (k_add (K := K) rfl) (pv 1) pe_int) (pe_cal c__law_take (hr.mono (by decide)) (by rfl) (pa_cons (pv 0) (pa_cons (pe_ix (k_ix (K := K) rfl) (pe_lst (pa_cons pe_int (pa_cons pe_int pa_nil))) (pe_cal c__law_take (hr.mono (by decide)) (by rfl) (pa_cons (pv 0) (pa_cons pe_int pa_nil))) (fun _ _ => rfl)) pa_nil)))) pa_nil))))) pss_nil)
      (pss_cons (ps_set (i := 5) sc__law_piece.nd rfl (Or.inl rfl) (pe_op (k_add (K := K) rfl) pe_int (pe_cal c__law_take (hr.mono (by decide)) (by rfl) (pa_cons (pv 0) (pa_cons pe_int pa_nil)))))
      (pss_cons (ps_if (pt_cmpR (k_eq (K := K) rfl hr.units) (pe_cal c__law_take (hr.mono (by decide)) (by rfl) (pa_cons (pv 0) (pa_cons pe_int pa_nil))) pe_int (nomark _)) (pss_one (ps_set (i := 5) sc__law_piece.nd rfl (Or.inl rfl) (pe_cal c__law_extent (hr.mono (by decide)) (by rfl) (pa_cons (pv 0) pa_nil)))) pss_nil)
      (pss_one (ps_ret (pe_tup (pa_cons (pv 2) (pa_cons (pe_callB (k_min (K := K) rfl rfl) (by rfl) B.min_ (by decide +kernel) (pa_cons (pv 4) (pa_cons pe_int pa_nil))) (pa_cons (pv 5) pa_nil)))))))))))))), ?_⟩
    try dsimp only [cxOf, Cx.nox, Cx.wish, Cx.blk]
    wtm_at "n"
    rename_i pl H1 w
    refine n_take w (by wtm_at "mem") (by omega) (by omega) fun y H2 y0 y1 w => ?_
    refine n_ixAny w (show Rk _ _ _ (.lst [.str "left", .str "right"]) by wtm_at "rk") y0 (by simp; omega) fun d u hd w => ?_
    have hd' : ∃ sd, d = .str (sdS sd) := by
      have := List.mem_of_getElem? hd
      simp only [List.mem_cons, List.not_mem_nil, or_false] at this
      rcases this with rfl | rfl
      · exact ⟨true, rfl⟩
      · exact ⟨false, rfl⟩
    obtain ⟨sd, rfl⟩ := hd'
    obtain ⟨rfl, w1⟩ := w.str0
    have w : Wf F H2 M := by wtm_at "wf"
    clear w1
    wtm_at "n"
    refine n_take w hb (by omega) (by omega) fun wy H3 wy0 wy1 w => ?_
    wtm_at "n"
    refine n_take w hb (by omega) (by omega) fun br H4 br0 br1 w => ?_
    wtm_at "st2"
    with_reducible refine s_mid (fun σ' H' => ∃ br : Int, σ' = [some (.ref b), some (.int W), some (.str (sdS sd)), some (.int wy), some (.int br), none] ∧ 1 ≤ br ∧ br ≤ 1000001 ∧ Wf F H' M) ?_ (fun N fin => ?_)
    rotate_left
    · wtm_at "n"
      wtm_at "fork"
      · wtm_at "n"
        refine s_I (cd64 (by omega) (by omega)) ?_
        wtm_at "n"
        exact fin _ _ ⟨_, rfl, by omega, by omega, w⟩
      · wtm_at "n"
        exact fin _ _ ⟨_, rfl, by omega, by omega, w⟩
    clear br0 br1 w
    rintro σ' H' ⟨br, rfl, br0, br1, w⟩
    with_reducible refine s_mid (fun σ' H' => ∃ br : Int, σ' = [some (.ref b), some (.int W), some (.str (sdS sd)), some (.int wy), some (.int br), none] ∧ 1 ≤ br ∧ br ≤ 1000001 ∧ Wf F H' M) ?_ (fun N fin => ?_)
    rotate_left
    · wtm_at "n"
      wtm_at "fork"
      · wtm_at "n"
        exact fin _ _ ⟨_, rfl, by omega, by omega, w⟩
      · wtm_at "n"
        exact fin _ _ ⟨_, rfl, by omega, by omega, w⟩
    clear br0 br1 w
    rintro σ' H' ⟨br, rfl, br0, br1, w⟩
    with_reducible refine s_mid (fun σ' H' => ∃ br : Int, σ' = [some (.ref b), some (.int W), some (.str (sdS sd)), some (.int wy), some (.int br), none] ∧ 1 ≤ br ∧ br ≤ 1000001 ∧ Wf F H' M) ?_ (fun N fin => ?_)
    rotate_left
    · wtm_at "n"
      wtm_at "fork"
      · wtm_at "n"
        rename_i pq Hq w
        refine n_take w (by wtm_at "mem") (by omega) (by omega) fun z Hz z0 z1 w => ?_
        refine n_ixInts (ns := [9, 1000000]) w (show Rk _ _ _ (.lst [.int 9, .int 1000000]) by wtm_at "rk") z0 (by simp; omega) fun m hm => ?_
        have hm' : 0 < m ∧ m ≤ 1000000 := by
          have := List.mem_of_getElem? hm
          simp only [List.mem_cons, List.not_mem_nil, or_false] at this
          omega
        wtm_at "n"
        refine n_take w (by wtm_at "mem") (by omega) (by omega) fun y H5 y0 y1 w => ?_
        wtm_at "n"
        exact fin _ _ ⟨_, rfl, by split <;> omega, by split <;> omega, by wtm_at "wf"⟩
      · wtm_at "n"
        exact fin _ _ ⟨_, rfl, by omega, by omega, w⟩
    clear br0 br1 w
    rintro σ' H' ⟨br, rfl, br0, br1, w⟩
    wtm_at "n"
    refine n_take w hb (by omega) (by omega) fun hi H5 hi0 hi1 w => ?_
    wtm_at "st2"
    with_reducible refine s_mid (fun σ' H' => ∃ hi : Int, σ' = [some (.ref b), some (.int W), some (.str (sdS sd)), some (.int wy), some (.int br), some (.int hi)] ∧ 1 ≤ hi ∧ hi ≤ 1000000 ∧ Wf F H' M) ?_ (fun N fin => ?_)
    rotate_left
    · wtm_at "n"
      refine n_take w hb (by omega) (by omega) fun y H6 y0 y1 w => ?_
      wtm_at "n"
      wtm_at "fork"
      · wtm_at "n"
        refine n_lext w hb fun v H7 v0 v1 w => ?_
        wtm_at "n"
        exact fin _ _ ⟨_, rfl, v0, v1, w⟩
      · wtm_at "n"
        exact fin _ _ ⟨_, rfl, by omega, by omega, w⟩
    clear hi0 hi1 w
    rintro σ' H' ⟨hi, rfl, hi0, hi1, w⟩
    wtm_at "n"
    rename_i pt Ht wt
    exact k _ _ sd _ hi (by split <;> omega) (by split <;> omega) hi0 hi1 wt
abbrev s__law_top : Stmt := top 22
theorem sc__law_top : FnScope ["_law_bag_here", "_law_pieces", "_law_way", "_law_piece_here"] ["_law_bag_here", "_law_pieces"] (defScope s__law_top) := ⟨rfl, rfl, rfl, by decide +kernel, rfl, by decide +kernel, by decide +kernel⟩
def sp__law_top : Sp := fun vs H Q _ => ∃ F M b v, ∃ ps : List Pc, vs = [.ref b, v] ∧ Wf F H M ∧ .bag b ∈ M ∧ Rk F M v (.lst (ps.map pcD)) ∧ (∀ x ∈ ps, 1 ≤ x.h ∧ x.h ≤ 1000000) ∧ ps.length ≤ 24 ∧ ∀ t H', 0 ≤ t → t ≤ 1000000000000 → Wf F H' M → Q (.int t) H'
theorem n_ltop {F : List (V × D)} {H : Hp} {M : List ME} {b : Addr} {v : V} {ps : List Pc} {Q : VK} {E : XK} (w : Wf F H M) (hb : .bag b ∈ M) (hv : Rk F M v (.lst (ps.map pcD))) (hp : ∀ x ∈ ps, 1 ≤ x.h ∧ x.h ≤ 1000000) (hl : ps.length ≤ 24) (q : ∀ t H', 0 ≤ t → t ≤ 1000000000000 → Wf F H' M → Q (.int t) H') : sp__law_top ([.ref b, v] ++ []) H Q E := ⟨F, M, b, v, ps, rfl, w, hb, hv, hp, hl, q⟩

theorem ok__law_top {f : Addr} {fd : FuncData} (F : Fun K "_law_top" "_law_top" s__law_top f fd) (B : Bn mg) (c__law_take : Cal P w K mg base "_law_take" 1 ["_law_bag_here", "_law_many"] [] sp__law_take)  : FnOk P w K mg base CX0 2 f fd ["_law_bag_here", "_law_pieces"] sp__law_top := by
  refine F.ok sc__law_top (fun vs H Q E h => ?_) (fun cdv A outer s H vs Q E hr h => ?_)
  · obtain ⟨F, M, b, v, ps, rfl, w, hb, hv, hp, hl, k⟩ := h
    all_goals rfl
  · obtain ⟨F, M, b, v, ps, rfl, w, hb, hv, hp, hl, k⟩ := h
    refine ⟨_, (pss_cons (ps_set (i := 2) sc__law_top.nd rfl (Or.inl rfl) (pe_cal c__law_take (hr.mono (by decide)) (by rfl) (pa_cons (pv 0) (pa_cons pe_int pa_nil))))
      (pss_cons (ps_if (pt_cmpR (k_eq (K := K) rfl hr.units) (pv 2) pe_int (nomark _)) (pss_one (ps_ret (pe_cal c__law_take (hr.mono (by decide)) (by rfl) (pa_cons (pv 0) (pa_cons pe_int pa_nil))))) pss_nil)
      (pss_cons (ps_if (pw_and (pt_cmpR op_lt (pv 2) pe_int (nomark _)) (pw_and1 (pt_cmpR op_gt (pe_callB (k_len (K := K) rfl) (by rfl) B.len_ (by decide +kernel) (pa_cons (pv 1) pa_nil)) pe_int (nomark _)))).pt (pss_cons (ps_set (i := 3) sc__law_top.nd rfl (Or.inl rfl) (pe_ix (k_ix (K := K) rfl) (pv 1) (pe_cal c__law_take (hr.mono (by decide)) (by rfl) (pa_cons (pv 0) (pa_cons (pe_callB (k_len (K := K) rfl) (by rfl) B.len_ (by decide +kernel) (pa_cons (pv 1) pa_nil)) pa_nil))) (fun _ _ => rfl)))
      (pss_one (ps_ret (pe_callB (k_min (K := K) rfl rfl) (by rfl) B.min_ (by decide +kernel) (pa_cons (pe_callB (k_max (K := K) rfl rfl) (by rfl) B.max_ (by decide +kernel) (pa_cons pe_int (pa_cons (pe_op op_sub (pe_op (k_add (K := K) rfl) (pe_ix (k_ix (K := K) rfl) (pv 3) pe_int (fun _ _ => rfl)) (pe_cal c__law_take (hr.mono (by decide)) (by rfl) (pa_cons (pv 0) (pa_cons (pe_op (k_add (K := K) rfl) (pe_ix (k_ix (K := K) rfl) (pv 3) pe_int (fun _ _ => rfl)) pe_int) pa_nil)))) pe_int) pa_nil))) (pa_cons pe_int pa_nil)))))) pss_nil)
      (pss_one (ps_ret (pe_cal c__law_take (hr.mono (by decide)) (by rfl) (pa_cons (pv 0) (pa_cons pe_int pa_nil)))))))), ?_⟩
    try dsimp only [cxOf, Cx.nox, Cx.wish, Cx.blk]
    wtm_at "n"
    refine n_take w hb (by omega) (by omega) fun wy H1 wy0 wy1 w => ?_
    wtm_at "n"
    wtm_at "fork"
    · wtm_at "n"
      refine n_take w hb (by omega) (by omega) fun y H2 y0 y1 w => ?_
      exact k _ _ (by omega) (by omega) w
    wtm_at "n"
    wtm_at "fork"
    · wtm_at "n"
      rw [List.length_map]
      wtm_at "fork"
      · rename_i hpos
        wtm_at "n"
        rw [List.length_map]
        refine n_take w hb (by omega) (by omega) fun y H2 y0 y1 w => ?_
        refine n_ixAny w hv y0 (by rw [List.length_map]; omega) fun d u hd w => ?_
        obtain ⟨x, hx, rfl⟩ := map_get hd
        have hxh := hp x (List.mem_of_getElem? hx)
        wtm_at "n"
        refine n_take w hb (by omega) (by omega) fun z H3 z0 z1 w => ?_
        wtm_at "n"
        exact k _ _ (by split <;> split <;> omega) (by split <;> split <;> omega) (by wtm_at "wf")
      · wtm_at "n"
        refine n_take w hb (by omega) (by omega) fun y H2 y0 y1 w => ?_
        exact k _ _ (by omega) (by omega) w
    · wtm_at "n"
      refine n_take w hb (by omega) (by omega) fun y H2 y0 y1 w => ?_
      exact k _ _ (by omega) (by omega) w
abbrev s__law_whole : Stmt := top 23
theorem sc__law_whole : FnScope ["_law_thing"] ["_law_thing"] (defScope s__law_whole) := ⟨rfl, rfl, rfl, by decide +kernel, rfl, by decide +kernel, by decide +kernel⟩
def sp__law_whole : Sp := fun vs H Q _ => ∃ I M v d a, vs = [v] ∧ W I H M ∧ Is I v d ∧ d.tn = some a ∧ Q (.bl d.whole) H
theorem use_wholeI {I H : Hp} {M : List (Addr × HO)} {n : Int} {Q : VK} {E : XK} (w : W I H M) (q : Q (.bl true) H) : sp__law_whole ([.int n] ++ []) H Q E := ⟨I, M, _, _, _, rfl, w, .int n, rfl, q⟩
theorem use_wholeN {I H : Hp} {M : List (Addr × HO)} {v : V} {d : D} {a : String} {Q : VK} {E : XK} (w : W I H M) (h : Is I v d) (ha : d.tn = some a) (hd : d.whole = false) (q : Q (.bl false) H) : sp__law_whole ([v] ++ []) H Q E := ⟨I, M, _, _, _, rfl, w, h, ha, by rw [hd]; exact q⟩
theorem n_wh {F : List (V × D)} {H : Hp} {M : List ME} {v : V} {d : D} {Q : VK} {E : XK} (w : Wf F H M) (hv : Rk F M v d) (ht : Ty d) (q : Q (.bl d.whole) H) : sp__law_whole ([v] ++ []) H Q E := by
  obtain ⟨a, ha⟩ := ht
  exact ⟨H, [], v, d, a, rfl, W.self, w.rd hv, ha, q⟩
theorem n_whI {n : Int} {H : Hp} {Q : VK} {E : XK} (q : Q (.bl true) H) : sp__law_whole ([.int n] ++ []) H Q E := ⟨H, [], .int n, .int n, _, rfl, W.self, .int n, rfl, q⟩
local macro_rules | `(tactic| wtm_at "c0") => `(tactic| with_reducible refine n_whI ?_)

theorem ok__law_whole {f : Addr} {fd : FuncData} (F : Fun K "_law_whole" "_law_whole" s__law_whole f fd) (B : Bn mg)  : FnOk P w K mg base CX0 1 f fd ["_law_thing"] sp__law_whole := by
  refine F.ok sc__law_whole (fun vs H Q E h => ?_) (fun cdv A outer s H vs Q E hr h => ?_)
  · obtain ⟨I, M, v, d, a, rfl, w, hv, ha, k⟩ := h
    all_goals rfl
  · obtain ⟨I, M, v, d, a, rfl, w, hv, ha, k⟩ := h
    refine ⟨_, (pss_one (ps_ret (pe_and (pe_callB (k_isi (K := K) rfl) (by rfl) B.isinstance_ (by decide +kernel) (pa_cons (pv 0) (pa_cons (pe_bltn (v := .ty "int") (by rfl) B.int_ (by decide +kernel) rfl) pa_nil))) (pe_one (pe_not (pe_callB (k_isi (K := K) rfl) (by rfl) B.isinstance_ (by decide +kernel) (pa_cons (pv 0) (pa_cons (pe_bltn (v := .ty "bool") (by rfl) B.bool_ (by decide +kernel) rfl) pa_nil)))))))), ?_⟩
    try dsimp only [cxOf, Cx.nox, Cx.wish, Cx.blk]
    cases d with
    | int n => wtm_at "go"; exact k
    | bl n => wtm_at "go"; exact k
    | non => wtm_at "go"; exact k
    | str n => wtm_at "go"; exact k
    | tup n => wtm_at "go"; exact k
    | lst n => wtm_at "go"; exact k
    | ref n => cases ha
    | ty n => cases ha
    | obj n m => cases ha
    | dict => wtm_at "go"; exact k
abbrev s__law_wholes : Stmt := top 24
theorem sc__law_wholes : FnScope ["_law_told", "_law_many", "_law_part"] ["_law_told", "_law_many"] (defScope s__law_wholes) := ⟨rfl, rfl, rfl, by decide +kernel, rfl, by decide +kernel, by decide +kernel⟩
def sp__law_wholes : Sp := fun vs H Q _ => ∃ F M u, ∃ (ns : List Int) (n : Int), vs = [u, .int n] ∧ Wf F H M ∧ Rk F M u (.tup (ns.map D.int)) ∧ n = ns.length ∧ ns.length ≤ 100 ∧ ∀ H', Wf F H' M → Q (.bl true) H'
theorem n_lwholes {F : List (V × D)} {H : Hp} {M : List ME} {u : V} {ns : List Int} {n : Int} {Q : VK} {E : XK} (w : Wf F H M) (hu : Rk F M u (.tup (ns.map D.int))) (hn : n = ns.length) (hl : ns.length ≤ 100) (q : ∀ H', Wf F H' M → Q (.bl true) H') : sp__law_wholes ([u, .int n] ++ []) H Q E := ⟨F, M, u, ns, n, rfl, w, hu, hn, hl, q⟩

theorem ok__law_wholes {f : Addr} {fd : FuncData} (F : Fun K "_law_wholes" "_law_wholes" s__law_wholes f fd) (B : Bn mg) (c__law_whole : Cal P w K mg base "_law_whole" 1 ["_law_thing"] [] sp__law_whole)  : FnOk P w K mg base CX0 2 f fd ["_law_told", "_law_many"] sp__law_wholes := by
  refine F.ok sc__law_wholes (fun vs H Q E h => ?_) (fun cdv A outer s H vs Q E hr h => ?_)
  · obtain ⟨F, M, u, ns, n, rfl, w, hu, hn, hl, k⟩ := h
    all_goals rfl
  · obtain ⟨F, M, u, ns, n, rfl, w, hu, hn, hl, k⟩ := h
    refine ⟨_, (pss_cons (ps_if (pw_or (pt_not (pt_val (pe_callB (k_isi (K := K) rfl) (by rfl) B.isinstance_ (by decide +kernel) (pa_cons (pv 0) (pa_cons (pe_bltn (v := .ty "tuple") (by rfl) B.tuple_ (by decide +kernel) rfl) pa_nil))))) (pw_or1 (pt_cmpR (k_ne (K := K) rfl hr.units) (pe_callB (k_len (K := K) rfl) (by rfl) B.len_ (by decide +kernel) (pa_cons (pv 0) pa_nil)) (pv 1) (nomark _)))).pt (pss_one (ps_ret pe_bl)) pss_nil)
      (pss_cons (ps_for PassesOwn.never rfl (kpi_tup (K := K) rfl (pv 0)) (pg_name (i := 2) sc__law_wholes.nd rfl (Or.inl rfl)) (pss_one (ps_if (pt_not (pt_val (pe_cal c__law_whole (hr.mono (by decide)) (by rfl) (pa_cons (pv 2) pa_nil)))) (pss_one (ps_ret pe_bl)) pss_nil)))
      (pss_one (ps_ret pe_bl)))), ?_⟩
    try dsimp only [cxOf, Cx.nox, Cx.wish, Cx.blk]
    wtm_at "n"
    rw [List.length_map, hn]
    wtm_at "n"
    refine n_forT w (fun i σ' F' M' => (∃ x2, σ' = [some u, some (.int (ns.length : Int)), x2]) ∧ F = F' ∧ M = M') (by rintro i σ' F' M' ⟨_, rfl, rfl⟩; exact hu) ⟨⟨_, rfl⟩, rfl, rfl⟩ ?_ ?_
    · rintro i d x σ' H' F' M' hd ⟨⟨x2, rfl⟩, rfl, rfl⟩ w
      obtain ⟨m, hm, rfl⟩ := map_get hd
      obtain ⟨rfl, w1⟩ := w.eq0
      wtm_at "n"
      exact ⟨_, _, ⟨⟨_, rfl⟩, rfl, rfl⟩, by wtm_at "wf"⟩
    · rintro σ' H' F' M' ⟨⟨x2, rfl⟩, rfl, rfl⟩ w
      wtm_at "n"
      exact k _ w
abbrev s__law_room : Stmt := top 25
theorem sc__law_room : FnScope ["_law_pieces", "_law_whole_here", "_law_top_here", "_law_high", "_law_begin", "_law_end", "_law_met", "_law_side", "_law_left", "_law_at", "_law_wide", "_law_tall"] ["_law_pieces", "_law_whole_here", "_law_top_here", "_law_high"] (defScope s__law_room) := ⟨rfl, rfl, rfl, by decide +kernel, rfl, by decide +kernel, by decide +kernel⟩
def sp__law_room : Sp := fun vs H Q _ => ∃ F M v, ∃ (W top high : Int) (ps : List Pc), vs = [v, .int W, .int top, .int high] ∧ Wf F H M ∧ Rk F M v (.lst (ps.map pcD)) ∧ ps.length ≤ 24 ∧ ∀ r H', Wf ((r, .tup [.int (begI W ps top high), .int (wdI W ps top high), .int (metL ps top high).length]) :: F) H' M → Q r H'
theorem n_lroomO {F : List (V × D)} {H : Hp} {M : List ME} {v : V} {W top high : Int} {ps : List Pc} {Q : VK} {E : XK} (w : Wf F H M) (hv : Rk F M v (.lst (ps.map pcD))) (hl : ps.length ≤ 24) (q : ∀ r H', Wf ((r, .tup [.int (begI W ps top high), .int (wdI W ps top high), .int (metL ps top high).length]) :: F) H' M → Q r H') : sp__law_room ([v, .int W, .int top, .int high] ++ []) H Q E := ⟨F, M, v, W, top, high, ps, rfl, w, hv, hl, q⟩

theorem ok__law_room {f : Addr} {fd : FuncData} (F : Fun K "_law_room" "_law_room" s__law_room f fd) (B : Bn mg)  : FnOk P w K mg base CX0 1 f fd ["_law_pieces", "_law_whole_here", "_law_top_here", "_law_high"] sp__law_room := by
  refine F.ok sc__law_room (fun vs H Q E h => ?_) (fun cdv A outer s H vs Q E hr h => ?_)
  · obtain ⟨F, M, v, W, top, high, ps, rfl, w, hv, hl, k⟩ := h
    all_goals rfl
  · obtain ⟨F, M, v, W, top, high, ps, rfl, w, hv, hl, k⟩ := h
    refine ⟨_, (pss_cons (ps_set (i := 4) sc__law_room.nd rfl (Or.inl rfl) pe_int)
      (pss_cons (ps_set (i := 5) sc__law_room.nd rfl (Or.inl rfl) (pv 1))
      (pss_cons (ps_set (i := 6) sc__law_room.nd rfl (Or.inl rfl) pe_int)
      (pss_cons (ps_for PassesOwn.never rfl (kpi_list (K := K) rfl (pv 0)) (kpg_tup (K := K) (n := 5) rfl rfl (pgs_cons (pg_name (i := 7) sc__law_room.nd rfl (Or.inl rfl)) (pgs_cons (pg_name (i := 8) sc__law_room.nd rfl (Or.inl rfl)) (pgs_cons (pg_name (i := 9) sc__law_room.nd rfl (Or.inl rfl)) (pgs_cons (pg_name (i := 10) sc__law_room.nd rfl (Or.inl rfl)) (pgs_cons (pg_name (i := 11) sc__law_room.nd rfl (Or.inl rfl)) pgs_nil)))))) (pss_one (ps_if (pw_and (pt_cmpR op_lt (pv 9) (pe_op (k_add (K := K) rfl) (pv 2) (pv 3)) (nomark _)) (pw_and1 (pt_cmpR op_gt (pe_op (k_add (K := K) rfl) (pv 9) (pv 11)) (pv 2) (nomark _)))).pt (pss_cons (ps_set (i := 6) sc__law_room.nd rfl (Or.inl rfl) (pe_op (k_add (K := K) rfl) (pv 6) pe_int))
      (pss_one (ps_if (pt_cmpR (k_eq (K := K) rfl hr.units) (pv 7) pe_str (nomark _)) (pss_one (ps_set (i := 4) sc__law_room.nd rfl (Or.inl rfl) (pe_callB (k_max (K := K) rfl rfl) (by rfl) B.max_ (by decide +kernel) (pa_cons (pv 4) (pa_cons (pe_op (k_add (K := K) rfl) (pv 8) (pv 10)) pa_nil))))) (pss_one (ps_set (i := 5) sc__law_room.nd rfl (Or.inl rfl) (pe_callB (k_min (K := K) rfl rfl) (by rfl) B.min_ (by decide +kernel) (pa_cons (pv 5) (pa_cons (pv 8) pa_nil)))))))) pss_nil)))
      (pss_one (ps_ret (pe_tup (pa_cons (pv 4) (pa_cons (pe_callB (k_max (K := K) rfl rfl) (by rfl) B.max_ (by decide +kernel) (pa_cons pe_int (pa_cons (pe_op op_sub (pv 5) (pv 4)) pa_nil))) (pa_cons (pv 6) pa_nil)))))))))), ?_⟩
    try dsimp only [cxOf, Cx.nox, Cx.wish, Cx.blk]
    wtm_at "n"
    refine n_forL w (fun i σ' F' M' => ∃ x7 x8 x9 x10 x11, σ' = [some v, some (.int W), some (.int top), some (.int high), some (.int (rmF (metL (ps.take i) top high) W).1), some (.int (rmF (metL (ps.take i) top high) W).2), some (.int (metL (ps.take i) top high).length), x7, x8, x9, x10, x11] ∧ F = F' ∧ M = M') (by rintro i σ' F' M' ⟨_, _, _, _, _, _, rfl, rfl⟩; exact hv) ⟨_, _, _, _, _, rfl, rfl, rfl⟩ ?_ ?_
    · rintro i d y σ' H' F' M' hd ⟨x7, x8, x9, x10, x11, rfl, rfl, rfl⟩ w
      obtain ⟨x, hx, rfl⟩ := map_get hd
      have em := metL_snoc (top := top) (high := high) hx
      refine n_gtup5 w (by wtm_at "rk") fun v0 v1 v2 v3 v4 w => ?_
      obtain ⟨rfl, w1⟩ := w.str0
      obtain ⟨rfl, w2⟩ := w1.eq0
      obtain ⟨rfl, w3⟩ := w2.eq0
      obtain ⟨rfl, w4⟩ := w3.eq0
      obtain ⟨rfl, w5⟩ := w4.eq0
      clear w w1 w2 w3 w4
      have skip : metB top high x = false → metL (ps.take (i + 1)) top high = metL (ps.take i) top high := fun h => by rw [em, h]; simp
      wtm_at "n"
      wtm_at "fork"
      · rename_i h3
        wtm_at "n"
        wtm_at "fork"
        · rename_i h4
          have hb : metB top high x = true := by simp [metB]; omega
          rw [hb, if_pos rfl] at em
          have e := rmF_snoc (metL (ps.take i) top high) x W
          rw [← em] at e
          have el : ((metL (ps.take (i + 1)) top high).length : Int) = (metL (ps.take i) top high).length + 1 := by rw [em]; simp
          generalize rmF (metL (ps.take i) top high) W = q at *
          wtm_at "n"
          rw [sd_eq]
          cases hs : x.sd with
          | true =>
            rw [rmS, hs, if_pos rfl] at e
            wtm_at "n"
            exact ⟨_, _, ⟨_, _, _, _, _, by rw [e, el]; rfl, rfl, rfl⟩, by wtm_at "wf"⟩
          | false =>
            rw [rmS, hs, if_neg (by simp)] at e
            wtm_at "n"
            exact ⟨_, _, ⟨_, _, _, _, _, by rw [e, el]; rfl, rfl, rfl⟩, by wtm_at "wf"⟩
        · rename_i h4
          wtm_at "n"
          exact ⟨_, _, ⟨_, _, _, _, _, by rw [skip (by simp [metB]; omega)]; rfl, rfl, rfl⟩, by wtm_at "wf"⟩
      · rename_i h3
        wtm_at "n"
        exact ⟨_, _, ⟨_, _, _, _, _, by rw [skip (by simp [metB]; omega)]; rfl, rfl, rfl⟩, by wtm_at "wf"⟩
    · rintro σ' H' F' M' ⟨x7, x8, x9, x10, x11, rfl, rfl, rfl⟩ w
      rw [List.length_map, List.take_length] at *
      wtm_at "n"
      rename_i pz Hz wz
      exact k _ _ wz
abbrev s__law_good : Stmt := top 26
theorem sc__law_good : FnScope ["_law_pieces", "_law_whole_here", "_law_need", "_law_high", "_law_top_here", "_law_room_here"] ["_law_pieces", "_law_whole_here", "_law_need", "_law_high", "_law_top_here"] (defScope s__law_good) := ⟨rfl, rfl, rfl, by decide +kernel, rfl, by decide +kernel, by decide +kernel⟩
def sp__law_good : Sp := fun vs H Q _ => ∃ F M v, ∃ (W need high top : Int) (ps : List Pc), vs = [v, .int W, .int need, .int high, .int top] ∧ Wf F H M ∧ Rk F M v (.lst (ps.map pcD)) ∧ ps.length ≤ 24 ∧ ∀ H', Wf F H' M → Q (.bl (goodB W ps need high top)) H'
theorem n_lgood {F : List (V × D)} {H : Hp} {M : List ME} {v : V} {W need top high : Int} {ps : List Pc} {Q : VK} {E : XK} (w : Wf F H M) (hv : Rk F M v (.lst (ps.map pcD))) (hl : ps.length ≤ 24) (q : ∀ H', Wf F H' M → Q (.bl (goodB W ps need high top)) H') : sp__law_good ([v, .int W, .int need, .int high, .int top] ++ []) H Q E := ⟨F, M, v, W, need, high, top, ps, rfl, w, hv, hl, q⟩

theorem ok__law_good {f : Addr} {fd : FuncData} (F : Fun K "_law_good" "_law_good" s__law_good f fd) (B : Bn mg) (c__law_room : Cal P w K mg base "_law_room" 1 ["_law_pieces", "_law_whole_here", "_law_top_here", "_law_high"] [] sp__law_room)  : FnOk P w K mg base CX0 2 f fd ["_law_pieces", "_law_whole_here", "_law_need", "_law_high", "_law_top_here"] sp__law_good := by
  refine F.ok sc__law_good (fun vs H Q E h => ?_) (fun cdv A outer s H vs Q E hr h => ?_)
  · obtain ⟨F, M, v, W, need, high, top, ps, rfl, w, hv, hl, k⟩ := h
    all_goals rfl
  · obtain ⟨F, M, v, W, need, high, top, ps, rfl, w, hv, hl, k⟩ := h
    refine ⟨_, (pss_cons (ps_set (i := 5) sc__law_good.nd rfl (Or.inl rfl) (pe_cal c__law_room (hr.mono (by decide)) (by rfl) (pa_cons (pv 0) (pa_cons (pv 1) (pa_cons (pv 4) (pa_cons (pv 3) pa_nil))))))
      (pss_one (ps_ret (pe_or (pe_cmpR op_ge (pe_ix (k_ix (K := K) rfl) (pv 5) pe_int (fun _ _ => rfl)) (pv 2) (nomark _)) (pe_one (pe_cmpR (k_eq (K := K) rfl hr.units) (pe_ix (k_ix (K := K) rfl) (pv 5) pe_int (fun _ _ => rfl)) pe_int (nomark _))))))), ?_⟩
    try dsimp only [cxOf, Cx.nox, Cx.wish, Cx.blk]
    wtm_at "n"
    refine n_lroomO w hv hl fun r H1 w => ?_
    wtm_at "n"
    wtm_at "fork"
    · rename_i hw
      wtm_at "n"
      rw [show goodB W ps need high top = true by simp [goodB]; omega] at k
      exact k _ (by wtm_at "wf")
    · rename_i hw
      wtm_at "n"
      have e : goodB W ps need high top = decide (V.int ((metL ps top high).length : Int) = V.int 0) := by
        have e1 : decide (wdI W ps top high ≥ need) = false := decide_eq_false (by omega)
        unfold goodB
        rw [e1, Bool.false_or]
        by_cases h : (metL ps top high).length = 0
        · rw [h]; simp
        · rw [decide_eq_false h, decide_eq_false fun q => h (by injection q with q; omega)]
      rw [e] at k
      exact k _ (by wtm_at "wf")
abbrev s__law_apart : Stmt := top 27
theorem sc__law_apart : FnScope ["_law_pieces", "_law_left", "_law_at", "_law_broad", "_law_high", "_law_side", "_law_other", "_law_top_here", "_law_wide", "_law_tall"] ["_law_pieces", "_law_left", "_law_at", "_law_broad", "_law_high"] (defScope s__law_apart) := ⟨rfl, rfl, rfl, by decide +kernel, rfl, by decide +kernel, by decide +kernel⟩
def Apt (ps : List Pc) (l a br hi : Int) : Prop := ∀ x ∈ ps, ¬ (l < x.l + x.w ∧ x.l < l + br ∧ a < x.a + x.h ∧ x.a < a + hi)
def sp__law_apart : Sp := fun vs H Q _ => ∃ F M v, ∃ (l a br hi : Int) (ps : List Pc), vs = [v, .int l, .int a, .int br, .int hi] ∧ Wf F H M ∧ Rk F M v (.lst (ps.map pcD)) ∧ Apt ps l a br hi ∧ ∀ H', Wf F H' M → Q (.bl true) H'
theorem n_lapart {F : List (V × D)} {H : Hp} {M : List ME} {v : V} {l a br hi : Int} {ps : List Pc} {Q : VK} {E : XK} (w : Wf F H M) (hv : Rk F M v (.lst (ps.map pcD))) (ha : Apt ps l a br hi) (q : ∀ H', Wf F H' M → Q (.bl true) H') : sp__law_apart ([v, .int l, .int a, .int br, .int hi] ++ []) H Q E := ⟨F, M, v, l, a, br, hi, ps, rfl, w, hv, ha, q⟩

theorem ok__law_apart {f : Addr} {fd : FuncData} (F : Fun K "_law_apart" "_law_apart" s__law_apart f fd) (B : Bn mg)  : FnOk P w K mg base CX0 1 f fd ["_law_pieces", "_law_left", "_law_at", "_law_broad", "_law_high"] sp__law_apart := by
  refine F.ok sc__law_apart (fun vs H Q E h => ?_) (fun cdv A outer s H vs Q E hr h => ?_)
  · obtain ⟨F, M, v, l, a, br, hi, ps, rfl, w, hv, ha, k⟩ := h
    all_goals rfl
  · obtain ⟨F, M, v, l, a, br, hi, ps, rfl, w, hv, ha, k⟩ := h
    refine ⟨_, (pss_cons (ps_for PassesOwn.never rfl (kpi_list (K := K) rfl (pv 0)) (kpg_tup (K := K) (n := 5) rfl rfl (pgs_cons (pg_name (i := 5) sc__law_apart.nd rfl (Or.inl rfl)) (pgs_cons (pg_name (i := 6) sc__law_apart.nd rfl (Or.inl rfl)) (pgs_cons (pg_name (i := 7) sc__law_apart.nd rfl (Or.inl rfl)) (pgs_cons (pg_name (i := 8) sc__law_apart.nd rfl (Or.inl rfl)) (pgs_cons (pg_name (i := 9) sc__law_apart.nd rfl (Or.inl rfl)) pgs_nil)))))) (pss_one (ps_if (pw_and (pt_cmpR op_lt (pv 1) (pe_op (k_add (K := K) rfl) (pv 6) (pv 8)) (nomark _)) (pw_and (pt_cmpR op_lt (pv 6) (pe_op (k_add (K := K) rfl) (pv 1) (pv 3)) (nomark _)) (pw_and (pt_cmpR op_lt (pv 2) (pe_op (k_add (K := K) rfl) (pv 7) (pv 9)) (nomark _)) (pw_and1 (pt_cmpR op_lt (pv 7) (pe_op (k_add (K := K) rfl) (pv 2) (pv 4)) (nomark _)))))).pt (pss_one (ps_ret pe_bl)) pss_nil)))
      (pss_one (ps_ret pe_bl))), ?_⟩
    try dsimp only [cxOf, Cx.nox, Cx.wish, Cx.blk]
    wtm_at "n"
    refine n_forL w (fun i σ' F' M' => (∃ x5 x6 x7 x8 x9, σ' = [some v, some (.int l), some (.int a), some (.int br), some (.int hi), x5, x6, x7, x8, x9]) ∧ F = F' ∧ M = M') (by rintro i σ' F' M' ⟨_, rfl, rfl⟩; exact hv) ⟨⟨_, _, _, _, _, rfl⟩, rfl, rfl⟩ ?_ ?_
    · rintro i d y σ' H' F' M' hd ⟨⟨x5, x6, x7, x8, x9, rfl⟩, rfl, rfl⟩ w
      obtain ⟨x, hx, rfl⟩ := map_get hd
      have hno := ha x (List.mem_of_getElem? hx)
      refine n_gtup5 w (by wtm_at "rk") fun v0 v1 v2 v3 v4 w => ?_
      obtain ⟨rfl, w1⟩ := w.str0
      obtain ⟨rfl, w2⟩ := w1.eq0
      obtain ⟨rfl, w3⟩ := w2.eq0
      obtain ⟨rfl, w4⟩ := w3.eq0
      obtain ⟨rfl, w5⟩ := w4.eq0
      clear w w1 w2 w3 w4
      wtm_at "n"
      wtm_at "fork"
      · rename_i h1
        wtm_at "n"
        wtm_at "fork"
        · rename_i h2
          wtm_at "n"
          wtm_at "fork"
          · rename_i h3
            wtm_at "n"
            refine s_iteDn (fun h4 => hno ⟨h1, h2, h3, h4⟩) ?_
            wtm_at "n"
            exact ⟨_, _, ⟨⟨_, _, _, _, _, rfl⟩, rfl, rfl⟩, by wtm_at "wf"⟩
          · wtm_at "n"
            exact ⟨_, _, ⟨⟨_, _, _, _, _, rfl⟩, rfl, rfl⟩, by wtm_at "wf"⟩
        · wtm_at "n"
          exact ⟨_, _, ⟨⟨_, _, _, _, _, rfl⟩, rfl, rfl⟩, by wtm_at "wf"⟩
      · wtm_at "n"
        exact ⟨_, _, ⟨⟨_, _, _, _, _, rfl⟩, rfl, rfl⟩, by wtm_at "wf"⟩
    · rintro σ' H' F' M' ⟨⟨x5, x6, x7, x8, x9, rfl⟩, rfl, rfl⟩ w
      wtm_at "n"
      exact k _ w
abbrev s__law_as_high : Stmt := top 28
theorem sc__law_as_high : FnScope ["_law_pieces", "_law_whole_here", "_law_broad", "_law_high", "_law_start", "_law_at", "_law_end", "_law_row"] ["_law_pieces", "_law_whole_here", "_law_broad", "_law_high", "_law_start", "_law_at"] (defScope s__law_as_high) := ⟨rfl, rfl, rfl, by decide +kernel, rfl, by decide +kernel, by decide +kernel⟩
def sp__law_as_high : Sp := fun vs H Q _ => ∃ F M v, ∃ (W br hi st a : Int) (ps : List Pc), vs = [v, .int W, .int br, .int hi, .int st, .int a] ∧ Wf F H M ∧ Rk F M v (.lst (ps.map pcD)) ∧ ps.length ≤ 24 ∧ st ≤ a ∧ goodB W ps br hi a = true ∧ (∀ p, st ≤ p → p < a → goodB W ps br hi p = false) ∧ ∀ H', Wf F H' M → Q (.bl true) H'
theorem n_lashigh {F : List (V × D)} {H : Hp} {M : List ME} {v : V} {W br hi st a : Int} {ps : List Pc} {Q : VK} {E : XK} (w : Wf F H M) (hv : Rk F M v (.lst (ps.map pcD))) (hl : ps.length ≤ 24) (h1 : st ≤ a) (h2 : goodB W ps br hi a = true) (h3 : ∀ p, st ≤ p → p < a → goodB W ps br hi p = false) (q : ∀ H', Wf F H' M → Q (.bl true) H') : sp__law_as_high ([v, .int W, .int br, .int hi, .int st, .int a] ++ []) H Q E := ⟨F, M, v, W, br, hi, st, a, ps, rfl, w, hv, hl, h1, h2, h3, q⟩

theorem ok__law_as_high {f : Addr} {fd : FuncData} (F : Fun K "_law_as_high" "_law_as_high" s__law_as_high f fd) (B : Bn mg) (c__law_good : Cal P w K mg base "_law_good" 2 ["_law_pieces", "_law_whole_here", "_law_need", "_law_high", "_law_top_here"] [] sp__law_good)  : FnOk P w K mg base CX0 3 f fd ["_law_pieces", "_law_whole_here", "_law_broad", "_law_high", "_law_start", "_law_at"] sp__law_as_high := by
  refine F.ok sc__law_as_high (fun vs H Q E h => ?_) (fun cdv A outer s H vs Q E hr h => ?_)
  · obtain ⟨F, M, v, W, br, hi, st, a, ps, rfl, w, hv, hl, h1, h2, h3, k⟩ := h
    all_goals rfl
  · obtain ⟨F, M, v, W, br, hi, st, a, ps, rfl, w, hv, hl, h1, h2, h3, k⟩ := h
    refine ⟨_, (pss_cons (ps_if (pw_or (pt_cmpR op_lt (pv 5) (pv 4) (nomark _)) (pw_or1 (pt_not (pt_val (pe_cal c__law_good (hr.mono (by decide)) (by rfl) (pa_cons (pv 0) (pa_cons (pv 1) (pa_cons (pv 2) (pa_cons (pv 3) (pa_cons (pv 5) pa_nil)))))))))).pt (pss_one (ps_ret pe_bl)) pss_nil)
      (pss_cons (ps_for PassesOwn.never rfl (kpi_list (K := K) rfl (pe_op (k_add (K := K) rfl) (pe_lst (pa_cons (pv 4) (pa_cons (pe_op op_sub (pv 5) pe_int) pa_nil))) (pe_lc (own := [("_law_row", 7)]) (by rfl) sc__law_as_high.nd (kpi_list (K := K) rfl (pv 0)) (blkOk_by (own := [("_law_row", 7)]) (N := ["_law_pieces", "_law_whole_here", "_law_broad", "_law_high", "_law_start", "_law_at", "_law_end", "_law_row"]) (sc := defScope s__law_as_high) (by decide +kernel)) (fun _ _ _ _ _ => (pg_name (i := 7) sc__law_as_high.nd rfl (Or.inl rfl))) (fun _ _ _ _ _ => pts_nil) (fun _ _ _ _ _ => (pe_op (k_add (K := K) rfl) (pe_ix (k_ix (K := K) rfl) (pv 7) pe_int (fun _ _ => rfl)) (pe_ix (k_ix (K := K) rfl) (pv 7) pe_int (fun _ _ => rfl))))))) (pg_name (i := 6) sc__law_as_high.nd rfl (Or.inl rfl)) (pss_one (ps_if (pw_and (pt_cmpR op_le (pv 4) (pv 6) (nomark _)) (pw_and (pt_cmpR op_lt (pv 6) (pv 5) (nomark _)) (pw_and1 (pt_val (pe_cal c__law_good (hr.mono (by decide)) (by rfl) (pa_cons (pv 0) (pa_cons (pv 1) (pa_cons (pv 2) (pa_cons (pv 3) (pa_cons (pv 6) pa_nil)))))))))).pt (pss_one (ps_ret pe_bl)) pss_nil)))
      (pss_one (ps_ret pe_bl)))), ?_⟩
    try dsimp only [cxOf, Cx.nox, Cx.wish, Cx.blk]
    wtm_at "n"
    refine s_iteDn (by omega) ?_
    wtm_at "n"
    refine n_lgood w hv hl fun H1 w => ?_
    rw [h2]
    wtm_at "n"
    rename_i pz Hz w
    refine n_lcMapI (f := fun x : Pc => x.a + x.h) w hv.more (by omega) (fun v => rfl) ?_ ?_
    · intro x y D acc H0 C _ w kc
      wtm_at "n"
      exact kc _ (by wtm_at "wf")
    intro pe H2 w
    wtm_at "n"
    refine n_cat w (ds := [.int st, .int (a - 1)]) (es := (ps.map fun x : Pc => x.a + x.h).map D.int) (by wtm_at "rk") (by wtm_at "rk") (by simp; omega) fun pc H3 w => ?_
    have w : Wf F H3 (.ml pc ((st :: (a - 1) :: ps.map fun x : Pc => x.a + x.h).map D.int) :: M) := (show Wf F H3 (.ml pc ([.int st, .int (a - 1)] ++ (ps.map fun x : Pc => x.a + x.h).map D.int) :: M) by wtm_at "wf")
    generalize (st :: (a - 1) :: ps.map fun x : Pc => x.a + x.h) = es at *
    refine n_forL w (fun i σ' F' M' => (∃ x6 x7, σ' = [some v, some (.int W), some (.int br), some (.int hi), some (.int st), some (.int a), x6, x7]) ∧ F = F' ∧ M' = .ml pc (es.map D.int) :: M) (by rintro i σ' F' M' ⟨_, rfl, rfl⟩; wtm_at "rk") ⟨⟨_, _, rfl⟩, rfl, rfl⟩ ?_ ?_
    · rintro i d y σ' H' F' M' hd ⟨⟨x6, x7, rfl⟩, rfl, rfl⟩ w
      obtain ⟨e, he, rfl⟩ := map_get hd
      obtain ⟨rfl, w1⟩ := w.eq0
      wtm_at "n"
      wtm_at "fork"
      · rename_i g1
        wtm_at "n"
        wtm_at "fork"
        · rename_i g2
          wtm_at "n"
          refine n_lgood w1 hv.more hl fun H4 w => ?_
          rw [h3 e g1 g2]
          wtm_at "n"
          exact ⟨_, _, ⟨⟨_, _, rfl⟩, rfl, rfl⟩, by wtm_at "wf"⟩
        · wtm_at "n"
          exact ⟨_, _, ⟨⟨_, _, rfl⟩, rfl, rfl⟩, by wtm_at "wf"⟩
      · wtm_at "n"
        exact ⟨_, _, ⟨⟨_, _, rfl⟩, rfl, rfl⟩, by wtm_at "wf"⟩
    · rintro σ' H' F' M' ⟨⟨x6, x7, rfl⟩, rfl, rfl⟩ w
      wtm_at "n"
      exact k _ (by wtm_at "wf")
/-! ### places of pieces: as high as can be, apart, within -/
theorem rm_mono {q r : Int × Int} {x : Pc} (h1 : q.1 ≤ r.1) (h2 : r.2 ≤ q.2) : (rmS q x).1 ≤ (rmS r x).1 ∧ (rmS r x).2 ≤ (rmS q x).2 := by
  unfold rmS
  split
  · constructor
    · dsimp only
      split <;> split <;> omega
    · exact h2
  · constructor
    · exact h1
    · dsimp only
      split <;> split <;> omega
theorem rm_grow (q : Int × Int) (x : Pc) : q.1 ≤ (rmS q x).1 ∧ (rmS q x).2 ≤ q.2 := by
  unfold rmS
  split
  · constructor
    · dsimp only
      split <;> omega
    · exact Int.le_refl _
  · constructor
    · exact Int.le_refl _
    · dsimp only
      split <;> omega
theorem rm_sub {as bs : List Pc} (h : List.Sublist as bs) : ∀ {q r : Int × Int}, q.1 ≤ r.1 → r.2 ≤ q.2 → (as.foldl rmS q).1 ≤ (bs.foldl rmS r).1 ∧ (bs.foldl rmS r).2 ≤ (as.foldl rmS q).2 := by
  induction h with
  | slnil => exact fun h1 h2 => ⟨h1, h2⟩
  | cons x _ ih =>
    intro q r h1 h2
    have g := rm_grow r x
    exact ih (Int.le_trans h1 g.1) (Int.le_trans g.2 h2)
  | cons_cons x _ ih =>
    intro q r h1 h2
    have g := rm_mono (x := x) h1 h2
    exact ih g.1 g.2
theorem rm_mem {bs : List Pc} {x : Pc} (hx : x ∈ bs) (q : Int × Int) : (x.sd = true → x.l + x.w ≤ (bs.foldl rmS q).1) ∧ (x.sd = false → (bs.foldl rmS q).2 ≤ x.l) := by
  induction bs generalizing q with
  | nil => cases hx
  | cons y ys ih =>
    rcases List.mem_cons.mp hx with rfl | h
    · have g : (rmS q x).1 ≤ (ys.foldl rmS (rmS q x)).1 ∧ (ys.foldl rmS (rmS q x)).2 ≤ (rmS q x).2 := rm_sub (as := []) (bs := ys) (List.nil_sublist _) (q := rmS q x) (r := rmS q x) (Int.le_refl _) (Int.le_refl _)
      constructor
      · intro hs
        refine Int.le_trans (b := (rmS q x).1) ?_ g.1
        rw [rmS, hs, if_pos rfl]
        try dsimp only
        split <;> omega
      · intro hs
        refine Int.le_trans (b := (rmS q x).2) g.2 ?_
        rw [rmS, hs, if_neg (by simp)]
        try dsimp only
        split <;> omega
    · exact ih h _
theorem met_sub {ps : List Pc} {e p high : Int} (hep : e ≤ p) (hn : ∀ x ∈ ps, e < x.a + x.h → p < x.a + x.h) : List.Sublist (metL ps e high) (metL ps p high) := by
  have h : metL ps e high = (metL ps p high).filter (metB e high) := by
    unfold metL
    rw [List.filter_filter]
    apply List.filter_congr
    intro x hx
    have := hn x hx
    cases h1 : metB e high x
    · rfl
    · simp [metB] at h1 ⊢
      omega
  rw [h]
  exact List.filter_sublist
theorem good_up {W : Int} {ps : List Pc} {need high e p : Int} (hep : e ≤ p) (hn : ∀ x ∈ ps, e < x.a + x.h → p < x.a + x.h) (hg : goodB W ps need high p = true) : goodB W ps need high e = true := by
  have hs := met_sub (high := high) hep hn
  have hr := rm_sub hs (q := (0, W)) (r := (0, W)) (Int.le_refl _) (Int.le_refl _)
  have hl := hs.length_le
  unfold goodB at *
  rw [Bool.or_eq_true, decide_eq_true_eq, decide_eq_true_eq] at *
  rcases hg with h | h
  · refine .inl ?_
    unfold wdI begI rmF at *
    split at h <;> split <;> omega
  · exact .inr (by omega)
theorem max_ex {L : List Int} (h : L ≠ []) : ∃ e ∈ L, ∀ y ∈ L, y ≤ e := by
  cases e : L.max? with
  | none => exact absurd (List.max?_eq_none_iff.mp e) h
  | some m => exact ⟨m, (List.max?_eq_some_iff.mp e).1, (List.max?_eq_some_iff.mp e).2⟩
/-- the place that fit_at tells is the first good one of all -/
theorem fit_first {W : Int} {ps : List Pc} {need high st : Int} (hp : ∀ x ∈ ps, 0 < x.h) (hh : 0 < high) : st ≤ fitI W ps need high st ∧ goodB W ps need high (fitI W ps need high st) = true ∧ ∀ p, st ≤ p → p < fitI W ps need high st → goodB W ps need high p = false := by
  cases hg : goodB W ps need high st with
  | true =>
    have e : fitI W ps need high st = st := by rw [fitI, hg, if_pos rfl]
    rw [e]
    exact ⟨Int.le_refl _, hg, fun p h1 h2 => by omega⟩
  | false =>
    have hne := fits_ne hp hh hg
    cases em : (fitsL W ps need high st).min? with
    | none => exact absurd (List.min?_eq_none_iff.mp em) hne
    | some m =>
      have e : fitI W ps need high st = m := by rw [fitI, hg, if_neg (by simp), em]; rfl
      obtain ⟨h1, h2⟩ := List.min?_eq_some_iff.mp em
      obtain ⟨h3, h4⟩ := List.mem_filter.mp h1
      rw [Bool.and_eq_true, decide_eq_true_eq] at h4
      rw [e]
      refine ⟨by omega, h4.2, fun p p1 p2 => ?_⟩
      cases hgp : goodB W ps need high p with
      | false => rfl
      | true =>
        by_cases hS : (endsL ps).filter (fun z => decide (st < z) && decide (z ≤ p)) = []
        · have : goodB W ps need high st = true := good_up p1 (fun x hx hlt => by
            have := List.filter_eq_nil_iff.mp hS (x.a + x.h) (List.mem_map.mpr ⟨x, hx, rfl⟩)
            simp at this
            exact this hlt) hgp
          rw [hg] at this
          cases this
        · obtain ⟨z, hz, hzm⟩ := max_ex hS
          obtain ⟨hz1, hz2⟩ := List.mem_filter.mp hz
          rw [Bool.and_eq_true, decide_eq_true_eq, decide_eq_true_eq] at hz2
          have hgz : goodB W ps need high z = true := good_up hz2.2 (fun x hx hlt => by
            by_cases hc : x.a + x.h ≤ p
            · have := hzm (x.a + x.h) (List.mem_filter.mpr ⟨List.mem_map.mpr ⟨x, hx, rfl⟩, by simp; omega⟩)
              omega
            · omega) hgp
          have := h2 z (List.mem_filter.mpr ⟨hz1, by rw [hgz, decide_eq_true hz2.1]; rfl⟩)
          omega
/-- what a good place gives: the room, or no piece -/
theorem put_ok {W br hi a : Int} {ps : List Pc} (hW : 0 ≤ W) (hbr : 1 ≤ br) (hg : goodB W ps br hi a = true) : (metL ps a hi = [] ∧ begI W ps a hi = 0 ∧ wdI W ps a hi = W) ∨ (br ≤ wdI W ps a hi ∧ 0 ≤ begI W ps a hi ∧ begI W ps a hi + wdI W ps a hi ≤ W ∧ ∀ x ∈ metL ps a hi, (x.sd = true → x.l + x.w ≤ begI W ps a hi) ∧ (x.sd = false → begI W ps a hi + wdI W ps a hi ≤ x.l)) := by
  unfold goodB at hg
  rw [Bool.or_eq_true, decide_eq_true_eq, decide_eq_true_eq] at hg
  by_cases h : (metL ps a hi).length = 0
  · have e : metL ps a hi = [] := List.eq_nil_of_length_eq_zero h
    refine .inl ⟨e, ?_, ?_⟩
    · unfold begI rmF; rw [e]; rfl
    · unfold wdI begI rmF
      rw [e]
      show (if W - 0 > 0 then W - 0 else 0) = W
      split <;> omega
  · have hw : br ≤ wdI W ps a hi := by
      rcases hg with g | g
      · exact g
      · exact absurd g h
    have gr := rm_sub (as := []) (bs := metL ps a hi) (List.nil_sublist _) (q := (0, W)) (r := (0, W)) (Int.le_refl _) (Int.le_refl _)
    have g1 : 0 ≤ (rmF (metL ps a hi) W).1 := gr.1
    have g2 : (rmF (metL ps a hi) W).2 ≤ W := gr.2
    have ew : wdI W ps a hi = (rmF (metL ps a hi) W).2 - begI W ps a hi := by
      unfold wdI at hw ⊢
      split at hw
      · rename_i hc
        rw [if_pos hc]
      · omega
    refine .inr ⟨hw, g1, by rw [ew]; omega, fun x hx => ?_⟩
    have hm := rm_mem hx (0, W)
    refine ⟨fun hs => hm.1 hs, fun hs => ?_⟩
    have := hm.2 hs
    rw [ew]
    show begI W ps a hi + ((rmF (metL ps a hi) W).2 - begI W ps a hi) ≤ x.l
    have e : (rmF (metL ps a hi) W).2 ≤ x.l := this
    omega
theorem not_met {ps : List Pc} {a hi : Int} {x : Pc} (hx : x ∈ ps) (h1 : a < x.a + x.h) (h2 : x.a < a + hi) : x ∈ metL ps a hi := List.mem_filter.mpr ⟨hx, by simp [metB]; omega⟩

abbrev s__law_put : Stmt := top 29
theorem sc__law_put : FnScope ["_law_outline", "_law_pieces", "_law_whole_here", "_law_piece_here", "_law_top_here", "_law_side", "_law_broad", "_law_high", "_law_told", "_law_left", "_law_at", "_law_start", "_law_room_here", "_law_due", "_law_row"] ["_law_outline", "_law_pieces", "_law_whole_here", "_law_piece_here", "_law_top_here"] (defScope s__law_put) := ⟨rfl, rfl, rfl, by decide +kernel, rfl, by decide +kernel, by decide +kernel⟩
theorem cut_last (ps : List Pc) : cutD (ps.map pcD) (some (-1)) none = (ps.getLast?.toList).map pcD := by
  unfold cutD
  rw [List.length_map]
  have e : HT.sIx ps.length 0 (some (-1)) = ps.length - 1 := by
    unfold HT.sIx
    dsimp only
    rw [if_pos (by decide)]
    omega
  rw [e]
  show ((ps.map pcD).drop (ps.length - 1)).take (ps.length - (ps.length - 1)) = _
  by_cases h : ps = []
  · subst h; rfl
  · obtain ⟨qs, x, rfl⟩ : ∃ qs x, ps = qs ++ [x] := ⟨ps.dropLast, ps.getLast h, (List.dropLast_concat_getLast h).symm⟩
    simp [List.getLast?_append]
theorem sta_max {ps : List Pc} {top m : Int} (hm : m ∈ top :: (ps.getLast?.toList).map fun x => x.a) (hle : ∀ y ∈ top :: (ps.getLast?.toList).map fun x => x.a, y ≤ m) : m = staI ps top := by
  unfold staI
  cases e : ps.getLast? with
  | none =>
    rw [e] at hm
    simpa using hm
  | some x =>
    rw [e] at hm hle
    have h1 := hle top (by simp)
    have h2 := hle x.a (by simp)
    simp at hm
    show m = if x.a > top then x.a else top
    split <;> omega
theorem apt_ok {W br hi : Int} {ps : List Pc} {sd : Bool} {top : Int} (hW : 1 ≤ W) (hbr : 1 ≤ br) (hp : ∀ x ∈ ps, 0 < x.h) (hh : 0 < hi) : Apt ps (pcP W ps sd br hi top).l (pcP W ps sd br hi top).a br hi ∧ (br ≤ W → (pcP W ps sd br hi top).l + br ≤ W) := by
  obtain ⟨_, hg, _⟩ := fit_first (W := W) (need := br) (st := staI ps top) hp hh
  have ea : (pcP W ps sd br hi top).a = fitI W ps br hi (staI ps top) := rfl
  have el : (pcP W ps sd br hi top).l = if sd then begI W ps (fitI W ps br hi (staI ps top)) hi else (if begI W ps (fitI W ps br hi (staI ps top)) hi + wdI W ps (fitI W ps br hi (staI ps top)) hi - br > 0 then begI W ps (fitI W ps br hi (staI ps top)) hi + wdI W ps (fitI W ps br hi (staI ps top)) hi - br else 0) := rfl
  rw [ea, el]
  generalize fitI W ps br hi (staI ps top) = a at *
  rcases put_ok (by omega) hbr hg with ⟨h1, h2, h3⟩ | ⟨h1, h2, h3, h4⟩
  · refine ⟨fun x hx q => ?_, fun hb => ?_⟩
    · have := not_met (hi := hi) hx q.2.2.1 q.2.2.2
      rw [h1] at this
      cases this
    · rw [h2, h3]
      cases sd
      · simp
        split <;> omega
      · simp
        omega
  · refine ⟨fun x hx q => ?_, fun hb => ?_⟩
    · have hm := h4 x (not_met (hi := hi) hx q.2.2.1 q.2.2.2)
      cases sd <;> cases hs : x.sd <;> simp [hs] at hm q <;> (try split at q) <;> omega
    · cases sd <;> simp <;> (try split) <;> omega
def sp__law_put (C : Addr) : Sp := fun vs H Q _ => ∃ F M M1 M2 po pl pr t sd, ∃ (W br hi top : Int) (ps : List Pc), vs = [.ref po, .ref pr, .int W, t, .int top] ∧ Wf F H M ∧ .mi po C (olF W pl) ∈ M ∧ .ml pl (ps.map pcD) ∈ M ∧ Foc M (.ml pl (ps.map pcD)) M1 (.ml pl ((ps ++ [pcP W ps sd br hi top]).map pcD)) ∧ Foc M1 (.ml pr (ps.map pcD)) M2 (.ml pr ((ps ++ [pcP W ps sd br hi top]).map pcD)) ∧ Kn F t (.tup [.str (sdS sd), .int br, .int hi]) ∧ ps.length < 24 ∧ (∀ x ∈ ps, 0 < x.h) ∧ 1 ≤ W ∧ 1 ≤ br ∧ br ≤ 1000000 ∧ 1 ≤ hi ∧ hi ≤ 1000000 ∧ 0 ≤ top ∧ top ≤ 1000000000000 ∧ ∀ H', Wf F H' M2 → Q (.bl true) H'
theorem n_lput {C : Addr} {F : List (V × D)} {H : Hp} {M M1 M2 : List ME} {po pl pr : Addr} {t : V} {sd : Bool} {W br hi top : Int} {ps : List Pc} {Q : VK} {E : XK} (w : Wf F H M) (h1 : .mi po C (olF W pl) ∈ M) (h2 : .ml pl (ps.map pcD) ∈ M) (f1 : Foc M (.ml pl (ps.map pcD)) M1 (.ml pl ((ps ++ [pcP W ps sd br hi top]).map pcD))) (f2 : Foc M1 (.ml pr (ps.map pcD)) M2 (.ml pr ((ps ++ [pcP W ps sd br hi top]).map pcD))) (ht : Kn F t (.tup [.str (sdS sd), .int br, .int hi])) (hl : ps.length < 24) (hp : ∀ x ∈ ps, 0 < x.h) (hW : 1 ≤ W) (b1 : 1 ≤ br) (b2 : br ≤ 1000000) (g1 : 1 ≤ hi) (g2 : hi ≤ 1000000) (t0 : 0 ≤ top) (t1 : top ≤ 1000000000000) (q : ∀ H', Wf F H' M2 → Q (.bl true) H') : sp__law_put C ([.ref po, .ref pr, .int W, t, .int top] ++ []) H Q E := ⟨F, M, M1, M2, po, pl, pr, t, sd, W, br, hi, top, ps, rfl, w, h1, h2, f1, f2, ht, hl, hp, hW, b1, b2, g1, g2, t0, t1, q⟩

theorem ok__law_put {f : Addr} {fd : FuncData} (F : Fun K "_law_put" "_law_put" s__law_put f fd) (B : Bn mg) (c__law_wholes : Cal P w K mg base "_law_wholes" 2 ["_law_told", "_law_many"] [] sp__law_wholes) (c__law_as_high : Cal P w K mg base "_law_as_high" 3 ["_law_pieces", "_law_whole_here", "_law_broad", "_law_high", "_law_start", "_law_at"] [] sp__law_as_high) (c__law_room : Cal P w K mg base "_law_room" 1 ["_law_pieces", "_law_whole_here", "_law_top_here", "_law_high"] [] sp__law_room) (c__law_apart : Cal P w K mg base "_law_apart" 1 ["_law_pieces", "_law_left", "_law_at", "_law_broad", "_law_high"] [] sp__law_apart) (t_Outline_put : Met P w K mg base "put" C_Outline 5 ["self", "side", "wide", "high", "top"] [] (sp_Outline_put C_Outline)) (o_Outline : OwnC K C_Outline) (n_Outline : ∀ f ∈ (["whole_wide", "pieces"] : List Str), NoAttr K C_Outline f)  : FnOk P w K mg base CX0 6 f fd ["_law_outline", "_law_pieces", "_law_whole_here", "_law_piece_here", "_law_top_here"] (sp__law_put C_Outline) := by
  refine F.ok sc__law_put (fun vs H Q E h => ?_) (fun cdv A outer s H vs Q E hr h => ?_)
  · obtain ⟨F, M, M1, M2, po, pl, pr, t, sd, W, br, hi, top, ps, rfl, w, h1, h2, f1, f2, ht, hl, hp, hW, b1, b2, g1, g2, t0, t1, k⟩ := h
    all_goals rfl
  · obtain ⟨F, M, M1, M2, po, pl, pr, t, sd, W, br, hi, top, ps, rfl, w, h1, h2, f1, f2, ht, hl, hp, hW, b1, b2, g1, g2, t0, t1, k⟩ := h
    refine ⟨_, (pss_cons (ps_asg (pv 3) (kpg_tup (K := K) (n := 3) rfl rfl (pgs_cons (pg_name (i := 5) sc__law_put.nd rfl (Or.inl rfl)) (pgs_cons (pg_name (i := 6) sc__law_put.nd rfl (Or.inl rfl)) (pgs_cons (pg_name (i := 7) sc__law_put.nd rfl (Or.inl rfl)) pgs_nil)))))
      (pss_cons (ps_set (i := 8) sc__law_put.nd rfl (Or.inl rfl) (pe_met (pv 0) t_Outline_put (hr.mono (by decide)) (pa_cons (pv 5) (pa_cons (pv 6) (pa_cons (pv 7) (pa_cons (pv 4) pa_nil))))))
      (pss_cons (ps_if (pt_not (pt_val (pe_cal c__law_wholes (hr.mono (by decide)) (by rfl) (pa_cons (pv 8) (pa_cons pe_int pa_nil))))) (pss_one (ps_ret pe_bl)) pss_nil)
      (pss_cons (ps_asg (pv 8) (kpg_tup (K := K) (n := 2) rfl rfl (pgs_cons (pg_name (i := 9) sc__law_put.nd rfl (Or.inl rfl)) (pgs_cons (pg_name (i := 10) sc__law_put.nd rfl (Or.inl rfl)) pgs_nil))))
      (pss_cons (ps_set (i := 11) sc__law_put.nd rfl (Or.inl rfl) (pe_callB (k_max (K := K) rfl rfl) (by rfl) B.max_ (by decide +kernel) (pa_cons (pe_op (k_add (K := K) rfl) (pe_lst (pa_cons (pv 4) pa_nil)) (pe_lc (own := [("_law_row", 14)]) (by rfl) sc__law_put.nd (kpi_list (K := K) rfl (pe_slice (k_sl (K := K) rfl) (pv 1) (po_some (pe_un un_neg pe_int)) po_none)) (blkOk_by (own := [("_law_row", 14)]) (N := ["_law_outline", "_law_pieces", "_law_whole_here", "_law_piece_here", "_law_top_here", "_law_side", "_law_broad", "_law_high", "_law_told", "_law_left", "_law_at", "_law_start", "_law_room_here", "_law_due", "_law_row"]) (sc := defScope s__law_put) (by decide +kernel)) (fun _ _ _ _ _ => (pg_name (i := 14) sc__law_put.nd rfl (Or.inl rfl))) (fun _ _ _ _ _ => pts_nil) (fun _ _ _ _ _ => (pe_ix (k_ix (K := K) rfl) (pv 14) pe_int (fun _ _ => rfl))))) pa_nil)))
      (pss_cons (ps_if (pt_not (pt_val (pe_cal c__law_as_high (hr.mono (by decide)) (by rfl) (pa_cons (pv 1) (pa_cons (pv 2) (pa_cons (pv 6) (pa_cons (pv 7) (pa_cons (pv 11) (pa_cons (pv 10) pa_nil))))))))) (pss_one (ps_ret pe_bl)) pss_nil)
      (pss_cons (ps_set (i := 12) sc__law_put.nd rfl (Or.inl rfl) (pe_cal c__law_room (hr.mono (by decide)) (by rfl) (pa_cons (pv 1) (pa_cons (pv 2) (pa_cons (pv 10) (pa_cons (pv 7) pa_nil))))))
      (pss_cons (ps_set (i := 13) sc__law_put.nd rfl (Or.inl rfl) (pe_ix (k_ix (K := K) rfl) (pv 12) pe_int (fun _ _ => rfl)))
      (pss_cons (ps_if (pt_cmpR (k_eq (K := K) rfl hr.units) (pv 5) pe_str (nomark _)) (pss_one (ps_set (i := 13) sc__law_put.nd rfl (Or.inl rfl) (pe_callB (k_max (K := K) rfl rfl) (by rfl) B.max_ (by decide +kernel) (pa_cons pe_int (pa_cons (pe_op op_sub (pe_op (k_add (K := K) rfl) (pe_ix (k_ix (K := K) rfl) (pv 12) pe_int (fun _ _ => rfl)) (pe_ix (k_ix (K := K) rfl) (pv 12) pe_int (fun _ _ => rfl))) (pv 6)) pa_nil))))) pss_nil)
      (pss_cons (ps_if (pw_or (pt_cmpR (k_ne (K := K) rfl hr.units) (pv 9) (pv 13) (nomark _)) (pw_or1 (pt_not (pt_val (pe_cal c__law_apart (hr.mono (by decide)) (by rfl) (pa_cons (pv 1) (pa_cons (pv 9) (pa_cons (pv 10) (pa_cons (pv 6) (pa_cons (pv 7) pa_nil)))))))))).pt (pss_one (ps_ret pe_bl)) pss_nil)
      (pss_cons (ps_if (pw_and (pt_cmpR op_le (pv 6) (pv 2) (nomark _)) (pw_and1 (pt_cmpR op_gt (pe_op (k_add (K := K) rfl) (pv 9) (pv 6)) (pv 2) (nomark _)))).pt (pss_one (ps_ret pe_bl)) pss_nil)
      (pss_cons (ps_expr (pe_bm PySem.F.plainAttrs_list PySem.F.slot_list_append PySem.F.type_list_append mt_append (pv 1) (pa_cons (pe_tup (pa_cons (pv 5) (pa_cons (pv 9) (pa_cons (pv 10) (pa_cons (pv 6) (pa_cons (pv 7) pa_nil)))))) pa_nil)))
      (pss_one (ps_ret pe_bl)))))))))))))), ?_⟩
    try dsimp only [cxOf, Cx.nox, Cx.wish, Cx.blk]
    rw [show L2.start (["_law_outline", "_law_pieces", "_law_whole_here", "_law_piece_here", "_law_top_here", "_law_side", "_law_broad", "_law_high", "_law_told", "_law_left", "_law_at", "_law_start", "_law_room_here", "_law_due", "_law_row"] : List Str) [.ref po, .ref pr, .int W, t, .int top] = [some (.ref po), some (.ref pr), some (.int W), some t, some (.int top), none, none, none, none, none, none, none, none, none, none] from rfl]
    obtain ⟨ff1, ff2, ff3⟩ := fit_first (W := W) (need := br) (st := staI ps top) hp (show 0 < hi by omega)
    obtain ⟨fa, fw⟩ := apt_ok (W := W) (ps := ps) (sd := sd) (br := br) (hi := hi) (top := top) hW b1 hp (by omega)
    have ht' : Rk F M t (.tup [.str (sdS sd), .int br, .int hi]) := Ty.rk ⟨_, rfl⟩ ht
    wtm_at "n"
    rename_i u0 u1 u2 w
    obtain ⟨rfl, w1⟩ := w.str0
    obtain ⟨rfl, w2⟩ := w1.eq0
    obtain ⟨rfl, w3⟩ := w2.eq0
    refine n_put w3 h1 h2 f1 hl hp b1 b2 g1 g2 t0 t1 fun r H1 w => ?_
    have hv : Rk F M1 (.ref pr) (.lst (ps.map pcD)) := .ml f2.mem
    have hv2 := hv.moreF (f := (r, .tup [.int (pcP W ps sd br hi top).l, .int (pcP W ps sd br hi top).a]))
    wtm_at "n"
    refine n_lwholes (ns := [(pcP W ps sd br hi top).l, (pcP W ps sd br hi top).a]) w (.mem List.mem_cons_self) rfl (by simp) fun H2 w => ?_
    simp only [List.set_cons_succ, List.set_cons_zero]
    wtm_at "n"
    simp only [List.set_cons_succ, List.set_cons_zero]
    rename_i pt Ht wt pcu Hc w
    rw [cut_last] at w
    have hll : (ps.getLast?.toList).length ≤ 1 := by cases ps.getLast? <;> simp
    refine n_lcMapI (f := fun x : Pc => x.a) (l := ps.getLast?.toList) (g := pcD) w (.ml List.mem_cons_self) (by omega) (fun v => rfl) ?_ ?_
    · intro x y D acc H0 C _ w kc
      wtm_at "n"
      exact kc _ (by wtm_at "wf")
    intro pe H3 w
    wtm_at "n"
    refine n_cat w (ds := [.int top]) (es := ((ps.getLast?.toList).map fun x : Pc => x.a).map D.int) (by wtm_at "rk") (by wtm_at "rk") (by simp; omega) fun pm H4 w => ?_
    wtm_at "n"
    refine n_max (ns := top :: (ps.getLast?.toList).map fun x : Pc => x.a) w (.ml List.mem_cons_self) (by simp) fun m hm hle => ?_
    have em := sta_max hm hle
    subst em
    have w : Wf F H4 M1 := by wtm_at "wf"
    clear wt hm hle
    wtm_at "n"
    refine n_lashigh w hv (by omega) ff1 ff2 ff3 fun H5 w => ?_
    wtm_at "n"
    refine n_lroomO w hv (by omega) fun rr H6 w => ?_
    wtm_at "n"
    rw [sd_eqR]
    have f2' := f2
    rw [List.map_append] at f2
    cases sd with
    | true =>
      have el : (pcP W ps true br hi top).l = begI W ps (pcP W ps true br hi top).a hi := rfl
      rw [el] at fa fw
      simp only [el]
      wtm_at "n"
      refine n_lapart (by assumption) hv.moreF fa fun H7 w => ?_
      have w : Wf F H7 M1 := by wtm_at "wf"
      wtm_at "n"
      wtm_at "fork"
      · rename_i hbw
        have := fw hbw
        wtm_at "n"
        refine s_iteDn (by omega) ?_
        wtm_at "n"
        refine n_tyL w f2.mem ?_
        wtm_at "n"
        rename_i w
        refine n_app w f2 (.mem List.mem_cons_self) (by rw [List.length_map]; omega) fun H8 w => ?_
        wtm_at "n"
        exact k _ (by wtm_at "wf")
      · wtm_at "n"
        refine n_tyL w f2.mem ?_
        wtm_at "n"
        rename_i w
        refine n_app w f2 (.mem List.mem_cons_self) (by rw [List.length_map]; omega) fun H8 w => ?_
        wtm_at "n"
        exact k _ (by wtm_at "wf")
    | false =>
      have el : (pcP W ps false br hi top).l = if begI W ps (pcP W ps false br hi top).a hi + wdI W ps (pcP W ps false br hi top).a hi - br > 0 then begI W ps (pcP W ps false br hi top).a hi + wdI W ps (pcP W ps false br hi top).a hi - br else 0 := rfl
      rw [el] at fa fw
      simp only [el]
      wtm_at "n"
      refine n_lapart (by assumption) hv.moreF fa fun H7 w => ?_
      have w : Wf F H7 M1 := by wtm_at "wf"
      wtm_at "n"
      wtm_at "fork"
      · rename_i hbw
        have := fw hbw
        wtm_at "n"
        refine s_iteDn (by omega) ?_
        wtm_at "n"
        refine n_tyL w f2.mem ?_
        wtm_at "n"
        rename_i w
        refine n_app w f2 (.mem List.mem_cons_self) (by rw [List.length_map]; omega) fun H8 w => ?_
        wtm_at "n"
        exact k _ (by wtm_at "wf")
      · wtm_at "n"
        refine n_tyL w f2.mem ?_
        wtm_at "n"
        rename_i w
        refine n_app w f2 (.mem List.mem_cons_self) (by rw [List.length_map]; omega) fun H8 w => ?_
        wtm_at "n"
        exact k _ (by wtm_at "wf")
abbrev s__law_looked : Stmt := top 30
theorem sc__law_looked : FnScope ["_law_bag_here", "_law_outline", "_law_pieces", "_law_top_here", "_law_way"] ["_law_bag_here", "_law_outline", "_law_pieces"] (defScope s__law_looked) := ⟨rfl, rfl, rfl, by decide +kernel, rfl, by decide +kernel, by decide +kernel⟩
def sp__law_looked (C : Addr) : Sp := fun vs H Q _ => ∃ F M b po pl v, ∃ (W : Int) (ps : List Pc), vs = [.ref b, .ref po, v] ∧ Wf F H M ∧ .bag b ∈ M ∧ .mi po C (olF W pl) ∈ M ∧ .ml pl (ps.map pcD) ∈ M ∧ Rk F M v (.lst (ps.map pcD)) ∧ (∀ x ∈ ps, 1 ≤ x.h ∧ x.h ≤ 1000000) ∧ ps.length ≤ 24 ∧ (∀ z H', Wf F H' M → Q (.int z) H') ∧ (∀ H', Wf F H' M → Q .non H') ∧ (∀ r ds H', Wf ((r, .tup ds) :: F) H' M → Q r H') ∧ (∀ p H', Wf F H' (.ml p (ps.map rcD) :: M) → Q (.ref p) H')
theorem n_llook {C : Addr} {F : List (V × D)} {H : Hp} {M : List ME} {b po pl : Addr} {v : V} {W : Int} {ps : List Pc} {Q : VK} {E : XK} (w : Wf F H M) (hb : .bag b ∈ M) (h1 : .mi po C (olF W pl) ∈ M) (h2 : .ml pl (ps.map pcD) ∈ M) (hv : Rk F M v (.lst (ps.map pcD))) (hp : ∀ x ∈ ps, 1 ≤ x.h ∧ x.h ≤ 1000000) (hl : ps.length ≤ 24) (q1 : ∀ z H', Wf F H' M → Q (.int z) H') (q2 : ∀ H', Wf F H' M → Q .non H') (q3 : ∀ r ds H', Wf ((r, .tup ds) :: F) H' M → Q r H') (q4 : ∀ p H', Wf F H' (.ml p (ps.map rcD) :: M) → Q (.ref p) H') : sp__law_looked C ([.ref b, .ref po, v] ++ []) H Q E := ⟨F, M, b, po, pl, v, W, ps, rfl, w, hb, h1, h2, hv, hp, hl, q1, q2, q3, q4⟩

theorem ok__law_looked {f : Addr} {fd : FuncData} (F : Fun K "_law_looked" "_law_looked" s__law_looked f fd) (B : Bn mg) (c__law_top : Cal P w K mg base "_law_top" 2 ["_law_bag_here", "_law_pieces"] [] sp__law_top) (c__law_take : Cal P w K mg base "_law_take" 1 ["_law_bag_here", "_law_many"] [] sp__law_take) (t_Outline_clear_at : Met P w K mg base "clear_at" C_Outline 1 ["self", "top"] [] (sp_Outline_clear_at C_Outline)) (t_Outline_beneath : Met P w K mg base "beneath" C_Outline 1 ["self", "top"] [] (sp_Outline_beneath C_Outline)) (t_Outline_room_at : Met P w K mg base "room_at" C_Outline 2 ["self", "top", "high"] [] (sp_Outline_room_at C_Outline)) (t_Outline_fit_at : Met P w K mg base "fit_at" C_Outline 4 ["self", "need", "high", "top"] [] (sp_Outline_fit_at C_Outline)) (t_Outline_rects : Met P w K mg base "rects" C_Outline 1 ["self"] [] (sp_Outline_rects C_Outline)) (o_Outline : OwnC K C_Outline) (n_Outline : ∀ f ∈ (["whole_wide", "pieces"] : List Str), NoAttr K C_Outline f)  : FnOk P w K mg base CX0 5 f fd ["_law_bag_here", "_law_outline", "_law_pieces"] (sp__law_looked C_Outline) := by
  refine F.ok sc__law_looked (fun vs H Q E h => ?_) (fun cdv A outer s H vs Q E hr h => ?_)
  · obtain ⟨F, M, b, po, pl, v, W, ps, rfl, w, hb, h1, h2, hv, hp, hl, k1, k2, k3, k4⟩ := h
    all_goals rfl
  · obtain ⟨F, M, b, po, pl, v, W, ps, rfl, w, hb, h1, h2, hv, hp, hl, k1, k2, k3, k4⟩ := h
    refine ⟨_, (pss_cons (ps_set (i := 3) sc__law_looked.nd rfl (Or.inl rfl) (pe_cal c__law_top (hr.mono (by decide)) (by rfl) (pa_cons (pv 0) (pa_cons (pv 2) pa_nil))))
      (pss_cons (ps_set (i := 4) sc__law_looked.nd rfl (Or.inl rfl) (pe_cal c__law_take (hr.mono (by decide)) (by rfl) (pa_cons (pv 0) (pa_cons pe_int pa_nil))))
      (pss_cons (ps_if (pt_cmpR (k_eq (K := K) rfl hr.units) (pv 4) pe_int (nomark _)) (pss_one (ps_ret (pe_met (pv 1) t_Outline_clear_at (hr.mono (by decide)) (pa_cons (pv 3) pa_nil)))) pss_nil)
      (pss_cons (ps_if (pt_cmpR (k_eq (K := K) rfl hr.units) (pv 4) pe_int (nomark _)) (pss_one (ps_ret (pe_met (pv 1) t_Outline_beneath (hr.mono (by decide)) (pa_cons (pv 3) pa_nil)))) pss_nil)
      (pss_cons (ps_if (pt_cmpR (k_eq (K := K) rfl hr.units) (pv 4) pe_int (nomark _)) (pss_one (ps_ret (pe_met (pv 1) t_Outline_room_at (hr.mono (by decide)) (pa_cons (pv 3) (pa_cons (pe_op (k_add (K := K) rfl) pe_int (pe_cal c__law_take (hr.mono (by decide)) (by rfl) (pa_cons (pv 0) (pa_cons pe_int pa_nil)))) pa_nil))))) pss_nil)
      (pss_cons (ps_if (pt_cmpR (k_eq (K := K) rfl hr.units) (pv 4) pe_int (nomark _)) (pss_one (ps_ret (pe_met (pv 1) t_Outline_fit_at (hr.mono (by decide)) (pa_cons (pe_cal c__law_take (hr.mono (by decide)) (by rfl) (pa_cons (pv 0) (pa_cons pe_int pa_nil))) (pa_cons (pe_op (k_add (K := K) rfl) pe_int (pe_cal c__law_take (hr.mono (by decide)) (by rfl) (pa_cons (pv 0) (pa_cons pe_int pa_nil)))) (pa_cons (pv 3) pa_nil)))))) pss_nil)
      (pss_cons (ps_if (pt_cmpR (k_eq (K := K) rfl hr.units) (pv 4) pe_int (nomark _)) (pss_one (ps_ret (pe_met0 (pv 1) t_Outline_rects (hr.mono (by decide))))) pss_nil)
      (pss_one (ps_ret pe_non))))))))), ?_⟩
    try dsimp only [cxOf, Cx.nox, Cx.wish, Cx.blk]
    wtm_at "n"
    refine n_ltop w hb hv hp hl fun t H1 t0 t1 w => ?_
    wtm_at "n"
    refine n_take w hb (by omega) (by omega) fun wy H2 wy0 wy1 w => ?_
    wtm_at "n"
    wtm_at "fork"
    · wtm_at "n"
      refine n_clr w h1 h2 hl fun m H3 _ _ w => ?_
      exact k1 _ _ w
    wtm_at "n"
    wtm_at "fork"
    · wtm_at "n"
      refine n_ben w h1 h2 hl fun r p H3 w => ?_
      exact k3 _ _ _ (by wtm_at "wf")
    wtm_at "n"
    wtm_at "fork"
    · wtm_at "n"
      refine n_take w hb (by omega) (by omega) fun y H3 y0 y1 w => ?_
      wtm_at "n"
      refine n_room w h1 h2 hl fun r H4 w => ?_
      exact k3 _ _ _ (by wtm_at "wf")
    wtm_at "n"
    wtm_at "fork"
    · wtm_at "n"
      refine n_take w hb (by omega) (by omega) fun y H3 y0 y1 w => ?_
      wtm_at "n"
      refine n_take w hb (by omega) (by omega) fun z H4 z0 z1 w => ?_
      wtm_at "n"
      refine n_fit w h1 h2 hl (fun x hx => by have := hp x hx; omega) (by omega) fun H5 w => ?_
      exact k1 _ _ w
    wtm_at "n"
    wtm_at "fork"
    · wtm_at "n"
      refine n_rects w h1 h2 hl fun p H3 w => ?_
      exact k4 _ _ w
    wtm_at "n"
    exact k2 _ w
def sp_law (K : PySem.W.Frag) : Sp := fun vs H Q _ => ∃ a, ∃ ns : List Int, vs = [.ref a] ∧ SqL K H a (ns.map V.int) ∧ Only H ∧ ns.length ≤ 63 ∧ (∀ z ∈ ns, Builtin.Int.intBits z ≤ 1048576) ∧ ∀ H', Q (.bl true) H'

abbrev s_law : Stmt := top 31
theorem sc_law : FnScope ["_law_script", "_law_bag_here", "_law_count", "_law_wholes_here", "_law_outlines", "_law_rows", "_law_held", "_law_turn", "_law_piece_here", "_law_top_here", "_law_k", "_law_told", "_law_due", "_law_side", "_law_left", "_law_at", "_law_wide", "_law_tall", "_law_kept"] ["_law_script"] (defScope s_law) := ⟨rfl, rfl, rfl, by decide +kernel, rfl, by decide +kernel, by decide +kernel⟩
/-- a told list and its copy -/
def HeldD (d : D) : Prop := ∃ ps : List Pc, d = .tup [.lst (ps.map rcD), .lst (ps.map rcD)]
theorem rc_nb (ps : List Pc) : NB 2 (.lst (ps.map rcD)) := NB.list fun x _ => .tup fun d hd => by
  simp only [List.mem_cons, List.not_mem_nil, or_false] at hd
  rcases hd with rfl | rfl | rfl | rfl <;> exact .int _
theorem ok_snoc {ps : List Pc} {W : Int} {sd : Bool} {br hi tp : Int} (ok : ∀ x ∈ ps, 1 ≤ x.h ∧ x.h ≤ 1000000) (h0 : 1 ≤ hi) (h1 : hi ≤ 1000000) : ∀ x ∈ ps ++ [pcP W ps sd br hi tp], 1 ≤ x.h ∧ x.h ≤ 1000000 := fun x hx => by
  rcases List.mem_append.mp hx with h | h
  · exact ok x h
  · rw [List.mem_singleton.mp h]; exact ⟨h0, h1⟩
theorem all_rep (n : Nat) : (List.replicate n true).all id = true := by simp

theorem ok_law {f : Addr} {fd : FuncData} (F : Fun K "law" "law" s_law f fd) (B : Bn mg) (c__law_bag : Cal P w K mg base "_law_bag" 1 ["_law_script"] [] (sp__law_bag K)) (c__law_take : Cal P w K mg base "_law_take" 1 ["_law_bag_here", "_law_many"] [] sp__law_take) (c__law_extent : Cal P w K mg base "_law_extent" 2 ["_law_bag_here"] [] sp__law_extent) (c__law_piece : Cal P w K mg base "_law_piece" 3 ["_law_bag_here", "_law_whole_here"] [] sp__law_piece) (c__law_top : Cal P w K mg base "_law_top" 2 ["_law_bag_here", "_law_pieces"] [] sp__law_top) (c__law_looked : Cal P w K mg base "_law_looked" 5 ["_law_bag_here", "_law_outline", "_law_pieces"] [] (sp__law_looked C_Outline)) (c__law_put : Cal P w K mg base "_law_put" 6 ["_law_outline", "_law_pieces", "_law_whole_here", "_law_piece_here", "_law_top_here"] [] (sp__law_put C_Outline)) (m_Outline : Mak P w K mg base "Outline" C_Outline 4 ["self", "wide"] [] (sp_Outline___init__ C_Outline)) (t_Outline_rects : Met P w K mg base "rects" C_Outline 1 ["self"] [] (sp_Outline_rects C_Outline)) (o_Outline : OwnC K C_Outline) (n_Outline : ∀ f ∈ (["whole_wide", "pieces"] : List Str), NoAttr K C_Outline f)  : FnOk P w K mg base CX0 7 f fd ["_law_script"] (sp_law K) := by
  refine F.ok sc_law (fun vs H Q E h => ?_) (fun cdv A outer s H vs Q E hr h => ?_)
  · obtain ⟨a, ns, rfl, hS, hO, hl, hbits, k⟩ := h
    all_goals rfl
  · obtain ⟨a, ns, rfl, hS, hO, hl, hbits, k⟩ := h
    refine ⟨_, (pss_cons (ps_set (i := 1) sc_law.nd rfl (Or.inl rfl) (pe_cal c__law_bag (hr.mono (by decide)) (by rfl) (pa_cons (pv 0) pa_nil)))
      (pss_cons (ps_set (i := 2) sc_law.nd rfl (Or.inl rfl) (pe_op (k_add (K := K) rfl) pe_int (pe_cal c__law_take (hr.mono (by decide)) (by rfl) (pa_cons (pv 1) (pa_cons pe_int pa_nil)))))
      (pss_cons (ps_if (pt_cmpR (k_eq (K := K) rfl hr.units) (pe_cal c__law_take (hr.mono (by decide)) (by rfl) (pa_cons (pv 1) (pa_cons pe_int pa_nil))) pe_int (nomark _)) (pss_one (ps_set (i := 2) sc_law.nd rfl (Or.inl rfl) (pe_op (k_add (K := K) rfl) pe_int (pe_cal c__law_take (hr.mono (by decide)) (by rfl) (pa_cons (pv 1) (pa_cons pe_int pa_nil)))))) pss_nil)
      (pss_cons (ps_set (i := 3) sc_law.nd rfl (Or.inl rfl) (pe_lst (pa_cons (pe_cal c__law_extent (hr.mono (by decide)) (by rfl) (pa_cons (pv 1) pa_nil)) (pa_cons (pe_cal c__law_extent (hr.mono (by decide)) (by rfl) (pa_cons (pv 1) pa_nil)) pa_nil))))
      (pss_cons (ps_set (i := 4) sc_law.nd rfl (Or.inl rfl) (pe_lst (pa_cons (pe_mk m_Outline (hr.mono (by decide)) rfl (pa_cons (pe_ix (k_ix (K := K) rfl) (pv 3) pe_int (fun _ _ => rfl)) pa_nil)) (pa_cons (pe_mk m_Outline (hr.mono (by decide)) rfl (pa_cons (pe_ix (k_ix (K := K) rfl) (pv 3) pe_int (fun _ _ => rfl)) pa_nil)) pa_nil))))
      (pss_cons (ps_set (i := 5) sc_law.nd rfl (Or.inl rfl) (pe_lst (pa_cons (pe_lst pa_nil) (pa_cons (pe_lst pa_nil) pa_nil))))
      (pss_cons (ps_set (i := 6) sc_law.nd rfl (Or.inl rfl) (pe_lst pa_nil))
      (pss_cons (ps_for PassesOwn.never rfl (pi_range1 (by rfl) B.range_ (pa_cons (pv 2) pa_nil)) (pg_name (i := 7) sc_law.nd rfl (Or.inl rfl)) (pss_cons (ps_set (i := 8) sc_law.nd rfl (Or.inl rfl) (pe_cal c__law_piece (hr.mono (by decide)) (by rfl) (pa_cons (pv 1) (pa_cons (pe_ix (k_ix (K := K) rfl) (pv 3) pe_int (fun _ _ => rfl)) pa_nil))))
      (pss_cons (ps_set (i := 9) sc_law.nd rfl (Or.inl rfl) (pe_cal c__law_top (hr.mono (by decide)) (by rfl) (pa_cons (pv 1) (pa_cons (pe_ix (k_ix (K := K) rfl) (pv 5) (pe_cal c__law_take (hr.mono (by decide)) (by rfl) (pa_cons (pv 1) (pa_cons pe_int pa_nil))) (fun _ _ => rfl)) pa_nil))))
      (pss_one (ps_for PassesOwn.never rfl (pi_range1 (by rfl) B.range_ (pa_cons pe_int pa_nil)) (pg_name (i := 10) sc_law.nd rfl (Or.inl rfl)) (pss_cons (ps_set (i := 11) sc_law.nd rfl (Or.inl rfl) (pe_cal c__law_looked (hr.mono (by decide)) (by rfl) (pa_cons (pv 1) (pa_cons (pe_ix (k_ix (K := K) rfl) (pv 4) (pv 10) (fun _ _ => rfl)) (pa_cons (pe_ix (k_ix (K := K) rfl) (pv 5) (pv 10) (fun _ _ => rfl)) pa_nil)))))
      (pss_cons (ps_if (pt_val (pe_callB (k_isi (K := K) rfl) (by rfl) B.isinstance_ (by decide +kernel) (pa_cons (pv 11) (pa_cons (pe_bltn (v := .ty "list") (by rfl) B.list_ (by decide +kernel) rfl) pa_nil)))) (pss_one (ps_expr (pe_bm PySem.F.plainAttrs_list PySem.F.slot_list_append PySem.F.type_list_append mt_append (pv 6) (pa_cons (pe_tup (pa_cons (pv 11) (pa_cons (pe_callTy (k_list (K := K) rfl) (by rfl) B.list_ (by decide +kernel) (pa_cons (pv 11) pa_nil)) pa_nil))) pa_nil)))) pss_nil)
      (pss_one (ps_if (pt_not (pt_val (pe_cal c__law_put (hr.mono (by decide)) (by rfl) (pa_cons (pe_ix (k_ix (K := K) rfl) (pv 4) (pv 10) (fun _ _ => rfl)) (pa_cons (pe_ix (k_ix (K := K) rfl) (pv 5) (pv 10) (fun _ _ => rfl)) (pa_cons (pe_ix (k_ix (K := K) rfl) (pv 3) (pv 10) (fun _ _ => rfl)) (pa_cons (pv 8) (pa_cons (pv 9) pa_nil)))))))) (pss_one (ps_ret pe_bl)) pss_nil)))))))))
      (pss_cons (ps_for PassesOwn.never rfl (pi_range1 (by rfl) B.range_ (pa_cons pe_int pa_nil)) (pg_name (i := 10) sc_law.nd rfl (Or.inl rfl)) (pss_cons (ps_setLc (i := 12) (own := [("_law_side", 13), ("_law_left", 14), ("_law_at", 15), ("_law_wide", 16), ("_law_tall", 17)]) (by rfl) sc_law.nd rfl rfl (sw_true rfl rfl rfl (by decide +kernel)) (kpi_list (K := K) rfl (pe_ix (k_ix (K := K) rfl) (pv 5) (pv 10) (fun _ _ => rfl))) (blkOk_by (own := [("_law_side", 13), ("_law_left", 14), ("_law_at", 15), ("_law_wide", 16), ("_law_tall", 17)]) (N := ["_law_script", "_law_bag_here", "_law_count", "_law_wholes_here", "_law_outlines", "_law_rows", "_law_held", "_law_turn", "_law_piece_here", "_law_top_here", "_law_k", "_law_told", "_law_due", "_law_side", "_law_left", "_law_at", "_law_wide", "_law_tall", "_law_kept"]) (sc := defScope s_law) (by decide +kernel)) (fun _ _ _ _ _ => (kpg_tup (K := K) (n := 5) rfl rfl (pgs_cons (pg_name (i := 13) sc_law.nd rfl (Or.inl rfl)) (pgs_cons (pg_name (i := 14) sc_law.nd rfl (Or.inl rfl)) (pgs_cons (pg_name (i := 15) sc_law.nd rfl (Or.inl rfl)) (pgs_cons (pg_name (i := 16) sc_law.nd rfl (Or.inl rfl)) (pgs_cons (pg_name (i := 17) sc_law.nd rfl (Or.inl rfl)) pgs_nil))))))) (fun _ _ _ _ _ => pts_nil) (fun _ _ _ _ _ => (pe_tup (pa_cons (pv 14) (pa_cons (pv 15) (pa_cons (pv 16) (pa_cons (pv 17) pa_nil)))))))
      (pss_cons (ps_set (i := 11) sc_law.nd rfl (Or.inl rfl) (pe_met0 (pe_ix (k_ix (K := K) rfl) (pv 4) (pv 10) (fun _ _ => rfl)) t_Outline_rects (hr.mono (by decide))))
      (pss_cons (ps_if (pw_or (pt_not (pt_val (pe_callB (k_isi (K := K) rfl) (by rfl) B.isinstance_ (by decide +kernel) (pa_cons (pv 11) (pa_cons (pe_bltn (v := .ty "list") (by rfl) B.list_ (by decide +kernel) rfl) pa_nil))))) (pw_or1 (pt_cmpR (k_ne (K := K) rfl hr.units) (pv 11) (pv 12) (nomark _)))).pt (pss_one (ps_ret pe_bl)) pss_nil)
      (pss_cons (ps_expr (pe_bm0 PySem.F.plainAttrs_list PySem.F.slot_list_pop PySem.F.type_list_pop mt_pop (pv 11)))
      (pss_one (ps_if (pt_cmpR (k_ne (K := K) rfl hr.units) (pe_met0 (pe_ix (k_ix (K := K) rfl) (pv 4) (pv 10) (fun _ _ => rfl)) t_Outline_rects (hr.mono (by decide))) (pv 12) (nomark _)) (pss_one (ps_ret pe_bl)) pss_nil)))))))
      (pss_one (ps_ret (pe_callB (k_all (K := K) rfl rfl) (by rfl) B.all_ (by decide +kernel) (pa_cons (pe_lc (own := [("_law_told", 11), ("_law_kept", 18)]) (by rfl) sc_law.nd (kpi_list (K := K) rfl (pv 6)) (blkOk_by (own := [("_law_told", 11), ("_law_kept", 18)]) (N := ["_law_script", "_law_bag_here", "_law_count", "_law_wholes_here", "_law_outlines", "_law_rows", "_law_held", "_law_turn", "_law_piece_here", "_law_top_here", "_law_k", "_law_told", "_law_due", "_law_side", "_law_left", "_law_at", "_law_wide", "_law_tall", "_law_kept"]) (sc := defScope s_law) (by decide +kernel)) (fun _ _ _ _ _ => (kpg_tup (K := K) (n := 2) rfl rfl (pgs_cons (pg_name (i := 11) sc_law.nd rfl (Or.inl rfl)) (pgs_cons (pg_name (i := 18) sc_law.nd rfl (Or.inl rfl)) pgs_nil)))) (fun _ _ _ _ _ => pts_nil) (fun _ _ _ _ _ => (pe_cmpR (k_eq (K := K) rfl hr.units) (pv 11) (pv 18) (nomark _)))) pa_nil))))))))))))), ?_⟩
    try dsimp only [cxOf, Cx.nox, Cx.wish, Cx.blk]
    wtm_at "n"
    refine n_bag hS fun b H0 w => ?_
    wtm_at "n"
    refine n_take w (by wtm_at "mem") (by omega) (by omega) fun c1 H1 c10 c11 w => ?_
    wtm_at "st2"
    with_reducible refine s_mid (fun σ' H' => ∃ c : Int, σ' = [some (.ref a), some (.ref b), some (.int c), none, none, none, none, none, none, none, none, none, none, none, none, none, none, none, none] ∧ 1 ≤ c ∧ c ≤ 24 ∧ Wf [] H' [.bag b]) ?_ (fun N fin => ?_)
    rotate_left
    · wtm_at "n"
      refine n_take w (by wtm_at "mem") (by omega) (by omega) fun c2 H2 c20 c21 w => ?_
      wtm_at "n"
      wtm_at "fork"
      · wtm_at "n"
        refine n_take w (by wtm_at "mem") (by omega) (by omega) fun c3 H3 c30 c31 w => ?_
        wtm_at "n"
        exact fin _ _ ⟨_, rfl, by omega, by omega, w⟩
      · wtm_at "n"
        exact fin _ _ ⟨_, rfl, by omega, by omega, w⟩
    clear c10 c11 w
    rintro σ' H' ⟨c, rfl, c0, c1, w⟩
    wtm_at "n"
    refine n_lext w (by wtm_at "mem") fun W1 H2 w10 w11 w => ?_
    wtm_at "n"
    refine n_lext w (by wtm_at "mem") fun W2 H3 w20 w21 w => ?_
    wtm_at "n"
    rename_i pw H4 w
    refine n_mkOl w w10 w11 fun o1 l1 H5 w => ?_
    wtm_at "n"
    refine n_mkOl w w20 w21 fun o2 l2 H6 w => ?_
    wtm_at "n"
    refine n_newL w (ds := [.ref o1, .ref o2]) (.cons (.ref _) (.cons (.ref _) .nil)) (by simp) fun po H7 w => ?_
    have w := w.frzL .here
    wtm_at "n"
    rename_i r1 Hr1 w1 r2 Hr2 w
    refine n_newL w (ds := [.ref r1, .ref r2]) (.cons (.ref _) (.cons (.ref _) .nil)) (by simp) fun pr H8 w => ?_
    have w := w.frzL .here
    wtm_at "n"
    rename_i ph Hq w
    have w := w.frzL (p := pw) (by wtm_at "rem")
    have w : Wf [(.ref pw, .lst [.int W1, .int W2]), (.ref pr, .lst [.ref r1, .ref r2]), (.ref po, .lst [.ref o1, .ref o2])] Hq [.ml ph [], .ml r2 [], .ml r1 [], .mi o2 C_Outline (olF W2 l2), .ml l2 [], .mi o1 C_Outline (olF W1 l1), .ml l1 [], .bag b] := by wtm_at "wf"
    refine s_rng1' (by omega) (by omega) ?_
    refine n_forR w (fun i σ' F' M' => ∃ (ps1 ps2 : List Pc) (os : List D), ∃ x7 x8 x9 x10 x11 x12 x13 x14 x15 x16 x17 x18, σ' = [some (.ref a), some (.ref b), some (.int c), some (.ref pw), some (.ref po), some (.ref pr), some (.ref ph), x7, x8, x9, x10, x11, x12, x13, x14, x15, x16, x17, x18] ∧ F' = [(.ref pw, .lst [.int W1, .int W2]), (.ref pr, .lst [.ref r1, .ref r2]), (.ref po, .lst [.ref o1, .ref o2])] ∧ M' = [.ml ph os, .ml r2 (ps2.map pcD), .ml r1 (ps1.map pcD), .mi o2 C_Outline (olF W2 l2), .ml l2 (ps2.map pcD), .mi o1 C_Outline (olF W1 l1), .ml l1 (ps1.map pcD), .bag b] ∧ (∀ x ∈ ps1, 1 ≤ x.h ∧ x.h ≤ 1000000) ∧ (∀ x ∈ ps2, 1 ≤ x.h ∧ x.h ≤ 1000000) ∧ ps1.length = i ∧ ps2.length = i ∧ os.length ≤ 2 * i ∧ (∀ d ∈ os, HeldD d)) ⟨[], [], [], _, _, _, _, _, _, _, _, _, _, _, _, rfl, rfl, rfl, fun _ h => (nomatch h), fun _ h => (nomatch h), rfl, rfl, by simp, fun _ h => (nomatch h)⟩ ?_ ?_
    · rintro i σ' H' F' M' hi ⟨ps1, ps2, os, x7, x8, x9, x10, x11, x12, x13, x14, x15, x16, x17, x18, rfl, rfl, rfl, ok1, ok2, q1, q2, hol, hold⟩ w
      wtm_at "n"
      refine n_lpiece w (by wtm_at "mem") w10 w11 fun t H9 sd br hi br0 br1 hi0 hi1 w => ?_
      have w : Wf [(t, .tup [.str (sdS sd), .int br, .int hi]), (.ref pw, .lst [.int W1, .int W2]), (.ref pr, .lst [.ref r1, .ref r2]), (.ref po, .lst [.ref o1, .ref o2])] H9 [.ml ph os, .ml r2 (ps2.map pcD), .ml r1 (ps1.map pcD), .mi o2 C_Outline (olF W2 l2), .ml l2 (ps2.map pcD), .mi o1 C_Outline (olF W1 l1), .ml l1 (ps1.map pcD), .bag b] := w
      wtm_at "st2"
      with_reducible refine s_mid (fun σ' H' => ∃ tp : Int, σ' = [some (.ref a), some (.ref b), some (.int c), some (.ref pw), some (.ref po), some (.ref pr), some (.ref ph), some (.int (0 + (i : Int))), some t, some (.int tp), x10, x11, x12, x13, x14, x15, x16, x17, x18] ∧ 0 ≤ tp ∧ tp ≤ 1000000000000 ∧ Wf [(t, .tup [.str (sdS sd), .int br, .int hi]), (.ref pw, .lst [.int W1, .int W2]), (.ref pr, .lst [.ref r1, .ref r2]), (.ref po, .lst [.ref o1, .ref o2])] H' [.ml ph os, .ml r2 (ps2.map pcD), .ml r1 (ps1.map pcD), .mi o2 C_Outline (olF W2 l2), .ml l2 (ps2.map pcD), .mi o1 C_Outline (olF W1 l1), .ml l1 (ps1.map pcD), .bag b]) ?_ (fun N fin => ?_)
      rotate_left
      · wtm_at "n"
        refine n_take w (by wtm_at "mem") (by omega) (by omega) fun y H10 y0 y1 w => ?_
        have hy : y = 0 ∨ y = 1 := by omega
        rcases hy with rfl | rfl
        · wtm_at "n"
          refine n_ltop w (by wtm_at "mem") (by wtm_at "rk") ok1 (by omega) fun tp H11 tp0 tp1 w => ?_
          wtm_at "n"
          exact fin _ _ ⟨tp, rfl, tp0, tp1, w⟩
        · wtm_at "n"
          refine n_ltop w (by wtm_at "mem") (by wtm_at "rk") ok2 (by omega) fun tp H11 tp0 tp1 w => ?_
          wtm_at "n"
          exact fin _ _ ⟨tp, rfl, tp0, tp1, w⟩
      clear w
      rintro σ' H' ⟨tp, rfl, tp0, tp1, w⟩
      wtm_at "n"
      refine s_rng1' (by omega) (by omega) ?_
      refine n_forR w (fun j σ' F' M' => ∃ (qs1 qs2 : List Pc) (os : List D), ∃ x10 x11, σ' = [some (.ref a), some (.ref b), some (.int c), some (.ref pw), some (.ref po), some (.ref pr), some (.ref ph), some (.int (0 + (i : Int))), some t, some (.int tp), x10, x11, x12, x13, x14, x15, x16, x17, x18] ∧ F' = [(t, .tup [.str (sdS sd), .int br, .int hi]), (.ref pw, .lst [.int W1, .int W2]), (.ref pr, .lst [.ref r1, .ref r2]), (.ref po, .lst [.ref o1, .ref o2])] ∧ M' = [.ml ph os, .ml r2 (qs2.map pcD), .ml r1 (qs1.map pcD), .mi o2 C_Outline (olF W2 l2), .ml l2 (qs2.map pcD), .mi o1 C_Outline (olF W1 l1), .ml l1 (qs1.map pcD), .bag b] ∧ (∀ x ∈ qs1, 1 ≤ x.h ∧ x.h ≤ 1000000) ∧ (∀ x ∈ qs2, 1 ≤ x.h ∧ x.h ≤ 1000000) ∧ (j = 0 → qs1.length = i) ∧ (1 ≤ j → qs1.length = i + 1) ∧ (j ≤ 1 → qs2.length = i) ∧ (2 ≤ j → qs2.length = i + 1) ∧ os.length ≤ 2 * i + j ∧ (∀ d ∈ os, HeldD d)) ⟨ps1, ps2, os, _, _, rfl, rfl, rfl, ok1, ok2, fun _ => q1, fun h => absurd h (by omega), fun _ => q2, fun h => absurd h (by omega), hol, hold⟩ ?_ ?_
      · clear w q1 q2 hol hold ok1 ok2
        rintro j σ' H' F' M' hj ⟨ps1, ps2, os, x10, x11, rfl, rfl, rfl, ok1, ok2, q1, q1', q2, q2', hol, hold⟩ w
        have hj2 : j = 0 ∨ j = 1 := by omega
        wtm_at "st2"
        rcases hj2 with rfl | rfl
        · rw [show (0 : Int) + ((0 : Nat) : Int) = 0 from rfl]
          have h0 := q1 (by omega)
          with_reducible refine s_mid (fun σ' H' => ∃ v, σ' = [some (.ref a), some (.ref b), some (.int c), some (.ref pw), some (.ref po), some (.ref pr), some (.ref ph), some (.int (0 + (i : Int))), some t, some (.int tp), some (.int 0), some v, x12, x13, x14, x15, x16, x17, x18] ∧ ((∃ d s, d.tn = some s ∧ kitB s "list" = some false ∧ Wf [(v, d), (t, .tup [.str (sdS sd), .int br, .int hi]), (.ref pw, .lst [.int W1, .int W2]), (.ref pr, .lst [.ref r1, .ref r2]), (.ref po, .lst [.ref o1, .ref o2])] H' [.ml ph os, .ml r2 (ps2.map pcD), .ml r1 (ps1.map pcD), .mi o2 C_Outline (olF W2 l2), .ml l2 (ps2.map pcD), .mi o1 C_Outline (olF W1 l1), .ml l1 (ps1.map pcD), .bag b]) ∨ (∃ p, v = .ref p ∧ Wf [(t, .tup [.str (sdS sd), .int br, .int hi]), (.ref pw, .lst [.int W1, .int W2]), (.ref pr, .lst [.ref r1, .ref r2]), (.ref po, .lst [.ref o1, .ref o2])] H' (.ml p (ps1.map rcD) :: [.ml ph os, .ml r2 (ps2.map pcD), .ml r1 (ps1.map pcD), .mi o2 C_Outline (olF W2 l2), .ml l2 (ps2.map pcD), .mi o1 C_Outline (olF W1 l1), .ml l1 (ps1.map pcD), .bag b])))) ?_ (fun N fin => ?_)
          rotate_left
          · wtm_at "n"
            refine n_llook w (by wtm_at "mem") (by wtm_at "mem") (by wtm_at "mem") (by wtm_at "rk") ok1 (by omega) (fun z H2 w => ?_) (fun H2 w => ?_) (fun r ds H2 w => ?_) (fun p H2 w => ?_)
            · wtm_at "n"
              exact fin _ _ ⟨_, rfl, .inl ⟨.int z, _, rfl, by decide +kernel, w.add (.int z)⟩⟩
            · wtm_at "n"
              exact fin _ _ ⟨_, rfl, .inl ⟨.non, _, rfl, by decide +kernel, w.add .non⟩⟩
            · wtm_at "n"
              exact fin _ _ ⟨_, rfl, .inl ⟨.tup ds, _, rfl, by decide +kernel, w⟩⟩
            · wtm_at "n"
              exact fin _ _ ⟨_, rfl, .inr ⟨p, rfl, w⟩⟩
          clear w
          rintro σ' H' ⟨v, rfl, hv⟩
          wtm_at "st2"
          with_reducible refine s_mid (fun σ' H' => ∃ os : List D, σ' = [some (.ref a), some (.ref b), some (.int c), some (.ref pw), some (.ref po), some (.ref pr), some (.ref ph), some (.int (0 + (i : Int))), some t, some (.int tp), some (.int 0), some v, x12, x13, x14, x15, x16, x17, x18] ∧ Wf [(t, .tup [.str (sdS sd), .int br, .int hi]), (.ref pw, .lst [.int W1, .int W2]), (.ref pr, .lst [.ref r1, .ref r2]), (.ref po, .lst [.ref o1, .ref o2])] H' [.ml ph os, .ml r2 (ps2.map pcD), .ml r1 (ps1.map pcD), .mi o2 C_Outline (olF W2 l2), .ml l2 (ps2.map pcD), .mi o1 C_Outline (olF W1 l1), .ml l1 (ps1.map pcD), .bag b] ∧ os.length ≤ 2 * i + 1 ∧ (∀ d ∈ os, HeldD d)) ?_ (fun N fin => ?_)
          rotate_left
          · rcases hv with ⟨d, s, e1, e2, w⟩ | ⟨p, rfl, w⟩
            · wtm_at "n"
              refine n_isi w (.mem List.mem_cons_self) e1 e2 ?_
              wtm_at "n"
              exact fin _ _ ⟨os, rfl, by wtm_at "wf", by omega, hold⟩
            · wtm_at "n"
              rename_i p2 H2 w
              have w := w.frzL .here
              have w := w.frzL .here
              wtm_at "n"
              rename_i H3 w
              refine fin _ _ ⟨os ++ [.tup [.lst (ps1.map rcD), .lst (ps1.map rcD)]], rfl, by wtm_at "wf", by simp; omega, fun d hd => ?_⟩
              rcases List.mem_append.mp hd with h | h
              · exact hold d h
              · rw [List.mem_singleton.mp h]; exact ⟨ps1, rfl⟩
          clear hv hol hold os
          rintro σ' H' ⟨os, rfl, w, hol, hold⟩
          wtm_at "n"
          refine n_lput w (M2 := [.ml ph os, .ml r2 (ps2.map pcD), .ml r1 ((ps1 ++ [pcP W1 ps1 sd br hi tp]).map pcD), .mi o2 C_Outline (olF W2 l2), .ml l2 (ps2.map pcD), .mi o1 C_Outline (olF W1 l1), .ml l1 ((ps1 ++ [pcP W1 ps1 sd br hi tp]).map pcD), .bag b]) (by wtm_at "mem") (by wtm_at "mem") (by wtm_at "foc") (by wtm_at "foc") (by wtm_at "kn") (by omega) (fun x hx => by have := ok1 x hx; omega) w10 br0 br1 hi0 hi1 tp0 tp1 fun H2 w => ?_
          wtm_at "n"
          exact ⟨_, _, ⟨(ps1 ++ [pcP W1 ps1 sd br hi tp]), ps2, os, _, _, rfl, rfl, rfl, ok_snoc ok1 hi0 hi1, ok2, fun h => absurd h (by omega), fun _ => by simp; omega, fun h => q2 (by omega), fun h => absurd h (by omega), by omega, hold⟩, w⟩
        · rw [show (0 : Int) + ((1 : Nat) : Int) = 1 from rfl]
          have h0 := q2 (by omega)
          with_reducible refine s_mid (fun σ' H' => ∃ v, σ' = [some (.ref a), some (.ref b), some (.int c), some (.ref pw), some (.ref po), some (.ref pr), some (.ref ph), some (.int (0 + (i : Int))), some t, some (.int tp), some (.int 1), some v, x12, x13, x14, x15, x16, x17, x18] ∧ ((∃ d s, d.tn = some s ∧ kitB s "list" = some false ∧ Wf [(v, d), (t, .tup [.str (sdS sd), .int br, .int hi]), (.ref pw, .lst [.int W1, .int W2]), (.ref pr, .lst [.ref r1, .ref r2]), (.ref po, .lst [.ref o1, .ref o2])] H' [.ml ph os, .ml r2 (ps2.map pcD), .ml r1 (ps1.map pcD), .mi o2 C_Outline (olF W2 l2), .ml l2 (ps2.map pcD), .mi o1 C_Outline (olF W1 l1), .ml l1 (ps1.map pcD), .bag b]) ∨ (∃ p, v = .ref p ∧ Wf [(t, .tup [.str (sdS sd), .int br, .int hi]), (.ref pw, .lst [.int W1, .int W2]), (.ref pr, .lst [.ref r1, .ref r2]), (.ref po, .lst [.ref o1, .ref o2])] H' (.ml p (ps2.map rcD) :: [.ml ph os, .ml r2 (ps2.map pcD), .ml r1 (ps1.map pcD), .mi o2 C_Outline (olF W2 l2), .ml l2 (ps2.map pcD), .mi o1 C_Outline (olF W1 l1), .ml l1 (ps1.map pcD), .bag b])))) ?_ (fun N fin => ?_)
          rotate_left
          · wtm_at "n"
            refine n_llook w (by wtm_at "mem") (by wtm_at "mem") (by wtm_at "mem") (by wtm_at "rk") ok2 (by omega) (fun z H2 w => ?_) (fun H2 w => ?_) (fun r ds H2 w => ?_) (fun p H2 w => ?_)
            · wtm_at "n"
              exact fin _ _ ⟨_, rfl, .inl ⟨.int z, _, rfl, by decide +kernel, w.add (.int z)⟩⟩
            · wtm_at "n"
              exact fin _ _ ⟨_, rfl, .inl ⟨.non, _, rfl, by decide +kernel, w.add .non⟩⟩
            · wtm_at "n"
              exact fin _ _ ⟨_, rfl, .inl ⟨.tup ds, _, rfl, by decide +kernel, w⟩⟩
            · wtm_at "n"
              exact fin _ _ ⟨_, rfl, .inr ⟨p, rfl, w⟩⟩
          clear w
          rintro σ' H' ⟨v, rfl, hv⟩
          wtm_at "st2"
          with_reducible refine s_mid (fun σ' H' => ∃ os : List D, σ' = [some (.ref a), some (.ref b), some (.int c), some (.ref pw), some (.ref po), some (.ref pr), some (.ref ph), some (.int (0 + (i : Int))), some t, some (.int tp), some (.int 1), some v, x12, x13, x14, x15, x16, x17, x18] ∧ Wf [(t, .tup [.str (sdS sd), .int br, .int hi]), (.ref pw, .lst [.int W1, .int W2]), (.ref pr, .lst [.ref r1, .ref r2]), (.ref po, .lst [.ref o1, .ref o2])] H' [.ml ph os, .ml r2 (ps2.map pcD), .ml r1 (ps1.map pcD), .mi o2 C_Outline (olF W2 l2), .ml l2 (ps2.map pcD), .mi o1 C_Outline (olF W1 l1), .ml l1 (ps1.map pcD), .bag b] ∧ os.length ≤ 2 * i + 2 ∧ (∀ d ∈ os, HeldD d)) ?_ (fun N fin => ?_)
          rotate_left
          · rcases hv with ⟨d, s, e1, e2, w⟩ | ⟨p, rfl, w⟩
            · wtm_at "n"
              refine n_isi w (.mem List.mem_cons_self) e1 e2 ?_
              wtm_at "n"
              exact fin _ _ ⟨os, rfl, by wtm_at "wf", by omega, hold⟩
            · wtm_at "n"
              rename_i p2 H2 w
              have w := w.frzL .here
              have w := w.frzL .here
              wtm_at "n"
              rename_i H3 w
              refine fin _ _ ⟨os ++ [.tup [.lst (ps2.map rcD), .lst (ps2.map rcD)]], rfl, by wtm_at "wf", by simp; omega, fun d hd => ?_⟩
              rcases List.mem_append.mp hd with h | h
              · exact hold d h
              · rw [List.mem_singleton.mp h]; exact ⟨ps2, rfl⟩
          clear hv hol hold os
          rintro σ' H' ⟨os, rfl, w, hol, hold⟩
          wtm_at "n"
          refine n_lput w (M2 := [.ml ph os, .ml r2 ((ps2 ++ [pcP W2 ps2 sd br hi tp]).map pcD), .ml r1 (ps1.map pcD), .mi o2 C_Outline (olF W2 l2), .ml l2 ((ps2 ++ [pcP W2 ps2 sd br hi tp]).map pcD), .mi o1 C_Outline (olF W1 l1), .ml l1 (ps1.map pcD), .bag b]) (by wtm_at "mem") (by wtm_at "mem") (by wtm_at "foc") (by wtm_at "foc") (by wtm_at "kn") (by omega) (fun x hx => by have := ok2 x hx; omega) w20 br0 br1 hi0 hi1 tp0 tp1 fun H2 w => ?_
          wtm_at "n"
          exact ⟨_, _, ⟨ps1, (ps2 ++ [pcP W2 ps2 sd br hi tp]), os, _, _, rfl, rfl, rfl, ok1, ok_snoc ok2 hi0 hi1, fun h => absurd h (by omega), fun _ => q1' (by omega), fun h => absurd h (by omega), fun h => by simp; omega, by omega, hold⟩, w⟩
      · rintro σ' H' F' M' ⟨ps1, ps2, os, x10, x11, rfl, rfl, rfl, ok1, ok2, _, q1, _, q2, hol, hold⟩ w
        exact ⟨_, _, ⟨ps1, ps2, os, _, _, _, _, _, _, _, _, _, _, _, _, rfl, rfl, rfl, ok1, ok2, q1 (by decide), q2 (by decide), by omega, hold⟩, by wtm_at "wf"⟩
    · rintro σ' H' F' M' ⟨ps1, ps2, os, x7, x8, x9, x10, x11, x12, x13, x14, x15, x16, x17, x18, rfl, rfl, rfl, ok1, ok2, q1, q2, hol, hold⟩ w
      have hc : 0 < ps1.length ∧ ps1.length ≤ 24 ∧ 0 < ps2.length ∧ ps2.length ≤ 24 := by omega
      obtain ⟨n1, m1, n2, m2⟩ := hc
      have hol : os.length ≤ 48 := by omega
      clear q1 q2
      wtm_at "n"
      refine s_rng1' (by omega) (by omega) ?_
      refine n_forR w (fun j σ' F' M' => (∃ x10 x11 x12, σ' = [some (.ref a), some (.ref b), some (.int c), some (.ref pw), some (.ref po), some (.ref pr), some (.ref ph), x7, x8, x9, x10, x11, x12, x13, x14, x15, x16, x17, x18]) ∧ F' = [(.ref pw, .lst [.int W1, .int W2]), (.ref pr, .lst [.ref r1, .ref r2]), (.ref po, .lst [.ref o1, .ref o2])] ∧ M' = [.ml ph os, .ml r2 (ps2.map pcD), .ml r1 (ps1.map pcD), .mi o2 C_Outline (olF W2 l2), .ml l2 (ps2.map pcD), .mi o1 C_Outline (olF W1 l1), .ml l1 (ps1.map pcD), .bag b]) ⟨⟨_, _, _, rfl⟩, rfl, rfl⟩ ?_ ?_
      · rintro j σ' H' F' M' hj ⟨⟨x10, x11, x12, rfl⟩, rfl, rfl⟩ w
        have hj2 : j = 0 ∨ j = 1 := by omega
        wtm_at "n"
        rcases hj2 with rfl | rfl
        · rw [show (0 : Int) + ((0 : Nat) : Int) = 0 from rfl]
          wtm_at "n"
          refine n_lcG w (ds := ps1.map pcD) (by wtm_at "rk") (fun i acc => acc = (ps1.take i).map rcD) rfl (by rw [List.length_map]; omega) ?_ ?_
          · intro i d y Dp acc H0 Ap Sk hd hR w kA kS
            obtain ⟨x, hx, rfl⟩ := map_get hd
            refine n_gtup5 w (by wtm_at "rk") fun v0 v1 v2 v3 v4 w => ?_
            obtain ⟨rfl, w1⟩ := w.str0
            obtain ⟨rfl, w2⟩ := w1.eq0
            obtain ⟨rfl, w3⟩ := w2.eq0
            obtain ⟨rfl, w4⟩ := w3.eq0
            obtain ⟨rfl, w5⟩ := w4.eq0
            clear w w1 w2 w3 w4
            wtm_at "n"
            refine ⟨rfl, ?_⟩
            wtm_at "n"
            rename_i pz Hz wz
            refine kA _ (rcD x) _ (by wtm_at "wf") ?_
            rw [hR, take_snoc hx, List.map_append]
            rfl
          intro pd es H1 hR w
          rw [List.length_map, List.take_length] at hR
          subst hR
          wtm_at "n"
          refine n_rects w (by wtm_at "mem") (by wtm_at "mem") m1 fun p H2 w => ?_
          wtm_at "n"
          refine n_neT w (d := .lst (ps1.map rcD)) (by wtm_at "rk") (by wtm_at "rk") ((rc_nb ps1).mono (by decide)) ?_
          wtm_at "n"
          refine n_pop w (by wtm_at "foc") (by simpa using n1) fun y H3 w => ?_
          wtm_at "n"
          refine n_rects w (by wtm_at "mem") (by wtm_at "mem") m1 fun p2 H4 w => ?_
          wtm_at "n"
          refine n_neT w (d := .lst (ps1.map rcD)) (.ml List.mem_cons_self) (by wtm_at "rk") ((rc_nb ps1).mono (by decide)) ?_
          wtm_at "n"
          exact ⟨_, _, ⟨⟨_, _, _, rfl⟩, rfl, rfl⟩, by wtm_at "wf"⟩
        · rw [show (0 : Int) + ((1 : Nat) : Int) = 1 from rfl]
          wtm_at "n"
          refine n_lcG w (ds := ps2.map pcD) (by wtm_at "rk") (fun i acc => acc = (ps2.take i).map rcD) rfl (by rw [List.length_map]; omega) ?_ ?_
          · intro i d y Dp acc H0 Ap Sk hd hR w kA kS
            obtain ⟨x, hx, rfl⟩ := map_get hd
            refine n_gtup5 w (by wtm_at "rk") fun v0 v1 v2 v3 v4 w => ?_
            obtain ⟨rfl, w1⟩ := w.str0
            obtain ⟨rfl, w2⟩ := w1.eq0
            obtain ⟨rfl, w3⟩ := w2.eq0
            obtain ⟨rfl, w4⟩ := w3.eq0
            obtain ⟨rfl, w5⟩ := w4.eq0
            clear w w1 w2 w3 w4
            wtm_at "n"
            refine ⟨rfl, ?_⟩
            wtm_at "n"
            rename_i pz Hz wz
            refine kA _ (rcD x) _ (by wtm_at "wf") ?_
            rw [hR, take_snoc hx, List.map_append]
            rfl
          intro pd es H1 hR w
          rw [List.length_map, List.take_length] at hR
          subst hR
          wtm_at "n"
          refine n_rects w (by wtm_at "mem") (by wtm_at "mem") m2 fun p H2 w => ?_
          wtm_at "n"
          refine n_neT w (d := .lst (ps2.map rcD)) (by wtm_at "rk") (by wtm_at "rk") ((rc_nb ps2).mono (by decide)) ?_
          wtm_at "n"
          refine n_pop w (by wtm_at "foc") (by simpa using n2) fun y H3 w => ?_
          wtm_at "n"
          refine n_rects w (by wtm_at "mem") (by wtm_at "mem") m2 fun p2 H4 w => ?_
          wtm_at "n"
          refine n_neT w (d := .lst (ps2.map rcD)) (.ml List.mem_cons_self) (by wtm_at "rk") ((rc_nb ps2).mono (by decide)) ?_
          wtm_at "n"
          exact ⟨_, _, ⟨⟨_, _, _, rfl⟩, rfl, rfl⟩, by wtm_at "wf"⟩
      · rintro σ' H' F' M' ⟨⟨x10, x11, x12, rfl⟩, rfl, rfl⟩ w
        wtm_at "n"
        refine n_lcG w (ds := os) (by wtm_at "rk") (fun i acc => acc = (List.replicate i true).map D.bl) rfl (by omega) ?_ ?_
        · intro i d y Dp acc H0 Ap Sk hd hR w kA kS
          obtain ⟨ps, rfl⟩ := hold d (List.mem_of_getElem? hd)
          wtm_at "n"
          rename_i u0 u1 w
          refine ⟨rfl, ?_⟩
          wtm_at "n"
          refine n_eqT w (d := .lst (ps.map rcD)) (.mem (by simp)) (.mem (by simp)) ((rc_nb ps).mono (by decide)) ?_
          refine kA _ (.bl true) _ (Wf.add (by wtm_at "wf") (.bl true)) ?_
          rw [hR, List.replicate_succ', List.map_append]
          rfl
        intro pd es H1 hR w
        subst hR
        wtm_at "n"
        refine n_all w (.ml List.mem_cons_self) (all_rep _) ?_
        wtm_at "n"
        exact k _
end
theorem all_mk {l : PySem.W.OpenLaw} {w : World} {K : PySem.W.Frag} {h : Heap} {mg : Str → Option Value} {fa : Addr} (X : K.In h) (G : h.Ns mainGlobals mg) (hfa : mg "law" = some (.ref fa))
    {f_is_whole : Addr} {od_is_whole an_is_whole : Option Addr} {sl_is_whole : Array (Option Value)} {oc_is_whole kV_is_whole dc_is_whole pm_is_whole cd_is_whole ct_is_whole : Value}
    (a_is_whole : PySem.W.nsIn K mainGlobals "is_whole" = some (some (.ref f_is_whole)))
    (l_is_whole : K.lookup f_is_whole = some ⟨oc_is_whole, od_is_whole, .func (PySem.W.fnOf "is_whole" "is_whole" (defArgs s_is_whole) (defBody s_is_whole) (defScope s_is_whole) .none kV_is_whole dc_is_whole pm_is_whole an_is_whole cd_is_whole ct_is_whole), sl_is_whole⟩)
    (cc_is_whole : PySem.W.codeIn K cd_is_whole "is_whole" = true) (k_is_whole : PySem.W.keepIn K (.ref f_is_whole) = true)
    {f_is_length : Addr} {od_is_length an_is_length : Option Addr} {sl_is_length : Array (Option Value)} {oc_is_length kV_is_length dc_is_length pm_is_length cd_is_length ct_is_length : Value}
    (a_is_length : PySem.W.nsIn K mainGlobals "is_length" = some (some (.ref f_is_length)))
    (l_is_length : K.lookup f_is_length = some ⟨oc_is_length, od_is_length, .func (PySem.W.fnOf "is_length" "is_length" (defArgs s_is_length) (defBody s_is_length) (defScope s_is_length) .none kV_is_length dc_is_length pm_is_length an_is_length cd_is_length ct_is_length), sl_is_length⟩)
    (cc_is_length : PySem.W.codeIn K cd_is_length "is_length" = true) (k_is_length : PySem.W.keepIn K (.ref f_is_length) = true)
    {f_is_small : Addr} {od_is_small an_is_small : Option Addr} {sl_is_small : Array (Option Value)} {oc_is_small kV_is_small dc_is_small pm_is_small cd_is_small ct_is_small : Value}
    (a_is_small : PySem.W.nsIn K mainGlobals "is_small" = some (some (.ref f_is_small)))
    (l_is_small : K.lookup f_is_small = some ⟨oc_is_small, od_is_small, .func (PySem.W.fnOf "is_small" "is_small" (defArgs s_is_small) (defBody s_is_small) (defScope s_is_small) .none kV_is_small dc_is_small pm_is_small an_is_small cd_is_small ct_is_small), sl_is_small⟩)
    (cc_is_small : PySem.W.codeIn K cd_is_small "is_small" = true) (k_is_small : PySem.W.keepIn K (.ref f_is_small) = true)
    {f_is_side : Addr} {od_is_side an_is_side : Option Addr} {sl_is_side : Array (Option Value)} {oc_is_side kV_is_side dc_is_side pm_is_side cd_is_side ct_is_side : Value}
    (a_is_side : PySem.W.nsIn K mainGlobals "is_side" = some (some (.ref f_is_side)))
    (l_is_side : K.lookup f_is_side = some ⟨oc_is_side, od_is_side, .func (PySem.W.fnOf "is_side" "is_side" (defArgs s_is_side) (defBody s_is_side) (defScope s_is_side) .none kV_is_side dc_is_side pm_is_side an_is_side cd_is_side ct_is_side), sl_is_side⟩)
    (cc_is_side : PySem.W.codeIn K cd_is_side "is_side" = true) (k_is_side : PySem.W.keepIn K (.ref f_is_side) = true)
    {f_is_extent : Addr} {od_is_extent an_is_extent : Option Addr} {sl_is_extent : Array (Option Value)} {oc_is_extent kV_is_extent dc_is_extent pm_is_extent cd_is_extent ct_is_extent : Value}
    (a_is_extent : PySem.W.nsIn K mainGlobals "is_extent" = some (some (.ref f_is_extent)))
    (l_is_extent : K.lookup f_is_extent = some ⟨oc_is_extent, od_is_extent, .func (PySem.W.fnOf "is_extent" "is_extent" (defArgs s_is_extent) (defBody s_is_extent) (defScope s_is_extent) .none kV_is_extent dc_is_extent pm_is_extent an_is_extent cd_is_extent ct_is_extent), sl_is_extent⟩)
    (cc_is_extent : PySem.W.codeIn K cd_is_extent "is_extent" = true) (k_is_extent : PySem.W.keepIn K (.ref f_is_extent) = true)
    {f_look_at_piece : Addr} {od_look_at_piece an_look_at_piece : Option Addr} {sl_look_at_piece : Array (Option Value)} {oc_look_at_piece kV_look_at_piece dc_look_at_piece pm_look_at_piece cd_look_at_piece ct_look_at_piece : Value}
    (a_look_at_piece : PySem.W.nsIn K mainGlobals "look_at_piece" = some (some (.ref f_look_at_piece)))
    (l_look_at_piece : K.lookup f_look_at_piece = some ⟨oc_look_at_piece, od_look_at_piece, .func (PySem.W.fnOf "look_at_piece" "look_at_piece" (defArgs s_look_at_piece) (defBody s_look_at_piece) (defScope s_look_at_piece) .none kV_look_at_piece dc_look_at_piece pm_look_at_piece an_look_at_piece cd_look_at_piece ct_look_at_piece), sl_look_at_piece⟩)
    (cc_look_at_piece : PySem.W.codeIn K cd_look_at_piece "look_at_piece" = true) (k_look_at_piece : PySem.W.keepIn K (.ref f_look_at_piece) = true)
    {C_Outline : Addr} (aC_Outline : PySem.W.nsIn K mainGlobals "Outline" = some (some (.ref C_Outline)))
    (pg_Outline : PySem.W.plainGet K C_Outline Str.empty = true)
    (hd_Outline : PySem.W.hasDictIn K C_Outline = true)
    (po_Outline : PySem.W.plainOver K C_Outline = true)
    (sa_Outline : PySem.W.findIn K (.ref C_Outline) "__setattr__" = some (some (.builtin "object.__setattr__")))
    (mk_Outline : PySem.W.makesIn K C_Outline = true)
    (kc_Outline : PySem.W.keepIn K (.ref C_Outline) = true)
    (ha_Outline : PySem.W.findIn K (.ref C_Outline) "__class__" = some (some (.builtin "object.__class__")))
    (hn_Outline : PySem.W.specialIn K (.builtin "object.__class__") "__get__" = some (some (.builtin "getset_descriptor.__get__")))
    (htk_Outline : PySem.W.takesIn K (.builtin "object.__class__") = some true)
    (hm_Outline : PySem.W.mroIn K C_Outline (.type "object") = some true)
    (nf_Outline_whole_wide : PySem.W.findIn K (.ref C_Outline) "whole_wide" = some none)
    (nf_Outline_pieces : PySem.W.findIn K (.ref C_Outline) "pieces" = some none)
    {f_Outline___init__ : Addr} {od_Outline___init__ an_Outline___init__ : Option Addr} {sl_Outline___init__ : Array (Option Value)} {oc_Outline___init__ kV_Outline___init__ dc_Outline___init__ pm_Outline___init__ cd_Outline___init__ ct_Outline___init__ : Value}
    (a_Outline___init__ : PySem.W.findIn K (.ref C_Outline) "__init__" = some (some (.ref f_Outline___init__))) (i_Outline___init__ : PySem.W.isFn K (.ref f_Outline___init__) = true)
    (l_Outline___init__ : K.lookup f_Outline___init__ = some ⟨oc_Outline___init__, od_Outline___init__, .func (PySem.W.fnOf "__init__" "Outline.__init__" (defArgs s_Outline___init__) (defBody s_Outline___init__) (defScope s_Outline___init__) .none kV_Outline___init__ dc_Outline___init__ pm_Outline___init__ an_Outline___init__ cd_Outline___init__ ct_Outline___init__), sl_Outline___init__⟩)
    (cc_Outline___init__ : PySem.W.codeIn K cd_Outline___init__ "Outline.__init__" = true) (k_Outline___init__ : PySem.W.keepIn K (.ref f_Outline___init__) = true)
    {f_Outline_met : Addr} {od_Outline_met an_Outline_met : Option Addr} {sl_Outline_met : Array (Option Value)} {oc_Outline_met kV_Outline_met dc_Outline_met pm_Outline_met cd_Outline_met ct_Outline_met : Value}
    (a_Outline_met : PySem.W.findIn K (.ref C_Outline) "met" = some (some (.ref f_Outline_met))) (i_Outline_met : PySem.W.isFn K (.ref f_Outline_met) = true)
    (l_Outline_met : K.lookup f_Outline_met = some ⟨oc_Outline_met, od_Outline_met, .func (PySem.W.fnOf "met" "Outline.met" (defArgs s_Outline_met) (defBody s_Outline_met) (defScope s_Outline_met) .none kV_Outline_met dc_Outline_met pm_Outline_met an_Outline_met cd_Outline_met ct_Outline_met), sl_Outline_met⟩)
    (cc_Outline_met : PySem.W.codeIn K cd_Outline_met "Outline.met" = true) (k_Outline_met : PySem.W.keepIn K (.ref f_Outline_met) = true)
    {f_Outline_room_at : Addr} {od_Outline_room_at an_Outline_room_at : Option Addr} {sl_Outline_room_at : Array (Option Value)} {oc_Outline_room_at kV_Outline_room_at dc_Outline_room_at pm_Outline_room_at cd_Outline_room_at ct_Outline_room_at : Value}
    (a_Outline_room_at : PySem.W.findIn K (.ref C_Outline) "room_at" = some (some (.ref f_Outline_room_at))) (i_Outline_room_at : PySem.W.isFn K (.ref f_Outline_room_at) = true)
    (l_Outline_room_at : K.lookup f_Outline_room_at = some ⟨oc_Outline_room_at, od_Outline_room_at, .func (PySem.W.fnOf "room_at" "Outline.room_at" (defArgs s_Outline_room_at) (defBody s_Outline_room_at) (defScope s_Outline_room_at) .none kV_Outline_room_at dc_Outline_room_at pm_Outline_room_at an_Outline_room_at cd_Outline_room_at ct_Outline_room_at), sl_Outline_room_at⟩)
    (cc_Outline_room_at : PySem.W.codeIn K cd_Outline_room_at "Outline.room_at" = true) (k_Outline_room_at : PySem.W.keepIn K (.ref f_Outline_room_at) = true)
    {f_Outline_is_good : Addr} {od_Outline_is_good an_Outline_is_good : Option Addr} {sl_Outline_is_good : Array (Option Value)} {oc_Outline_is_good kV_Outline_is_good dc_Outline_is_good pm_Outline_is_good cd_Outline_is_good ct_Outline_is_good : Value}
    (a_Outline_is_good : PySem.W.findIn K (.ref C_Outline) "is_good" = some (some (.ref f_Outline_is_good))) (i_Outline_is_good : PySem.W.isFn K (.ref f_Outline_is_good) = true)
    (l_Outline_is_good : K.lookup f_Outline_is_good = some ⟨oc_Outline_is_good, od_Outline_is_good, .func (PySem.W.fnOf "is_good" "Outline.is_good" (defArgs s_Outline_is_good) (defBody s_Outline_is_good) (defScope s_Outline_is_good) .none kV_Outline_is_good dc_Outline_is_good pm_Outline_is_good an_Outline_is_good cd_Outline_is_good ct_Outline_is_good), sl_Outline_is_good⟩)
    (cc_Outline_is_good : PySem.W.codeIn K cd_Outline_is_good "Outline.is_good" = true) (k_Outline_is_good : PySem.W.keepIn K (.ref f_Outline_is_good) = true)
    {f_Outline_fit_at : Addr} {od_Outline_fit_at an_Outline_fit_at : Option Addr} {sl_Outline_fit_at : Array (Option Value)} {oc_Outline_fit_at kV_Outline_fit_at dc_Outline_fit_at pm_Outline_fit_at cd_Outline_fit_at ct_Outline_fit_at : Value}
    (a_Outline_fit_at : PySem.W.findIn K (.ref C_Outline) "fit_at" = some (some (.ref f_Outline_fit_at))) (i_Outline_fit_at : PySem.W.isFn K (.ref f_Outline_fit_at) = true)
    (l_Outline_fit_at : K.lookup f_Outline_fit_at = some ⟨oc_Outline_fit_at, od_Outline_fit_at, .func (PySem.W.fnOf "fit_at" "Outline.fit_at" (defArgs s_Outline_fit_at) (defBody s_Outline_fit_at) (defScope s_Outline_fit_at) .none kV_Outline_fit_at dc_Outline_fit_at pm_Outline_fit_at an_Outline_fit_at cd_Outline_fit_at ct_Outline_fit_at), sl_Outline_fit_at⟩)
    (cc_Outline_fit_at : PySem.W.codeIn K cd_Outline_fit_at "Outline.fit_at" = true) (k_Outline_fit_at : PySem.W.keepIn K (.ref f_Outline_fit_at) = true)
    {f_Outline_put : Addr} {od_Outline_put an_Outline_put : Option Addr} {sl_Outline_put : Array (Option Value)} {oc_Outline_put kV_Outline_put dc_Outline_put pm_Outline_put cd_Outline_put ct_Outline_put : Value}
    (a_Outline_put : PySem.W.findIn K (.ref C_Outline) "put" = some (some (.ref f_Outline_put))) (i_Outline_put : PySem.W.isFn K (.ref f_Outline_put) = true)
    (l_Outline_put : K.lookup f_Outline_put = some ⟨oc_Outline_put, od_Outline_put, .func (PySem.W.fnOf "put" "Outline.put" (defArgs s_Outline_put) (defBody s_Outline_put) (defScope s_Outline_put) .none kV_Outline_put dc_Outline_put pm_Outline_put an_Outline_put cd_Outline_put ct_Outline_put), sl_Outline_put⟩)
    (cc_Outline_put : PySem.W.codeIn K cd_Outline_put "Outline.put" = true) (k_Outline_put : PySem.W.keepIn K (.ref f_Outline_put) = true)
    {f_Outline_clear_at : Addr} {od_Outline_clear_at an_Outline_clear_at : Option Addr} {sl_Outline_clear_at : Array (Option Value)} {oc_Outline_clear_at kV_Outline_clear_at dc_Outline_clear_at pm_Outline_clear_at cd_Outline_clear_at ct_Outline_clear_at : Value}
    (a_Outline_clear_at : PySem.W.findIn K (.ref C_Outline) "clear_at" = some (some (.ref f_Outline_clear_at))) (i_Outline_clear_at : PySem.W.isFn K (.ref f_Outline_clear_at) = true)
    (l_Outline_clear_at : K.lookup f_Outline_clear_at = some ⟨oc_Outline_clear_at, od_Outline_clear_at, .func (PySem.W.fnOf "clear_at" "Outline.clear_at" (defArgs s_Outline_clear_at) (defBody s_Outline_clear_at) (defScope s_Outline_clear_at) .none kV_Outline_clear_at dc_Outline_clear_at pm_Outline_clear_at an_Outline_clear_at cd_Outline_clear_at ct_Outline_clear_at), sl_Outline_clear_at⟩)
    (cc_Outline_clear_at : PySem.W.codeIn K cd_Outline_clear_at "Outline.clear_at" = true) (k_Outline_clear_at : PySem.W.keepIn K (.ref f_Outline_clear_at) = true)
    {f_Outline_rects : Addr} {od_Outline_rects an_Outline_rects : Option Addr} {sl_Outline_rects : Array (Option Value)} {oc_Outline_rects kV_Outline_rects dc_Outline_rects pm_Outline_rects cd_Outline_rects ct_Outline_rects : Value}
    (a_Outline_rects : PySem.W.findIn K (.ref C_Outline) "rects" = some (some (.ref f_Outline_rects))) (i_Outline_rects : PySem.W.isFn K (.ref f_Outline_rects) = true)
    (l_Outline_rects : K.lookup f_Outline_rects = some ⟨oc_Outline_rects, od_Outline_rects, .func (PySem.W.fnOf "rects" "Outline.rects" (defArgs s_Outline_rects) (defBody s_Outline_rects) (defScope s_Outline_rects) .none kV_Outline_rects dc_Outline_rects pm_Outline_rects an_Outline_rects cd_Outline_rects ct_Outline_rects), sl_Outline_rects⟩)
    (cc_Outline_rects : PySem.W.codeIn K cd_Outline_rects "Outline.rects" = true) (k_Outline_rects : PySem.W.keepIn K (.ref f_Outline_rects) = true)
    {f_Outline_beneath : Addr} {od_Outline_beneath an_Outline_beneath : Option Addr} {sl_Outline_beneath : Array (Option Value)} {oc_Outline_beneath kV_Outline_beneath dc_Outline_beneath pm_Outline_beneath cd_Outline_beneath ct_Outline_beneath : Value}
    (a_Outline_beneath : PySem.W.findIn K (.ref C_Outline) "beneath" = some (some (.ref f_Outline_beneath))) (i_Outline_beneath : PySem.W.isFn K (.ref f_Outline_beneath) = true)
    (l_Outline_beneath : K.lookup f_Outline_beneath = some ⟨oc_Outline_beneath, od_Outline_beneath, .func (PySem.W.fnOf "beneath" "Outline.beneath" (defArgs s_Outline_beneath) (defBody s_Outline_beneath) (defScope s_Outline_beneath) .none kV_Outline_beneath dc_Outline_beneath pm_Outline_beneath an_Outline_beneath cd_Outline_beneath ct_Outline_beneath), sl_Outline_beneath⟩)
    (cc_Outline_beneath : PySem.W.codeIn K cd_Outline_beneath "Outline.beneath" = true) (k_Outline_beneath : PySem.W.keepIn K (.ref f_Outline_beneath) = true)
    {f__law_bag : Addr} {od__law_bag an__law_bag : Option Addr} {sl__law_bag : Array (Option Value)} {oc__law_bag kV__law_bag dc__law_bag pm__law_bag cd__law_bag ct__law_bag : Value}
    (a__law_bag : PySem.W.nsIn K mainGlobals "_law_bag" = some (some (.ref f__law_bag)))
    (l__law_bag : K.lookup f__law_bag = some ⟨oc__law_bag, od__law_bag, .func (PySem.W.fnOf "_law_bag" "_law_bag" (defArgs s__law_bag) (defBody s__law_bag) (defScope s__law_bag) .none kV__law_bag dc__law_bag pm__law_bag an__law_bag cd__law_bag ct__law_bag), sl__law_bag⟩)
    (cc__law_bag : PySem.W.codeIn K cd__law_bag "_law_bag" = true) (k__law_bag : PySem.W.keepIn K (.ref f__law_bag) = true)
    {f__law_take : Addr} {od__law_take an__law_take : Option Addr} {sl__law_take : Array (Option Value)} {oc__law_take kV__law_take dc__law_take pm__law_take cd__law_take ct__law_take : Value}
    (a__law_take : PySem.W.nsIn K mainGlobals "_law_take" = some (some (.ref f__law_take)))
    (l__law_take : K.lookup f__law_take = some ⟨oc__law_take, od__law_take, .func (PySem.W.fnOf "_law_take" "_law_take" (defArgs s__law_take) (defBody s__law_take) (defScope s__law_take) .none kV__law_take dc__law_take pm__law_take an__law_take cd__law_take ct__law_take), sl__law_take⟩)
    (cc__law_take : PySem.W.codeIn K cd__law_take "_law_take" = true) (k__law_take : PySem.W.keepIn K (.ref f__law_take) = true)
    {f__law_extent : Addr} {od__law_extent an__law_extent : Option Addr} {sl__law_extent : Array (Option Value)} {oc__law_extent kV__law_extent dc__law_extent pm__law_extent cd__law_extent ct__law_extent : Value}
    (a__law_extent : PySem.W.nsIn K mainGlobals "_law_extent" = some (some (.ref f__law_extent)))
    (l__law_extent : K.lookup f__law_extent = some ⟨oc__law_extent, od__law_extent, .func (PySem.W.fnOf "_law_extent" "_law_extent" (defArgs s__law_extent) (defBody s__law_extent) (defScope s__law_extent) .none kV__law_extent dc__law_extent pm__law_extent an__law_extent cd__law_extent ct__law_extent), sl__law_extent⟩)
    (cc__law_extent : PySem.W.codeIn K cd__law_extent "_law_extent" = true) (k__law_extent : PySem.W.keepIn K (.ref f__law_extent) = true)
    {f__law_piece : Addr} {od__law_piece an__law_piece : Option Addr} {sl__law_piece : Array (Option Value)} {oc__law_piece kV__law_piece dc__law_piece pm__law_piece cd__law_piece ct__law_piece : Value}
    (a__law_piece : PySem.W.nsIn K mainGlobals "_law_piece" = some (some (.ref f__law_piece)))
    (l__law_piece : K.lookup f__law_piece = some ⟨oc__law_piece, od__law_piece, .func (PySem.W.fnOf "_law_piece" "_law_piece" (defArgs s__law_piece) (defBody s__law_piece) (defScope s__law_piece) .none kV__law_piece dc__law_piece pm__law_piece an__law_piece cd__law_piece ct__law_piece), sl__law_piece⟩)
    (cc__law_piece : PySem.W.codeIn K cd__law_piece "_law_piece" = true) (k__law_piece : PySem.W.keepIn K (.ref f__law_piece) = true)
    {f__law_top : Addr} {od__law_top an__law_top : Option Addr} {sl__law_top : Array (Option Value)} {oc__law_top kV__law_top dc__law_top pm__law_top cd__law_top ct__law_top : Value}
    (a__law_top : PySem.W.nsIn K mainGlobals "_law_top" = some (some (.ref f__law_top)))
    (l__law_top : K.lookup f__law_top = some ⟨oc__law_top, od__law_top, .func (PySem.W.fnOf "_law_top" "_law_top" (defArgs s__law_top) (defBody s__law_top) (defScope s__law_top) .none kV__law_top dc__law_top pm__law_top an__law_top cd__law_top ct__law_top), sl__law_top⟩)
    (cc__law_top : PySem.W.codeIn K cd__law_top "_law_top" = true) (k__law_top : PySem.W.keepIn K (.ref f__law_top) = true)
    {f__law_whole : Addr} {od__law_whole an__law_whole : Option Addr} {sl__law_whole : Array (Option Value)} {oc__law_whole kV__law_whole dc__law_whole pm__law_whole cd__law_whole ct__law_whole : Value}
    (a__law_whole : PySem.W.nsIn K mainGlobals "_law_whole" = some (some (.ref f__law_whole)))
    (l__law_whole : K.lookup f__law_whole = some ⟨oc__law_whole, od__law_whole, .func (PySem.W.fnOf "_law_whole" "_law_whole" (defArgs s__law_whole) (defBody s__law_whole) (defScope s__law_whole) .none kV__law_whole dc__law_whole pm__law_whole an__law_whole cd__law_whole ct__law_whole), sl__law_whole⟩)
    (cc__law_whole : PySem.W.codeIn K cd__law_whole "_law_whole" = true) (k__law_whole : PySem.W.keepIn K (.ref f__law_whole) = true)
    {f__law_wholes : Addr} {od__law_wholes an__law_wholes : Option Addr} {sl__law_wholes : Array (Option Value)} {oc__law_wholes kV__law_wholes dc__law_wholes pm__law_wholes cd__law_wholes ct__law_wholes : Value}
    (a__law_wholes : PySem.W.nsIn K mainGlobals "_law_wholes" = some (some (.ref f__law_wholes)))
    (l__law_wholes : K.lookup f__law_wholes = some ⟨oc__law_wholes, od__law_wholes, .func (PySem.W.fnOf "_law_wholes" "_law_wholes" (defArgs s__law_wholes) (defBody s__law_wholes) (defScope s__law_wholes) .none kV__law_wholes dc__law_wholes pm__law_wholes an__law_wholes cd__law_wholes ct__law_wholes), sl__law_wholes⟩)
    (cc__law_wholes : PySem.W.codeIn K cd__law_wholes "_law_wholes" = true) (k__law_wholes : PySem.W.keepIn K (.ref f__law_wholes) = true)
    {f__law_room : Addr} {od__law_room an__law_room : Option Addr} {sl__law_room : Array (Option Value)} {oc__law_room kV__law_room dc__law_room pm__law_room cd__law_room ct__law_room : Value}
    (a__law_room : PySem.W.nsIn K mainGlobals "_law_room" = some (some (.ref f__law_room)))
    (l__law_room : K.lookup f__law_room = some ⟨oc__law_room, od__law_room, .func (PySem.W.fnOf "_law_room" "_law_room" (defArgs s__law_room) (defBody s__law_room) (defScope s__law_room) .none kV__law_room dc__law_room pm__law_room an__law_room cd__law_room ct__law_room), sl__law_room⟩)
    (cc__law_room : PySem.W.codeIn K cd__law_room "_law_room" = true) (k__law_room : PySem.W.keepIn K (.ref f__law_room) = true)
    {f__law_good : Addr} {od__law_good an__law_good : Option Addr} {sl__law_good : Array (Option Value)} {oc__law_good kV__law_good dc__law_good pm__law_good cd__law_good ct__law_good : Value}
    (a__law_good : PySem.W.nsIn K mainGlobals "_law_good" = some (some (.ref f__law_good)))
    (l__law_good : K.lookup f__law_good = some ⟨oc__law_good, od__law_good, .func (PySem.W.fnOf "_law_good" "_law_good" (defArgs s__law_good) (defBody s__law_good) (defScope s__law_good) .none kV__law_good dc__law_good pm__law_good an__law_good cd__law_good ct__law_good), sl__law_good⟩)
    (cc__law_good : PySem.W.codeIn K cd__law_good "_law_good" = true) (k__law_good : PySem.W.keepIn K (.ref f__law_good) = true)
    {f__law_apart : Addr} {od__law_apart an__law_apart : Option Addr} {sl__law_apart : Array (Option Value)} {oc__law_apart kV__law_apart dc__law_apart pm__law_apart cd__law_apart ct__law_apart : Value}
    (a__law_apart : PySem.W.nsIn K mainGlobals "_law_apart" = some (some (.ref f__law_apart)))
    (l__law_apart : K.lookup f__law_apart = some ⟨oc__law_apart, od__law_apart, .func (PySem.W.fnOf "_law_apart" "_law_apart" (defArgs s__law_apart) (defBody s__law_apart) (defScope s__law_apart) .none kV__law_apart dc__law_apart pm__law_apart an__law_apart cd__law_apart ct__law_apart), sl__law_apart⟩)
    (cc__law_apart : PySem.W.codeIn K cd__law_apart "_law_apart" = true) (k__law_apart : PySem.W.keepIn K (.ref f__law_apart) = true)
    {f__law_as_high : Addr} {od__law_as_high an__law_as_high : Option Addr} {sl__law_as_high : Array (Option Value)} {oc__law_as_high kV__law_as_high dc__law_as_high pm__law_as_high cd__law_as_high ct__law_as_high : Value}
    (a__law_as_high : PySem.W.nsIn K mainGlobals "_law_as_high" = some (some (.ref f__law_as_high)))
    (l__law_as_high : K.lookup f__law_as_high = some ⟨oc__law_as_high, od__law_as_high, .func (PySem.W.fnOf "_law_as_high" "_law_as_high" (defArgs s__law_as_high) (defBody s__law_as_high) (defScope s__law_as_high) .none kV__law_as_high dc__law_as_high pm__law_as_high an__law_as_high cd__law_as_high ct__law_as_high), sl__law_as_high⟩)
    (cc__law_as_high : PySem.W.codeIn K cd__law_as_high "_law_as_high" = true) (k__law_as_high : PySem.W.keepIn K (.ref f__law_as_high) = true)
    {f__law_put : Addr} {od__law_put an__law_put : Option Addr} {sl__law_put : Array (Option Value)} {oc__law_put kV__law_put dc__law_put pm__law_put cd__law_put ct__law_put : Value}
    (a__law_put : PySem.W.nsIn K mainGlobals "_law_put" = some (some (.ref f__law_put)))
    (l__law_put : K.lookup f__law_put = some ⟨oc__law_put, od__law_put, .func (PySem.W.fnOf "_law_put" "_law_put" (defArgs s__law_put) (defBody s__law_put) (defScope s__law_put) .none kV__law_put dc__law_put pm__law_put an__law_put cd__law_put ct__law_put), sl__law_put⟩)
    (cc__law_put : PySem.W.codeIn K cd__law_put "_law_put" = true) (k__law_put : PySem.W.keepIn K (.ref f__law_put) = true)
    {f__law_looked : Addr} {od__law_looked an__law_looked : Option Addr} {sl__law_looked : Array (Option Value)} {oc__law_looked kV__law_looked dc__law_looked pm__law_looked cd__law_looked ct__law_looked : Value}
    (a__law_looked : PySem.W.nsIn K mainGlobals "_law_looked" = some (some (.ref f__law_looked)))
    (l__law_looked : K.lookup f__law_looked = some ⟨oc__law_looked, od__law_looked, .func (PySem.W.fnOf "_law_looked" "_law_looked" (defArgs s__law_looked) (defBody s__law_looked) (defScope s__law_looked) .none kV__law_looked dc__law_looked pm__law_looked an__law_looked cd__law_looked ct__law_looked), sl__law_looked⟩)
    (cc__law_looked : PySem.W.codeIn K cd__law_looked "_law_looked" = true) (k__law_looked : PySem.W.keepIn K (.ref f__law_looked) = true)
    {f_law : Addr} {od_law an_law : Option Addr} {sl_law : Array (Option Value)} {oc_law kV_law dc_law pm_law cd_law ct_law : Value}
    (a_law : PySem.W.nsIn K mainGlobals "law" = some (some (.ref f_law)))
    (l_law : K.lookup f_law = some ⟨oc_law, od_law, .func (PySem.W.fnOf "law" "law" (defArgs s_law) (defBody s_law) (defScope s_law) .none kV_law dc_law pm_law an_law cd_law ct_law), sl_law⟩)
    (cc_law : PySem.W.codeIn K cd_law "law" = true) (k_law : PySem.W.keepIn K (.ref f_law) = true)
    (z_len : PySem.W.nsIn K mainGlobals "len" = some none)
    (z_abs : PySem.W.nsIn K mainGlobals "abs" = some none)
    (z_isinstance : PySem.W.nsIn K mainGlobals "isinstance" = some none)
    (z_min : PySem.W.nsIn K mainGlobals "min" = some none)
    (z_max : PySem.W.nsIn K mainGlobals "max" = some none)
    (z_sum : PySem.W.nsIn K mainGlobals "sum" = some none)
    (z_sorted : PySem.W.nsIn K mainGlobals "sorted" = some none)
    (z_range : PySem.W.nsIn K mainGlobals "range" = some none)
    (z_zip : PySem.W.nsIn K mainGlobals "zip" = some none)
    (z_enumerate : PySem.W.nsIn K mainGlobals "enumerate" = some none)
    (z_reversed : PySem.W.nsIn K mainGlobals "reversed" = some none)
    (z_int : PySem.W.nsIn K mainGlobals "int" = some none)
    (z_bool : PySem.W.nsIn K mainGlobals "bool" = some none)
    (z_tuple : PySem.W.nsIn K mainGlobals "tuple" = some none)
    (z_list : PySem.W.nsIn K mainGlobals "list" = some none)
    (z_str : PySem.W.nsIn K mainGlobals "str" = some none)
    (z_dict : PySem.W.nsIn K mainGlobals "dict" = some none)
    (z_ValueError : PySem.W.nsIn K mainGlobals "ValueError" = some none)
    (z_set : PySem.W.nsIn K mainGlobals "set" = some none)
    (z_any : PySem.W.nsIn K mainGlobals "any" = some none)
    (z_all : PySem.W.nsIn K mainGlobals "all" = some none)
    {t_LENGTH : Tok} (n_LENGTH : PySem.W.nsIn K mainGlobals "LENGTH" = some (some (.int 1000000000000 t_LENGTH)))
    {t_SMALL : Tok} (n_SMALL : PySem.W.nsIn K mainGlobals "SMALL" = some (some (.int 1000000 t_SMALL)))
    {t_MOST_PIECES : Tok} (n_MOST_PIECES : PySem.W.nsIn K mainGlobals "MOST_PIECES" = some (some (.int 24 t_MOST_PIECES)))
    {A_SIDES : Addr} {td_SIDES : Option Addr} {tn_SIDES : Nat} {ts_SIDES : Array (Option Value)} {tk_SIDES_0 tk_SIDES_1 : Tok} (n_SIDES : PySem.W.nsIn K mainGlobals "SIDES" = some (some (.ref A_SIDES))) (tl_SIDES : K.lookup A_SIDES = some ⟨.type "tuple", td_SIDES, .seq [.str "left" tk_SIDES_0, .str "right" tk_SIDES_1].toArray tn_SIDES, ts_SIDES⟩)
    : ∃ fd : FuncData, (∀ (s : Shared) (v : Value), BindsTo s fd ⟨[v], []⟩ [("_law_script", v)]) ∧ ∀ base : Heap, K.In base → base.Ns mainGlobals mg → FnOk l.prog w K mg base CX0 7 fa fd ["_law_script"] (sp_law K) := by
  have e := hfa.symm.trans (PySem.W.mg_of X G a_law)
  cases e
  have B : Bn mg := ⟨PySem.W.mg_none_of X G z_len, PySem.W.mg_none_of X G z_abs, PySem.W.mg_none_of X G z_isinstance, PySem.W.mg_none_of X G z_min, PySem.W.mg_none_of X G z_max, PySem.W.mg_none_of X G z_sum, PySem.W.mg_none_of X G z_sorted, PySem.W.mg_none_of X G z_range, PySem.W.mg_none_of X G z_zip, PySem.W.mg_none_of X G z_enumerate, PySem.W.mg_none_of X G z_reversed, PySem.W.mg_none_of X G z_int, PySem.W.mg_none_of X G z_bool, PySem.W.mg_none_of X G z_tuple, PySem.W.mg_none_of X G z_list, PySem.W.mg_none_of X G z_str, PySem.W.mg_none_of X G z_dict, PySem.W.mg_none_of X G z_ValueError, PySem.W.mg_none_of X G z_set, PySem.W.mg_none_of X G z_any, PySem.W.mg_none_of X G z_all⟩
  have g_LENGTH : ∃ t, mg "LENGTH" = some (.int 1000000000000 t) := ⟨_, PySem.W.mg_of X G n_LENGTH⟩
  have g_SMALL : ∃ t, mg "SMALL" = some (.int 1000000 t) := ⟨_, PySem.W.mg_of X G n_SMALL⟩
  have g_MOST_PIECES : ∃ t, mg "MOST_PIECES" = some (.int 24 t) := ⟨_, PySem.W.mg_of X G n_MOST_PIECES⟩
  have g_SIDES : mg "SIDES" = some (.ref A_SIDES) := PySem.W.mg_of X G n_SIDES
  have s_SIDES : ∀ H : Hp, SqT K H A_SIDES [.str "left", .str "right"] := fun H => sqT_of tl_SIDES (.cons ⟨_, rfl⟩ (.cons ⟨_, rfl⟩ .nil)) (by simp)
  have o_Outline : OwnC K C_Outline := ⟨⟨pg_Outline, hd_Outline, po_Outline, sa_Outline⟩, ha_Outline, hn_Outline, htk_Outline, hm_Outline⟩
  have n_Outline : ∀ f ∈ (["whole_wide", "pieces"] : List Str), NoAttr K C_Outline f := (List.forall_mem_cons.2 ⟨nf_Outline_whole_wide, (List.forall_mem_cons.2 ⟨nf_Outline_pieces, (fun _ z => nomatch z)⟩)⟩)
  have F_is_whole := fun_mk (st := s_is_whole) l_is_whole cc_is_whole k_is_whole
  have F_is_length := fun_mk (st := s_is_length) l_is_length cc_is_length k_is_length
  have F_is_small := fun_mk (st := s_is_small) l_is_small cc_is_small k_is_small
  have F_is_side := fun_mk (st := s_is_side) l_is_side cc_is_side k_is_side
  have F_is_extent := fun_mk (st := s_is_extent) l_is_extent cc_is_extent k_is_extent
  have F_look_at_piece := fun_mk (st := s_look_at_piece) l_look_at_piece cc_look_at_piece k_look_at_piece
  have F_Outline___init__ := fun_mk (st := s_Outline___init__) l_Outline___init__ cc_Outline___init__ k_Outline___init__
  have F_Outline_met := fun_mk (st := s_Outline_met) l_Outline_met cc_Outline_met k_Outline_met
  have F_Outline_room_at := fun_mk (st := s_Outline_room_at) l_Outline_room_at cc_Outline_room_at k_Outline_room_at
  have F_Outline_is_good := fun_mk (st := s_Outline_is_good) l_Outline_is_good cc_Outline_is_good k_Outline_is_good
  have F_Outline_fit_at := fun_mk (st := s_Outline_fit_at) l_Outline_fit_at cc_Outline_fit_at k_Outline_fit_at
  have F_Outline_put := fun_mk (st := s_Outline_put) l_Outline_put cc_Outline_put k_Outline_put
  have F_Outline_clear_at := fun_mk (st := s_Outline_clear_at) l_Outline_clear_at cc_Outline_clear_at k_Outline_clear_at
  have F_Outline_rects := fun_mk (st := s_Outline_rects) l_Outline_rects cc_Outline_rects k_Outline_rects
  have F_Outline_beneath := fun_mk (st := s_Outline_beneath) l_Outline_beneath cc_Outline_beneath k_Outline_beneath
  have F__law_bag := fun_mk (st := s__law_bag) l__law_bag cc__law_bag k__law_bag
  have F__law_take := fun_mk (st := s__law_take) l__law_take cc__law_take k__law_take
  have F__law_extent := fun_mk (st := s__law_extent) l__law_extent cc__law_extent k__law_extent
  have F__law_piece := fun_mk (st := s__law_piece) l__law_piece cc__law_piece k__law_piece
  have F__law_top := fun_mk (st := s__law_top) l__law_top cc__law_top k__law_top
  have F__law_whole := fun_mk (st := s__law_whole) l__law_whole cc__law_whole k__law_whole
  have F__law_wholes := fun_mk (st := s__law_wholes) l__law_wholes cc__law_wholes k__law_wholes
  have F__law_room := fun_mk (st := s__law_room) l__law_room cc__law_room k__law_room
  have F__law_good := fun_mk (st := s__law_good) l__law_good cc__law_good k__law_good
  have F__law_apart := fun_mk (st := s__law_apart) l__law_apart cc__law_apart k__law_apart
  have F__law_as_high := fun_mk (st := s__law_as_high) l__law_as_high cc__law_as_high k__law_as_high
  have F__law_put := fun_mk (st := s__law_put) l__law_put cc__law_put k__law_put
  have F__law_looked := fun_mk (st := s__law_looked) l__law_looked cc__law_looked k__law_looked
  have F_law := fun_mk (st := s_law) l_law cc_law k_law
  refine ⟨PySem.W.fnOf "law" "law" (defArgs s_law) (defBody s_law) (defScope s_law) .none kV_law dc_law pm_law an_law cd_law ct_law, fun s v => .of_eq rfl, fun base _ _ => ?_⟩
  have c_is_whole : Cal l.prog w K mg base "is_whole" 1 ["thing"] [] (sp_is_whole K) := ⟨_, _, [], ok_is_whole F_is_whole B , PySem.W.mg_of X G a_is_whole, k_is_whole, F_is_whole.binds (ps := ["thing"]) fun _ _ _ _ _ _ us hl => match us, hl with | [_], _ => rfl, .nil⟩
  have c_is_length : Cal l.prog w K mg base "is_length" 2 ["thing"] [] (sp_is_length K) := ⟨_, _, [], ok_is_length F_is_length B c_is_whole g_LENGTH, PySem.W.mg_of X G a_is_length, k_is_length, F_is_length.binds (ps := ["thing"]) fun _ _ _ _ _ _ us hl => match us, hl with | [_], _ => rfl, .nil⟩
  have c_is_small : Cal l.prog w K mg base "is_small" 2 ["thing"] [] (sp_is_small K) := ⟨_, _, [], ok_is_small F_is_small B c_is_whole g_SMALL, PySem.W.mg_of X G a_is_small, k_is_small, F_is_small.binds (ps := ["thing"]) fun _ _ _ _ _ _ us hl => match us, hl with | [_], _ => rfl, .nil⟩
  have c_is_side : Cal l.prog w K mg base "is_side" 1 ["thing"] [] sp_is_side := ⟨_, _, [], ok_is_side F_is_side B g_SIDES s_SIDES, PySem.W.mg_of X G a_is_side, k_is_side, F_is_side.binds (ps := ["thing"]) fun _ _ _ _ _ _ us hl => match us, hl with | [_], _ => rfl, .nil⟩
  have c_is_extent : Cal l.prog w K mg base "is_extent" 3 ["thing"] [] sp_is_extent := ⟨_, _, [], ok_is_extent F_is_extent B c_is_small, PySem.W.mg_of X G a_is_extent, k_is_extent, F_is_extent.binds (ps := ["thing"]) fun _ _ _ _ _ _ us hl => match us, hl with | [_], _ => rfl, .nil⟩
  have c_look_at_piece : Cal l.prog w K mg base "look_at_piece" 4 ["side", "wide", "high"] [] sp_look_at_piece := ⟨_, _, [], ok_look_at_piece F_look_at_piece B c_is_side c_is_extent, PySem.W.mg_of X G a_look_at_piece, k_look_at_piece, F_look_at_piece.binds (ps := ["side", "wide", "high"]) fun _ _ _ _ _ _ us hl => match us, hl with | [_, _, _], _ => rfl, .nil⟩
  have m_Outline : Mak l.prog w K mg base "Outline" C_Outline 4 ["self", "wide"] [] (sp_Outline___init__ C_Outline) := ⟨_, _, [], ⟨mk_Outline, a_Outline___init__, i_Outline___init__, kc_Outline⟩, ok_Outline___init__ F_Outline___init__ B c_is_extent o_Outline n_Outline, PySem.W.mg_of X G aC_Outline, F_Outline___init__.binds (ps := ["self", "wide"]) fun _ _ _ _ _ _ us hl => match us, hl with | [_, _], _ => rfl, .nil⟩
  have t_Outline_met : Met l.prog w K mg base "met" C_Outline 1 ["self", "top", "high"] [] (sp_Outline_met C_Outline) := ⟨_, _, [], o_Outline.cl, ⟨a_Outline_met, i_Outline_met, k_Outline_met⟩, ok_Outline_met F_Outline_met B o_Outline n_Outline, F_Outline_met.binds (ps := ["self", "top", "high"]) fun _ _ _ _ _ _ us hl => match us, hl with | [_, _, _], _ => rfl, .nil⟩
  have t_Outline_room_at : Met l.prog w K mg base "room_at" C_Outline 2 ["self", "top", "high"] [] (sp_Outline_room_at C_Outline) := ⟨_, _, [], o_Outline.cl, ⟨a_Outline_room_at, i_Outline_room_at, k_Outline_room_at⟩, ok_Outline_room_at F_Outline_room_at B t_Outline_met o_Outline n_Outline, F_Outline_room_at.binds (ps := ["self", "top", "high"]) fun _ _ _ _ _ _ us hl => match us, hl with | [_, _, _], _ => rfl, .nil⟩
  have t_Outline_is_good : Met l.prog w K mg base "is_good" C_Outline 3 ["self", "need", "high", "top"] [] (sp_Outline_is_good C_Outline) := ⟨_, _, [], o_Outline.cl, ⟨a_Outline_is_good, i_Outline_is_good, k_Outline_is_good⟩, ok_Outline_is_good F_Outline_is_good B t_Outline_room_at t_Outline_met o_Outline n_Outline, F_Outline_is_good.binds (ps := ["self", "need", "high", "top"]) fun _ _ _ _ _ _ us hl => match us, hl with | [_, _, _, _], _ => rfl, .nil⟩
  have t_Outline_fit_at : Met l.prog w K mg base "fit_at" C_Outline 4 ["self", "need", "high", "top"] [] (sp_Outline_fit_at C_Outline) := ⟨_, _, [], o_Outline.cl, ⟨a_Outline_fit_at, i_Outline_fit_at, k_Outline_fit_at⟩, ok_Outline_fit_at F_Outline_fit_at B t_Outline_is_good o_Outline n_Outline, F_Outline_fit_at.binds (ps := ["self", "need", "high", "top"]) fun _ _ _ _ _ _ us hl => match us, hl with | [_, _, _, _], _ => rfl, .nil⟩
  have t_Outline_put : Met l.prog w K mg base "put" C_Outline 5 ["self", "side", "wide", "high", "top"] [] (sp_Outline_put C_Outline) := ⟨_, _, [], o_Outline.cl, ⟨a_Outline_put, i_Outline_put, k_Outline_put⟩, ok_Outline_put F_Outline_put B c_look_at_piece c_is_length t_Outline_fit_at t_Outline_room_at o_Outline n_Outline g_MOST_PIECES, F_Outline_put.binds (ps := ["self", "side", "wide", "high", "top"]) fun _ _ _ _ _ _ us hl => match us, hl with | [_, _, _, _, _], _ => rfl, .nil⟩
  have t_Outline_clear_at : Met l.prog w K mg base "clear_at" C_Outline 1 ["self", "top"] [] (sp_Outline_clear_at C_Outline) := ⟨_, _, [], o_Outline.cl, ⟨a_Outline_clear_at, i_Outline_clear_at, k_Outline_clear_at⟩, ok_Outline_clear_at F_Outline_clear_at B o_Outline n_Outline, F_Outline_clear_at.binds (ps := ["self", "top"]) fun _ _ _ _ _ _ us hl => match us, hl with | [_, _], _ => rfl, .nil⟩
  have t_Outline_rects : Met l.prog w K mg base "rects" C_Outline 1 ["self"] [] (sp_Outline_rects C_Outline) := ⟨_, _, [], o_Outline.cl, ⟨a_Outline_rects, i_Outline_rects, k_Outline_rects⟩, ok_Outline_rects F_Outline_rects B o_Outline n_Outline, F_Outline_rects.binds (ps := ["self"]) fun _ _ _ _ _ _ us hl => match us, hl with | [_], _ => rfl, .nil⟩
  have t_Outline_beneath : Met l.prog w K mg base "beneath" C_Outline 1 ["self", "top"] [] (sp_Outline_beneath C_Outline) := ⟨_, _, [], o_Outline.cl, ⟨a_Outline_beneath, i_Outline_beneath, k_Outline_beneath⟩, ok_Outline_beneath F_Outline_beneath B o_Outline n_Outline, F_Outline_beneath.binds (ps := ["self", "top"]) fun _ _ _ _ _ _ us hl => match us, hl with | [_, _], _ => rfl, .nil⟩
  have c__law_bag : Cal l.prog w K mg base "_law_bag" 1 ["_law_script"] [] (sp__law_bag K) := ⟨_, _, [], ok__law_bag F__law_bag B , PySem.W.mg_of X G a__law_bag, k__law_bag, F__law_bag.binds (ps := ["_law_script"]) fun _ _ _ _ _ _ us hl => match us, hl with | [_], _ => rfl, .nil⟩
  have c__law_take : Cal l.prog w K mg base "_law_take" 1 ["_law_bag_here", "_law_many"] [] sp__law_take := ⟨_, _, [], ok__law_take F__law_take B , PySem.W.mg_of X G a__law_take, k__law_take, F__law_take.binds (ps := ["_law_bag_here", "_law_many"]) fun _ _ _ _ _ _ us hl => match us, hl with | [_, _], _ => rfl, .nil⟩
  have c__law_extent : Cal l.prog w K mg base "_law_extent" 2 ["_law_bag_here"] [] sp__law_extent := ⟨_, _, [], ok__law_extent F__law_extent B c__law_take, PySem.W.mg_of X G a__law_extent, k__law_extent, F__law_extent.binds (ps := ["_law_bag_here"]) fun _ _ _ _ _ _ us hl => match us, hl with | [_], _ => rfl, .nil⟩
  have c__law_piece : Cal l.prog w K mg base "_law_piece" 3 ["_law_bag_here", "_law_whole_here"] [] sp__law_piece := ⟨_, _, [], ok__law_piece F__law_piece B c__law_take c__law_extent, PySem.W.mg_of X G a__law_piece, k__law_piece, F__law_piece.binds (ps := ["_law_bag_here", "_law_whole_here"]) fun _ _ _ _ _ _ us hl => match us, hl with | [_, _], _ => rfl, .nil⟩
  have c__law_top : Cal l.prog w K mg base "_law_top" 2 ["_law_bag_here", "_law_pieces"] [] sp__law_top := ⟨_, _, [], ok__law_top F__law_top B c__law_take, PySem.W.mg_of X G a__law_top, k__law_top, F__law_top.binds (ps := ["_law_bag_here", "_law_pieces"]) fun _ _ _ _ _ _ us hl => match us, hl with | [_, _], _ => rfl, .nil⟩
  have c__law_whole : Cal l.prog w K mg base "_law_whole" 1 ["_law_thing"] [] sp__law_whole := ⟨_, _, [], ok__law_whole F__law_whole B , PySem.W.mg_of X G a__law_whole, k__law_whole, F__law_whole.binds (ps := ["_law_thing"]) fun _ _ _ _ _ _ us hl => match us, hl with | [_], _ => rfl, .nil⟩
  have c__law_wholes : Cal l.prog w K mg base "_law_wholes" 2 ["_law_told", "_law_many"] [] sp__law_wholes := ⟨_, _, [], ok__law_wholes F__law_wholes B c__law_whole, PySem.W.mg_of X G a__law_wholes, k__law_wholes, F__law_wholes.binds (ps := ["_law_told", "_law_many"]) fun _ _ _ _ _ _ us hl => match us, hl with | [_, _], _ => rfl, .nil⟩
  have c__law_room : Cal l.prog w K mg base "_law_room" 1 ["_law_pieces", "_law_whole_here", "_law_top_here", "_law_high"] [] sp__law_room := ⟨_, _, [], ok__law_room F__law_room B , PySem.W.mg_of X G a__law_room, k__law_room, F__law_room.binds (ps := ["_law_pieces", "_law_whole_here", "_law_top_here", "_law_high"]) fun _ _ _ _ _ _ us hl => match us, hl with | [_, _, _, _], _ => rfl, .nil⟩
  have c__law_good : Cal l.prog w K mg base "_law_good" 2 ["_law_pieces", "_law_whole_here", "_law_need", "_law_high", "_law_top_here"] [] sp__law_good := ⟨_, _, [], ok__law_good F__law_good B c__law_room, PySem.W.mg_of X G a__law_good, k__law_good, F__law_good.binds (ps := ["_law_pieces", "_law_whole_here", "_law_need", "_law_high", "_law_top_here"]) fun _ _ _ _ _ _ us hl => match us, hl with | [_, _, _, _, _], _ => rfl, .nil⟩
  have c__law_apart : Cal l.prog w K mg base "_law_apart" 1 ["_law_pieces", "_law_left", "_law_at", "_law_broad", "_law_high"] [] sp__law_apart := ⟨_, _, [], ok__law_apart F__law_apart B , PySem.W.mg_of X G a__law_apart, k__law_apart, F__law_apart.binds (ps := ["_law_pieces", "_law_left", "_law_at", "_law_broad", "_law_high"]) fun _ _ _ _ _ _ us hl => match us, hl with | [_, _, _, _, _], _ => rfl, .nil⟩
  have c__law_as_high : Cal l.prog w K mg base "_law_as_high" 3 ["_law_pieces", "_law_whole_here", "_law_broad", "_law_high", "_law_start", "_law_at"] [] sp__law_as_high := ⟨_, _, [], ok__law_as_high F__law_as_high B c__law_good, PySem.W.mg_of X G a__law_as_high, k__law_as_high, F__law_as_high.binds (ps := ["_law_pieces", "_law_whole_here", "_law_broad", "_law_high", "_law_start", "_law_at"]) fun _ _ _ _ _ _ us hl => match us, hl with | [_, _, _, _, _, _], _ => rfl, .nil⟩
  have c__law_put : Cal l.prog w K mg base "_law_put" 6 ["_law_outline", "_law_pieces", "_law_whole_here", "_law_piece_here", "_law_top_here"] [] (sp__law_put C_Outline) := ⟨_, _, [], ok__law_put F__law_put B c__law_wholes c__law_as_high c__law_room c__law_apart t_Outline_put o_Outline n_Outline, PySem.W.mg_of X G a__law_put, k__law_put, F__law_put.binds (ps := ["_law_outline", "_law_pieces", "_law_whole_here", "_law_piece_here", "_law_top_here"]) fun _ _ _ _ _ _ us hl => match us, hl with | [_, _, _, _, _], _ => rfl, .nil⟩
  have c__law_looked : Cal l.prog w K mg base "_law_looked" 5 ["_law_bag_here", "_law_outline", "_law_pieces"] [] (sp__law_looked C_Outline) := ⟨_, _, [], ok__law_looked F__law_looked B c__law_top c__law_take t_Outline_clear_at t_Outline_beneath t_Outline_room_at t_Outline_fit_at t_Outline_rects o_Outline n_Outline, PySem.W.mg_of X G a__law_looked, k__law_looked, F__law_looked.binds (ps := ["_law_bag_here", "_law_outline", "_law_pieces"]) fun _ _ _ _ _ _ us hl => match us, hl with | [_, _, _], _ => rfl, .nil⟩
  exact ok_law F_law B c__law_bag c__law_take c__law_extent c__law_piece c__law_top c__law_looked c__law_put m_Outline t_Outline_rects o_Outline n_Outline
theorem walk {l : PySem.W.OpenLaw} {q : Program} {loose : List Str} {XP : (Str → Option Value) → Heap → Prop} {YP : World → Heap → Prop} {d : DefRec} {K : Params → PySem.W.Frag} (hn : l.most = some 63) (hdf : d.params.defaults = [])
    (hY : ∀ (w : World) (h : Heap), YP w h → (K w.params).In h)
    (F : ∀ (w : World) (mg : Str → Option Value) (fa : Addr) (h : Heap), (K w.params).In h → h.Ns mainGlobals mg → mg d.name = some (.ref fa) →
      ∃ fd : FuncData, (∀ (s : Shared) (u : Value), BindsTo s fd ⟨[u], []⟩ [("_law_script", u)]) ∧ ∀ base : Heap, (K w.params).In base → base.Ns mainGlobals mg → FnOk l.prog w (K w.params) mg base CX0 7 fa fd ["_law_script"] (sp_law (K w.params))) :
    PySem.W.WalkO q loose XP YP l.row.toRowW d [] (fun f vs => PySem.call f vs) :=
  L2.walk_ofB (n := 63) (k := 7) (x := "_law_script") (CX := fun _ => CX0) (sp := fun w => sp_law (K w.params)) hn (by decide) hdf ⟨rfl, by decide, by decide⟩ hY F (fun _ _ a ns hl hb hO hS => ⟨a, ns, rfl, hS, hO, hl, hb, fun _ => rfl⟩) fun _ _ _ _ _ z => z
end Fs
open PySem PySem.W PyProof.Rows
set_option maxRecDepth 100000 in
set_option maxHeartbeats 0 in
theorem PySem.Challenge.cw_fairsheet_k72_pieces_high_holds : PySem.Challenge.rw_fairsheet_k72_pieces_high.Holds := by
  w_on; o_law; k_head; (case hw => w_witness2)
  k_fill
  refine Fs.walk (l := PySem.Challenge.rw_fairsheet_k72_pieces_high) rfl rfl (fun w h Y => PySem.W.kIn_of Y) ?F
  case F =>
    intro w mg fa h KX G hmg
    refine' Fs.all_mk KX G hmg ?a_is_whole ?l_is_whole ?cc_is_whole ?k_is_whole ?a_is_length ?l_is_length ?cc_is_length ?k_is_length ?a_is_small ?l_is_small ?cc_is_small ?k_is_small ?a_is_side ?l_is_side ?cc_is_side ?k_is_side ?a_is_extent ?l_is_extent ?cc_is_extent ?k_is_extent ?a_look_at_piece ?l_look_at_piece ?cc_look_at_piece ?k_look_at_piece ?aC_Outline ?pg_Outline ?hd_Outline ?po_Outline ?sa_Outline ?mk_Outline ?kc_Outline ?ha_Outline ?hn_Outline ?htk_Outline ?hm_Outline ?nf_Outline_whole_wide ?nf_Outline_pieces ?a_Outline___init__ ?i_Outline___init__ ?l_Outline___init__ ?cc_Outline___init__ ?k_Outline___init__ ?a_Outline_met ?i_Outline_met ?l_Outline_met ?cc_Outline_met ?k_Outline_met ?a_Outline_room_at ?i_Outline_room_at ?l_Outline_room_at ?cc_Outline_room_at ?k_Outline_room_at ?a_Outline_is_good ?i_Outline_is_good ?l_Outline_is_good ?cc_Outline_is_good ?k_Outline_is_good ?a_Outline_fit_at ?i_Outline_fit_at ?l_Outline_fit_at ?cc_Outline_fit_at ?k_Outline_fit_at ?a_Outline_put ?i_Outline_put ?l_Outline_put ?cc_Outline_put ?k_Outline_put ?a_Outline_clear_at ?i_Outline_clear_at ?l_Outline_clear_at ?cc_Outline_clear_at ?k_Outline_clear_at ?a_Outline_rects ?i_Outline_rects ?l_Outline_rects ?cc_Outline_rects ?k_Outline_rects ?a_Outline_beneath ?i_Outline_beneath ?l_Outline_beneath ?cc_Outline_beneath ?k_Outline_beneath ?a__law_bag ?l__law_bag ?cc__law_bag ?k__law_bag ?a__law_take ?l__law_take ?cc__law_take ?k__law_take ?a__law_extent ?l__law_extent ?cc__law_extent ?k__law_extent ?a__law_piece ?l__law_piece ?cc__law_piece ?k__law_piece ?a__law_top ?l__law_top ?cc__law_top ?k__law_top ?a__law_whole ?l__law_whole ?cc__law_whole ?k__law_whole ?a__law_wholes ?l__law_wholes ?cc__law_wholes ?k__law_wholes ?a__law_room ?l__law_room ?cc__law_room ?k__law_room ?a__law_good ?l__law_good ?cc__law_good ?k__law_good ?a__law_apart ?l__law_apart ?cc__law_apart ?k__law_apart ?a__law_as_high ?l__law_as_high ?cc__law_as_high ?k__law_as_high ?a__law_put ?l__law_put ?cc__law_put ?k__law_put ?a__law_looked ?l__law_looked ?cc__law_looked ?k__law_looked ?a_law ?l_law ?cc_law ?k_law ?z_len ?z_abs ?z_isinstance ?z_min ?z_max ?z_sum ?z_sorted ?z_range ?z_zip ?z_enumerate ?z_reversed ?z_int ?z_bool ?z_tuple ?z_list ?z_str ?z_dict ?z_ValueError ?z_set ?z_any ?z_all ?n_LENGTH ?n_SMALL ?n_MOST_PIECES ?n_SIDES ?tl_SIDES
    (case a_is_whole => k_is)
    (case l_is_whole => k_is)
    (case cc_is_whole => k_is)
    (case k_is_whole => k_is)
    (case a_is_length => k_is)
    (case l_is_length => k_is)
    (case cc_is_length => k_is)
    (case k_is_length => k_is)
    (case a_is_small => k_is)
    (case l_is_small => k_is)
    (case cc_is_small => k_is)
    (case k_is_small => k_is)
    (case a_is_side => k_is)
    (case l_is_side => k_is)
    (case cc_is_side => k_is)
    (case k_is_side => k_is)
    (case a_is_extent => k_is)
    (case l_is_extent => k_is)
    (case cc_is_extent => k_is)
    (case k_is_extent => k_is)
    (case a_look_at_piece => k_is)
    (case l_look_at_piece => k_is)
    (case cc_look_at_piece => k_is)
    (case k_look_at_piece => k_is)
    (case aC_Outline => k_is)
    (case pg_Outline => k_is)
    (case hd_Outline => k_is)
    (case po_Outline => k_is)
    (case sa_Outline => k_is)
    (case mk_Outline => k_is)
    (case kc_Outline => k_is)
    (case ha_Outline => k_is)
    (case hn_Outline => k_is)
    (case htk_Outline => k_is)
    (case hm_Outline => k_is)
    (case nf_Outline_whole_wide => k_is)
    (case nf_Outline_pieces => k_is)
    (case a_Outline___init__ => k_is)
    (case i_Outline___init__ => k_is)
    (case l_Outline___init__ => k_is)
    (case cc_Outline___init__ => k_is)
    (case k_Outline___init__ => k_is)
    (case a_Outline_met => k_is)
    (case i_Outline_met => k_is)
    (case l_Outline_met => k_is)
    (case cc_Outline_met => k_is)
    (case k_Outline_met => k_is)
    (case a_Outline_room_at => k_is)
    (case i_Outline_room_at => k_is)
    (case l_Outline_room_at => k_is)
    (case cc_Outline_room_at => k_is)
    (case k_Outline_room_at => k_is)
    (case a_Outline_is_good => k_is)
    (case i_Outline_is_good => k_is)
    (case l_Outline_is_good => k_is)
    (case cc_Outline_is_good => k_is)
    (case k_Outline_is_good => k_is)
    (case a_Outline_fit_at => k_is)
    (case i_Outline_fit_at => k_is)
    (case l_Outline_fit_at => k_is)
    (case cc_Outline_fit_at => k_is)
    (case k_Outline_fit_at => k_is)
    (case a_Outline_put => k_is)
    (case i_Outline_put => k_is)
    (case l_Outline_put => k_is)
    (case cc_Outline_put => k_is)
    (case k_Outline_put => k_is)
    (case a_Outline_clear_at => k_is)
    (case i_Outline_clear_at => k_is)
    (case l_Outline_clear_at => k_is)
    (case cc_Outline_clear_at => k_is)
    (case k_Outline_clear_at => k_is)
    (case a_Outline_rects => k_is)
    (case i_Outline_rects => k_is)
    (case l_Outline_rects => k_is)
    (case cc_Outline_rects => k_is)
    (case k_Outline_rects => k_is)
    (case a_Outline_beneath => k_is)
    (case i_Outline_beneath => k_is)
    (case l_Outline_beneath => k_is)
    (case cc_Outline_beneath => k_is)
    (case k_Outline_beneath => k_is)
    (case a__law_bag => k_is)
    (case l__law_bag => k_is)
    (case cc__law_bag => k_is)
    (case k__law_bag => k_is)
    (case a__law_take => k_is)
    (case l__law_take => k_is)
    (case cc__law_take => k_is)
    (case k__law_take => k_is)
    (case a__law_extent => k_is)
    (case l__law_extent => k_is)
    (case cc__law_extent => k_is)
    (case k__law_extent => k_is)
    (case a__law_piece => k_is)
    (case l__law_piece => k_is)
    (case cc__law_piece => k_is)
    (case k__law_piece => k_is)
    (case a__law_top => k_is)
    (case l__law_top => k_is)
    (case cc__law_top => k_is)
    (case k__law_top => k_is)
    (case a__law_whole => k_is)
    (case l__law_whole => k_is)
    (case cc__law_whole => k_is)
    (case k__law_whole => k_is)
    (case a__law_wholes => k_is)
    (case l__law_wholes => k_is)
    (case cc__law_wholes => k_is)
    (case k__law_wholes => k_is)
    (case a__law_room => k_is)
    (case l__law_room => k_is)
    (case cc__law_room => k_is)
    (case k__law_room => k_is)
    (case a__law_good => k_is)
    (case l__law_good => k_is)
    (case cc__law_good => k_is)
    (case k__law_good => k_is)
    (case a__law_apart => k_is)
    (case l__law_apart => k_is)
    (case cc__law_apart => k_is)
    (case k__law_apart => k_is)
    (case a__law_as_high => k_is)
    (case l__law_as_high => k_is)
    (case cc__law_as_high => k_is)
    (case k__law_as_high => k_is)
    (case a__law_put => k_is)
    (case l__law_put => k_is)
    (case cc__law_put => k_is)
    (case k__law_put => k_is)
    (case a__law_looked => k_is)
    (case l__law_looked => k_is)
    (case cc__law_looked => k_is)
    (case k__law_looked => k_is)
    (case a_law => k_is)
    (case l_law => k_is)
    (case cc_law => k_is)
    (case k_law => k_is)
    (case z_len => k_is)
    (case z_abs => k_is)
    (case z_isinstance => k_is)
    (case z_min => k_is)
    (case z_max => k_is)
    (case z_sum => k_is)
    (case z_sorted => k_is)
    (case z_range => k_is)
    (case z_zip => k_is)
    (case z_enumerate => k_is)
    (case z_reversed => k_is)
    (case z_int => k_is)
    (case z_bool => k_is)
    (case z_tuple => k_is)
    (case z_list => k_is)
    (case z_str => k_is)
    (case z_dict => k_is)
    (case z_ValueError => k_is)
    (case z_set => k_is)
    (case z_any => k_is)
    (case z_all => k_is)
    (case n_LENGTH => k_is)
    (case n_SMALL => k_is)
    (case n_MOST_PIECES => k_is)
    (case n_SIDES => k_is)
    (case tl_SIDES => k_is)
