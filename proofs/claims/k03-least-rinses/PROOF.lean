import PyProof.Rows.All
import HandS.ForMost
import HandS.HeadHook4
import HandS.EndTab
import HandS.Exc
import HandS.Defaults
import HandS.WordsExc
import HandS.CallSlots
import HandS.Walk
import HandS.Zip
import HandS.Wide
import HandS.Style
import HandS.IsInst
import HandS.TupAny
import HandS.Text
import HandS.Dict
import HandS.HeadHook2
import HandS.EndBits
import HandS.HeadEnd
import HandS.More
import PyProof.Rows.TmSorted
import PyProof.Rows.StrMeet
import KE.KDictSum
import HandS.SortKw
import KE.KMinKey
import HandS.List
import HandS.SortInts
import PyProof.ExcBaseAll.ValueError
import HandS.ExcOwn
import HandS.ExcIs
import HandS.TryOnly
import HandS.TryMany
import HandS.ExcInit
import HandS.ExcField
import KE.KExcIs
import HandS.Lambda
import KE.KSortKey
import KE.SortData
import HandS.Deep
import HandS.Iter
import KE.DataFind
import KE.DataCmp
import HandS.Conv
import PyProof.Rows.StrDigits
import PyProof.FitsInt
import PyProof.P3Eq
import HandS.ForExc
import Wide.All
import OpenK.AllK
import Wide.FinOn
import KE.KStateDown
import HandS.Head0
import HandS.Head1
import HandS.Head2
import HandS.HeadHook1
import PySem.Challenge.RW_rinsework_k03_least_rinses
set_option linter.all false
set_option autoImplicit false
namespace DL
open PySem PySem.Spec L2
open PyProof.Rows hiding St

abbrev FP := Addr → Prop
def no : FP := fun _ => False
def FP.or (A B : FP) : FP := fun a => A a ∨ B a
def Le (A B : FP) : Prop := ∀ a, A a → B a
def Dis (A B : FP) : Prop := ∀ a, A a → B a → False
theorem Le.refl {A : FP} : Le A A := fun _ h => h
theorem Le.trans {A B C : FP} (h : Le A B) (k : Le B C) : Le A C := fun a x => k a (h a x)
theorem no_le {A : FP} : Le no A := fun _ h => h.elim
theorem le_l {A B : FP} : Le A (A.or B) := fun _ h => .inl h
theorem le_r {A B : FP} : Le B (A.or B) := fun _ h => .inr h
theorem Dis.symm {A B : FP} (h : Dis A B) : Dis B A := fun a x y => h a y x
theorem Dis.mono {A B A' B' : FP} (h : Dis A B) (x : Le A' A) (y : Le B' B) : Dis A' B' := fun a p q => h a (x a p) (y a q)
theorem dis_no {A : FP} : Dis A no := fun _ _ h => h
theorem no_dis {A : FP} : Dis no A := fun _ h _ => h

/-- a key of a dict -/
inductive KD where
  | i (n : Int) | s (x : Str) | t (ks : List Key)
  deriving DecidableEq
def kdK : Key → KD
  | .inl n => .i n
  | .inr x => .s x

/-- a value with what it holds; o: whether the object is one's own (may be changed) -/
inductive D where
  | hole | non | bl (b : Bool) | int (i : Int) | str (x : Str) | ty (n : String) | cls (c : Str)
  | lst (o : Bool) (xs : List D) | tup (xs : List D)
  | dic (o : Bool) (ks : List KD) (xs : List D)
  | ins (o : Bool) (c : Str) (fs : List Str) (xs : List D)
  | exn (c : Str) (fs : List Str) (xs : List D)

mutual
/-- frozen -/
def fz : D → D
  | .lst _ xs => .lst false (fzs xs)
  | .tup xs => .tup (fzs xs)
  | .dic _ ks xs => .dic false ks (fzs xs)
  | .ins _ c fs xs => .ins false c fs (fzs xs)
  | d => d
def fzs : List D → List D
  | [] => []
  | d :: ds => fz d :: fzs ds
end
theorem fzs_eq : ∀ ds : List D, fzs ds = ds.map fz
  | [] => by simp [fzs]
  | d :: ds => by simp [fzs, fzs_eq ds]
mutual
/-- nothing in it is one's own -/
def ice : D → Bool
  | .lst o xs => !o && ices xs
  | .tup xs => ices xs
  | .dic o _ xs => !o && ices xs
  | .ins o _ _ xs => !o && ices xs
  | .hole => false
  | _ => true
def ices : List D → Bool
  | [] => true
  | d :: ds => ice d && ices ds
end
theorem ices_eq : ∀ ds : List D, ices ds = ds.all ice
  | [] => by simp [ices]
  | d :: ds => by simp [ices, ices_eq ds]

mutual
inductive Rep (K : PySem.W.Frag) (mg : Str → Option Value) (I H : Hp) : D → V → FP → Prop
  | hole {v A} : Rep K mg I H .hole v A
  | non {A} : Rep K mg I H .non .non A
  | bl {b A} : Rep K mg I H (.bl b) (.bl b) A
  | int {i A} : Rep K mg I H (.int i) (.int i) A
  | str {x A} : Rep K mg I H (.str x) (.str x) A
  | ty {n A} : Rep K mg I H (.ty n) (.ty n) A
  | cls {c a A} (h : mg c = some (.ref a)) : Rep K mg I H (.cls c) (.ref a) A
  | lstO {a ds vs A B} (hA : A a) (h : H a = some (.lst vs)) (r : Reps K mg I H ds vs B) (hB : Le B A) (nB : ¬ B a) : Rep K mg I H (.lst true ds) (.ref a) A
  | lstF {a ds vs A} (h : SqL K I a vs) (r : Reps K mg I H ds vs no) : Rep K mg I H (.lst false ds) (.ref a) A
  | tup {a ds vs A} (h : I a = some (.tup vs)) (r : Reps K mg I H ds vs A) : Rep K mg I H (.tup ds) (.ref a) A
  | dicKO {a ks ds kvs A B} (hA : A a) (h : H a = some (.dK kvs)) (hk : kvs.map (fun p => kdK p.1) = ks) (nd : ks.Nodup) (r : Reps K mg I H ds (kvs.map (·.2)) B) (hB : Le B A) (nB : ¬ B a) : Rep K mg I H (.dic true ks ds) (.ref a) A
  | dicKF {a ks ds kvs A} (h : I a = some (.dK kvs)) (hk : kvs.map (fun p => kdK p.1) = ks) (nd : ks.Nodup) (r : Reps K mg I H ds (kvs.map (·.2)) no) : Rep K mg I H (.dic false ks ds) (.ref a) A
  | dicTO {a ks ds kvs A B} (hA : A a) (h : H a = some (.dT kvs)) (hk : kvs.map (fun p => KD.t p.1) = ks) (nd : ks.Nodup ∧ ks ≠ []) (r : Reps K mg I H ds (kvs.map (·.2)) B) (hB : Le B A) (nB : ¬ B a) : Rep K mg I H (.dic true ks ds) (.ref a) A
  | dicTF {a ks ds kvs A} (h : I a = some (.dT kvs)) (hk : kvs.map (fun p => KD.t p.1) = ks) (nd : ks.Nodup ∧ ks ≠ []) (r : Reps K mg I H ds (kvs.map (·.2)) no) : Rep K mg I H (.dic false ks ds) (.ref a) A
  | insO {a C dx c fs ds fvs A B} (hA : A a) (h : H a = some (.ins C dx fvs)) (hc : mg c = some (.ref C)) (hk : fvs.map (·.1) = fs) (r : Reps K mg I H ds (fvs.map (·.2)) B) (hB : Le B A) (nB : ¬ B a) : Rep K mg I H (.ins true c fs ds) (.ref a) A
  | insF {a C dx c fs ds fvs A} (h : I a = some (.ins C dx fvs)) (hc : mg c = some (.ref C)) (hk : fvs.map (·.1) = fs) (r : Reps K mg I H ds (fvs.map (·.2)) no) : Rep K mg I H (.ins false c fs ds) (.ref a) A
  | exn0 {c a A} : Rep K mg I H (.exn c [] [.int (a : Nat)]) (.ref a) A
  | exnF {c f fs xs fvs a d A} (h : I d = some (.xd fvs)) (hk : fvs.map (·.1) = f :: fs) (r : Reps K mg I H xs (fvs.map (·.2)) no) : Rep K mg I H (.exn c (f :: fs) (.int (a : Nat) :: .int (d : Nat) :: xs)) (.ref a) A
inductive Reps (K : PySem.W.Frag) (mg : Str → Option Value) (I H : Hp) : List D → List V → FP → Prop
  | nil {A} : Reps K mg I H [] [] A
  | cons {d ds v vs A B C} (r : Rep K mg I H d v B) (rs : Reps K mg I H ds vs C) (hB : Le B A) (hC : Le C A) (dis : Dis B C) : Reps K mg I H (d :: ds) (v :: vs) A
end

section
variable {K : PySem.W.Frag} {mg : Str → Option Value} {I H I' H' : Hp} {d : D} {v : V} {ds : List D} {vs : List V} {A B C : FP}
theorem Reps.mono (r : Reps K mg I H ds vs A) (h : Le A B) : Reps K mg I H ds vs B := by
  cases r with
  | nil => exact .nil
  | cons r rs x y z => exact .cons r rs (x.trans h) (y.trans h) z
theorem Rep.mono (r : Rep K mg I H d v A) (h : Le A B) : Rep K mg I H d v B := by
  cases r with
  | hole => exact .hole
  | non => exact .non
  | bl => exact .bl
  | int => exact .int
  | str => exact .str
  | ty => exact .ty
  | cls e => exact .cls e
  | lstO hA e r hB nB => exact .lstO (h _ hA) e r (hB.trans h) nB
  | lstF e r => exact .lstF e r
  | tup e r => exact .tup e (r.mono h)
  | dicKO hA e hk nd r hB nB => exact .dicKO (h _ hA) e hk nd r (hB.trans h) nB
  | dicKF e hk nd r => exact .dicKF e hk nd r
  | dicTO hA e hk nd r hB nB => exact .dicTO (h _ hA) e hk nd r (hB.trans h) nB
  | dicTF e hk nd r => exact .dicTF e hk nd r
  | insO hA e hc hk r hB nB => exact .insO (h _ hA) e hc hk r (hB.trans h) nB
  | insF e hc hk r => exact .insF e hc hk r
  | exn0 => exact .exn0
  | exnF e hk r => exact .exnF e hk r

def Sub (I I' : Hp) : Prop := ∀ a o, I a = some o → I' a = some o
theorem Sub.refl {I : Hp} : Sub I I := fun _ _ h => h
theorem Sub.trans {I J L : Hp} (h : Sub I J) (k : Sub J L) : Sub I L := fun a o x => k a o (h a o x)
theorem Sub.rd {u : HO} {a : Addr} (h : Sub I I') (r : Rd I a u) : Rd I' a u := by
  rcases r with r | ⟨o, r⟩
  · exact .inl (h _ _ r)
  · exact .inr ⟨o, h _ _ r⟩
theorem Sub.sqL {a : Addr} {xs : List V} (h : Sub I I') (r : SqL K I a xs) : SqL K I' a xs := r.elim (fun q => .inl (h.rd q)) .inr
theorem Sub.sqT {a : Addr} {xs : List V} (h : Sub I I') (r : SqT K I a xs) : SqT K I' a xs := r.elim (fun q => .inl (h.rd q)) .inr

mutual
theorem Rep.frame (hs : Sub I I') : ∀ {d : D} {v : V} {A : FP}, Rep K mg I H d v A → (∀ a o, A a → H a = some o → H' a = some o) → Rep K mg I' H' d v A
  | _, _, _, .hole, _ => .hole
  | _, _, _, .non, _ => .non
  | _, _, _, .bl, _ => .bl
  | _, _, _, .int, _ => .int
  | _, _, _, .str, _ => .str
  | _, _, _, .ty, _ => .ty
  | _, _, _, .cls e, _ => .cls e
  | _, _, _, .lstO hA e r hB nB, k => .lstO hA (k _ _ hA e) (Reps.frame hs r fun a o x => k a o (hB a x)) hB nB
  | _, _, _, .lstF e r, k => .lstF (hs.sqL e) (Reps.frame hs r fun _ _ x => x.elim)
  | _, _, _, .tup e r, k => .tup (hs _ _ e) (Reps.frame hs r k)
  | _, _, _, .dicKO hA e hk nd r hB nB, k => .dicKO hA (k _ _ hA e) hk nd (Reps.frame hs r fun a o x => k a o (hB a x)) hB nB
  | _, _, _, .dicKF e hk nd r, k => .dicKF (hs _ _ e) hk nd (Reps.frame hs r fun _ _ x => x.elim)
  | _, _, _, .dicTO hA e hk nd r hB nB, k => .dicTO hA (k _ _ hA e) hk nd (Reps.frame hs r fun a o x => k a o (hB a x)) hB nB
  | _, _, _, .dicTF e hk nd r, k => .dicTF (hs _ _ e) hk nd (Reps.frame hs r fun _ _ x => x.elim)
  | _, _, _, .insO hA e hc hk r hB nB, k => .insO hA (k _ _ hA e) hc hk (Reps.frame hs r fun a o x => k a o (hB a x)) hB nB
  | _, _, _, .insF e hc hk r, k => .insF (hs _ _ e) hc hk (Reps.frame hs r fun _ _ x => x.elim)
  | _, _, _, .exn0, _ => .exn0
  | _, _, _, .exnF e hk r, k => .exnF (hs _ _ e) hk (Reps.frame hs r fun _ _ x => x.elim)
theorem Reps.frame (hs : Sub I I') : ∀ {ds : List D} {vs : List V} {A : FP}, Reps K mg I H ds vs A → (∀ a o, A a → H a = some o → H' a = some o) → Reps K mg I' H' ds vs A
  | _, _, _, .nil, _ => .nil
  | _, _, _, .cons r rs x y z, k => .cons (Rep.frame hs r fun a o q => k a o (x a q)) (Reps.frame hs rs fun a o q => k a o (y a q)) x y z
end

mutual
/-- frozen: what was one's own lies in I' now -/
theorem Rep.freeze (hs : Sub I I') : ∀ {d : D} {v : V} {A : FP}, Rep K mg I H d v A → (∀ a o, A a → H a = some o → I' a = some o) → Rep K mg I' H' (fz d) v no
  | _, _, _, .hole, _ => .hole
  | _, _, _, .non, _ => .non
  | _, _, _, .bl, _ => .bl
  | _, _, _, .int, _ => .int
  | _, _, _, .str, _ => .str
  | _, _, _, .ty, _ => .ty
  | _, _, _, .cls e, _ => .cls e
  | _, _, _, .lstO hA e r hB nB, k => .lstF (SqL.of (k _ _ hA e)) (Reps.freeze hs r fun a o x => k a o (hB a x))
  | _, _, _, .lstF e r, k => .lstF (hs.sqL e) (Reps.freeze hs r fun _ _ x => x.elim)
  | _, _, _, .tup e r, k => .tup (hs _ _ e) (Reps.freeze hs r k)
  | _, _, _, .dicKO hA e hk nd r hB nB, k => .dicKF (k _ _ hA e) hk nd (Reps.freeze hs r fun a o x => k a o (hB a x))
  | _, _, _, .dicKF e hk nd r, k => .dicKF (hs _ _ e) hk nd (Reps.freeze hs r fun _ _ x => x.elim)
  | _, _, _, .dicTO hA e hk nd r hB nB, k => .dicTF (k _ _ hA e) hk nd (Reps.freeze hs r fun a o x => k a o (hB a x))
  | _, _, _, .dicTF e hk nd r, k => .dicTF (hs _ _ e) hk nd (Reps.freeze hs r fun _ _ x => x.elim)
  | _, _, _, .insO hA e hc hk r hB nB, k => .insF (k _ _ hA e) hc hk (Reps.freeze hs r fun a o x => k a o (hB a x))
  | _, _, _, .insF e hc hk r, k => .insF (hs _ _ e) hc hk (Reps.freeze hs r fun _ _ x => x.elim)
  | _, _, _, .exn0, _ => .exn0
  | _, _, _, .exnF e hk r, k => .exnF (hs _ _ e) hk (Reps.frame hs r fun _ _ x => x.elim)
theorem Reps.freeze (hs : Sub I I') : ∀ {ds : List D} {vs : List V} {A : FP}, Reps K mg I H ds vs A → (∀ a o, A a → H a = some o → I' a = some o) → Reps K mg I' H' (fzs ds) vs no
  | _, _, _, .nil, _ => .nil
  | _, _, _, .cons r rs x y z, k => .cons (Rep.freeze hs r fun a o q => k a o (x a q)) (Reps.freeze hs rs fun a o q => k a o (y a q)) no_le no_le dis_no
end

mutual
/-- what is frozen needs no footprint -/
theorem Rep.ice : ∀ {d : D} {v : V} {A : FP}, Rep K mg I H d v A → ice d = true → Rep K mg I H d v no
  | _, _, _, .hole, h => by simp [DL.ice] at h
  | _, _, _, .non, _ => .non
  | _, _, _, .bl, _ => .bl
  | _, _, _, .int, _ => .int
  | _, _, _, .str, _ => .str
  | _, _, _, .ty, _ => .ty
  | _, _, _, .cls e, _ => .cls e
  | _, _, _, .lstO .., h => by simp [DL.ice] at h
  | _, _, _, .lstF e r, h => .lstF e r
  | _, _, _, .tup e r, h => .tup e (Reps.ice r (by simpa [DL.ice] using h))
  | _, _, _, .dicKO .., h => by simp [DL.ice] at h
  | _, _, _, .dicKF e hk nd r, h => .dicKF e hk nd r
  | _, _, _, .dicTO .., h => by simp [DL.ice] at h
  | _, _, _, .dicTF e hk nd r, h => .dicTF e hk nd r
  | _, _, _, .insO .., h => by simp [DL.ice] at h
  | _, _, _, .insF e hc hk r, h => .insF e hc hk r
  | _, _, _, .exn0, h => .exn0
  | _, _, _, .exnF e hk r, h => .exnF e hk r
theorem Reps.ice : ∀ {ds : List D} {vs : List V} {A : FP}, Reps K mg I H ds vs A → ices ds = true → Reps K mg I H ds vs no
  | _, _, _, .nil, _ => .nil
  | _, _, _, .cons r rs x y z, h => by
    simp only [ices, Bool.and_eq_true] at h
    exact .cons (Rep.ice r h.1) (Reps.ice rs h.2) no_le no_le dis_no
end
theorem Reps.length : ∀ {ds : List D} {vs : List V} {A : FP}, Reps K mg I H ds vs A → ds.length = vs.length
  | _, _, _, .nil => rfl
  | _, _, _, .cons _ rs _ _ _ => by simp [Reps.length rs]
end
/-! ### tables of code objects -/
def NTb (o : HO) : Prop := ∀ ps, o ≠ .tbl ps
/-- the defs that have lambdas within, and the name of these -/
def lamKeys : List (He.Defn × Str) := [
  (("Works", some "due_row"), "Works.due_row.<locals>.<lambda>"), (("Works", some "steep_row"), "Works.steep_row.<locals>.<lambda>"), (("_law_due_rows", none), "_law_due_rows.<locals>.<lambda>"),
  (("_law_rows", none), "_law_rows.<locals>.<lambda>"), (("_law_by_one", none), "_law_by_one.<locals>.<lambda>"), (("_law_put_right", none), "_law_put_right.<locals>.<lambda>"),
  (("_law_bars_trays", none), "_law_bars_trays.<locals>.<lambda>"), (("_law_table", none), "_law_table.<locals>.<lambda>")]
def hasTab (K : PySem.W.Frag) (p : He.Defn) : Bool := PySem.W.codeHdIn K (He.cT K p).1 (He.cT K p).2 && (K.lookup (He.cT K p).2).isNone
/-- the table at P, and the name that its code objects bear -/
def IsTab (K : PySem.W.Frag) (P : Addr) (q : Str) : Prop := ∃ p, (p, q) ∈ lamKeys ∧ hasTab K p = true ∧ P = (He.cT K p).2
/-- sound: what lies in I lies in H; the tables tell known code objects alone -/
structure SubH (K : PySem.W.Frag) (I H : Hp) : Prop where
  sub : Sub I H
  tab : ∀ P q, IsTab K P q → I P = none ∧ ∃ ps : Array Value, H P = some (.tbl ps) ∧ TriplesOk ps.toList ∧ ∀ (pos : Pos) (cv : Value), codeAmong pos ps.toList = some cv → ∃ c, cv = .ref c ∧ I c = some (LamX.CodeO c q)
theorem SubH.grow {K : PySem.W.Frag} {I H I' H' : Hp} (s : SubH K I H) (inc : Sub I I') (sub : Sub I' H') (ht : ∀ P ps, H P = some (.tbl ps) → H' P = some (.tbl ps)) (hi : ∀ P ps, H P = some (.tbl ps) → I P = none → I' P = none) : SubH K I' H' :=
  ⟨sub, fun P q h => by
    obtain ⟨n, ps, e, t, k⟩ := s.tab P q h
    exact ⟨hi P ps e n, ps, ht P ps e, t, fun pos cv z => (k pos cv z).elim fun c z => ⟨c, z.1, inc _ _ z.2⟩⟩⟩
end DL

set_option linter.all false
set_option autoImplicit false
namespace DL
open PySem PySem.Spec L2
open PyProof.Rows hiding St

structure Sl where
  io : Bool
  lk : Bool
  d : D
abbrev Env := List Sl
def Sl.fl (s : Sl) : Bool × Bool := (s.io, s.lk)
abbrev FF := Nat → FP
def FF.set (F : FF) (i : Nat) (A : FP) : FF := fun j => if j = i then A else F j
theorem FF.set_same {F : FF} {i : Nat} {A : FP} : F.set i A i = A := by simp [FF.set]
theorem FF.set_ne {F : FF} {i j : Nat} {A : FP} (h : j ≠ i) : F.set i A j = F j := by simp [FF.set, h]
def Own (I H : Hp) (A : FP) : Prop := ∀ a, A a → (∃ o, H a = some o ∧ NTb o) ∧ I a = none
theorem own_no {I H : Hp} : Own I H no := fun _ h => h.elim
theorem Own.mono {I H : Hp} {A B : FP} (h : Own I H B) (k : Le A B) : Own I H A := fun a x => h a (k a x)
theorem Own.or {I H : Hp} {A B : FP} (h : Own I H A) (k : Own I H B) : Own I H (A.or B) := fun a x => x.elim (h a) (k a)

instance {K : PySem.W.Frag} {I H : Hp} : CoeOut (SubH K I H) (Sub I H) := ⟨fun s => s.sub⟩
instance {K : PySem.W.Frag} {I H : Hp} : CoeFun (SubH K I H) (fun _ => ∀ a o, I a = some o → H a = some o) := ⟨fun s => s.sub⟩
section
variable {K : PySem.W.Frag} {I I' H H' : Hp}
theorem SubH.rd {u : HO} {a : Addr} (h : SubH K I H) (r : Rd I a u) : Rd H a u := h.sub.rd r
theorem SubH.sqL {a : Addr} {xs : List V} (h : SubH K I H) (r : SqL K I a xs) : SqL K H a xs := h.sub.sqL r
theorem SubH.sqT {a : Addr} {xs : List V} (h : SubH K I H) (r : SqT K I a xs) : SqT K H a xs := h.sub.sqT r
theorem SubH.new {p : Addr} (h : SubH K I H) (hp : H p = none) : I p = none := by
  cases q : I p with
  | none => rfl
  | some o => rw [h.sub p o q] at hp; cases hp
/-- a new object, not known to I -/
theorem SubH.own {p : Addr} {o : HO} (h : SubH K I H) (hp : H p = none) : SubH K I (upd H p o) :=
  h.grow Sub.refl (fun a u e => by rw [upd_ne (ne_of_none (h.sub a u e) hp)]; exact h.sub a u e) (fun P ps e => by rw [upd_ne (ne_of_none e hp)]; exact e) fun _ _ _ n => n
/-- a new object, known to I -/
theorem SubH.ice {p : Addr} {o : HO} (h : SubH K I H) (hp : H p = none) : SubH K (upd I p o) (upd H p o) :=
  h.grow (fun a u e => by rw [upd_ne (ne_of_none e (h.new hp))]; exact e) (fun a u e => by
    by_cases q : a = p
    · subst q; rw [upd_same] at e ⊢; exact e
    · rw [upd_ne q] at e ⊢; exact h.sub a u e) (fun P ps e => by rw [upd_ne (ne_of_none e hp)]; exact e) fun P ps e n => by rw [upd_ne (ne_of_none e hp)]; exact n
/-- an object that is no table is written -/
theorem SubH.write {p : Addr} {o u : HO} (h : SubH K I H) (hp : H p = some u) (hi : I p = none) (t : NTb u) : SubH K I (upd H p o) :=
  h.grow Sub.refl (fun a w e => by rw [upd_ne (fun z => by subst z; rw [hi] at e; cases e)]; exact h.sub a w e) (fun P ps e => by rw [upd_ne (fun z => by subst z; rw [hp] at e; exact t ps (Option.some.inj e))]; exact e) fun _ _ _ n => n
/-- what one owns becomes known -/
theorem SubH.freeze {B A : FP} (s : SubH K I H) (ho : Own I H A) (hb : Le B A) (h1 : ∀ a, B a → I' a = H a) (h2 : ∀ a, ¬ B a → I' a = I a) : SubH K I' H :=
  s.grow (fun a o h => by
    by_cases q : B a
    · rw [(ho a (hb a q)).2] at h; cases h
    · rw [h2 a q]; exact h) (fun a o h => by
    by_cases q : B a
    · rw [h1 a q] at h; exact h
    · rw [h2 a q] at h; exact s.sub a o h) (fun _ _ h => h) fun a ps e n => by
    by_cases q : B a
    · obtain ⟨⟨o, e', t⟩, _⟩ := ho a (hb a q)
      rw [e] at e'
      exact absurd (Option.some.inj e').symm (t ps)
    · rw [h2 a q]; exact n
/-- lists are forgotten -/
theorem SubH.cut {L : FP} (s : SubH K I H) (h1 : ∀ x, L x → I' x = none) (h2 : ∀ x, ¬ L x → I' x = I x) (ls : ∀ x, L x → ∃ xs, I x = some (.lst xs)) : SubH K I' H :=
  ⟨fun a o e => by
    by_cases l : L a
    · rw [h1 a l] at e; cases e
    · rw [h2 a l] at e; exact s.sub a o e, fun P q t => by
    obtain ⟨n, ps, e, t', k⟩ := s.tab P q t
    refine ⟨?_, ps, e, t', fun pos cv z => ?_⟩
    · by_cases l : L P
      · exact h1 P l
      · rw [h2 P l]; exact n
    · obtain ⟨c, e1, e2⟩ := k pos cv z
      refine ⟨c, e1, ?_⟩
      have nl : ¬ L c := fun l => by
        obtain ⟨xs, e3⟩ := ls c l
        rw [e2] at e3
        unfold LamX.CodeO at e3
        cases e3
      rw [h2 c nl]; exact e2⟩
end

structure Stt (K : PySem.W.Frag) (mg : Str → Option Value) (I H : Hp) (δ : Env) (σ : St) (F : FF) : Prop where
  sub : SubH K I H
  own : ∀ i, Own I H (F i)
  dis : ∀ i j, i ≠ j → Dis (F i) (F j)
  rep : ∀ (i : Nat) (sl : Sl), δ[i]? = some sl → sl.d = .hole ∨ ∃ v, σ[i]? = some (some v) ∧ Rep K mg I H sl.d v (F i)
  emp : ∀ i, δ.length ≤ i → F i = no
  len : δ.length = σ.length

structure Ev (I H : Hp) (A : FP) (I' H' : Hp) (A' : FP) : Prop where
  inc : Sub I I'
  out : ∀ a o, H a = some o → ¬ A a → NTb o → H' a = some o
  tb : ∀ a ps, H a = some (.tbl ps) → ∃ ps', H' a = some (.tbl ps')
  foot : ∀ a, A' a → A a ∨ H a = none
  ice : ∀ a, I' a ≠ none → I a ≠ none ∨ A a ∨ H a = none
theorem ntb (o : HO) : NTb o ∨ ∃ ps, o = .tbl ps := by
  cases o with
  | tbl ps => exact .inr ⟨ps, rfl⟩
  | _ => exact .inl fun ps z => by cases z
theorem Ev.of {I H I' H' : Hp} {A A' : FP} (inc : Sub I I') (out : ∀ a o, H a = some o → ¬ A a → H' a = some o) (foot : ∀ a, A' a → A a ∨ H a = none) (ice : ∀ a, I' a ≠ none → I a ≠ none ∨ A a ∨ H a = none) (hA : ∀ a, A a → ∀ ps, H a ≠ some (.tbl ps)) : Ev I H A I' H' A' :=
  ⟨inc, fun a o h n _ => out a o h n, fun a ps h => ⟨ps, out a _ h fun z => hA a z ps h⟩, foot, ice⟩
theorem Own.at {I H : Hp} {A : FP} {a : Addr} {o : HO} (h : Own I H A) (x : A a) (e : H a = some o) : NTb o := by
  obtain ⟨⟨u, e', t⟩, _⟩ := h a x
  rw [e] at e'
  cases e'
  exact t
theorem Own.nt {I H : Hp} {A : FP} (h : Own I H A) : ∀ a, A a → ∀ ps, H a ≠ some (.tbl ps) := fun a x ps z => by
  obtain ⟨⟨o, e, t⟩, _⟩ := h a x
  rw [z] at e
  exact t ps (Option.some.inj e).symm
theorem Ev.refl {I H : Hp} {A : FP} : Ev I H A I H A := ⟨Sub.refl, fun _ _ h _ _ => h, fun _ ps h => ⟨ps, h⟩, fun _ h => .inl h, fun _ h => .inl h⟩
theorem Ev.there {I H I1 H1 : Hp} {A A1 : FP} {a : Addr} {o : HO} (e : Ev I H A I1 H1 A1) (h : H a = some o) (n : ¬ A a) : H1 a ≠ none := fun z => by
  rcases ntb o with t | ⟨ps, t⟩
  · rw [e.out a o h n t] at z; cases z
  · subst t
    obtain ⟨ps', q⟩ := e.tb a ps h
    rw [q] at z; cases z
theorem Ev.trans {I H I1 H1 I2 H2 : Hp} {A A1 A2 : FP} (e : Ev I H A I1 H1 A1) (f : Ev I1 H1 A1 I2 H2 A2) : Ev I H A I2 H2 A2 := by
  have key : ∀ a, A1 a ∨ H1 a = none → A a ∨ H a = none := fun a h => by
    rcases h with h | h
    · exact e.foot a h
    · by_cases q : A a
      · exact .inl q
      · cases r : H a with
        | none => exact .inr rfl
        | some o =>
          rcases ntb o with t | ⟨ps, t⟩
          · rw [e.out a o r q t] at h; cases h
          · subst t
            obtain ⟨ps', z⟩ := e.tb a ps r
            rw [z] at h; cases h
  refine ⟨e.inc.trans f.inc, fun a o h n t => f.out a o (e.out a o h n t) (fun q => ?_) t, fun a ps h => (e.tb a ps h).elim fun ps' z => f.tb a ps' z, fun a h => key a (f.foot a h), fun a h => ?_⟩
  · rcases e.foot a q with z | z
    · exact n z
    · rw [z] at h; cases h
  · rcases f.ice a h with z | z
    · exact e.ice a z
    · exact .inr (key a z)
theorem Ev.mono {I H I' H' : Hp} {A A' B B' : FP} (e : Ev I H A I' H' A') (h : Le A B) (k : ∀ a, B' a → A' a ∨ B a ∨ H a = none) : Ev I H B I' H' B' :=
  ⟨e.inc, fun a o q n t => e.out a o q (fun z => n (h a z)) t, e.tb, fun a q => (k a q).elim (fun z => (e.foot a z).elim (fun y => .inl (h a y)) .inr) id, fun a q => (e.ice a q).elim .inl fun z => .inr (z.elim (fun y => .inl (h a y)) .inr)⟩
theorem Ev.fr {I H I' H' : Hp} {A A' B : FP} (e : Ev I H A I' H' A') : Ev I H (A.or B) I' H' (A'.or B) := e.mono le_l fun a q => q.elim .inl fun z => .inr (.inl (.inr z))

def U (δ : Env) (F : FF) : FP := fun a => ∃ (i : Nat) (sl : Sl), δ[i]? = some sl ∧ sl.lk = false ∧ F i a

structure Go (K : PySem.W.Frag) (mg : Str → Option Value) (I H : Hp) (δ : Env) (σ : St) (F : FF) (I' H' : Hp) (δ' : Env) (σ' : St) (F' : FF) (B : FP) : Prop where
  st : Stt K mg I' H' δ' σ' F'
  ev : Ev I H (U δ F) I' H' ((U δ' F').or B)
  own : Own I' H' B
  dis : ∀ i, Dis (F' i) B
  lk : ∀ (i : Nat) (sl : Sl), δ[i]? = some sl → sl.lk = true → δ'[i]? = some sl ∧ F' i = F i ∧ σ'[i]? = σ[i]?
  io : ∀ (i : Nat) (sl : Sl), δ[i]? = some sl → sl.io = true → σ'[i]? = σ[i]?
  fl : δ'.map Sl.fl = δ.map Sl.fl

section
variable {K : PySem.W.Frag} {mg : Str → Option Value} {I H I1 H1 I2 H2 : Hp} {δ δ1 δ2 : Env} {σ σ1 σ2 : St} {F F1 F2 : FF} {A B B1 B2 C : FP} {d : D} {v : V} {i : Nat} {sl : Sl}
theorem Go.refl (s : Stt K mg I H δ σ F) : Go K mg I H δ σ F I H δ σ F no :=
  ⟨s, Ev.refl.mono Le.refl fun a h => h.elim .inl fun z => z.elim, own_no, fun _ => dis_no, fun _ _ h _ => ⟨h, rfl, rfl⟩, fun _ _ _ _ => rfl, rfl⟩
theorem fl_some (h : δ1.map Sl.fl = δ.map Sl.fl) (e : δ1[i]? = some sl) : ∃ s0, δ[i]? = some s0 ∧ s0.io = sl.io ∧ s0.lk = sl.lk := by
  have q : (δ1.map Sl.fl)[i]? = some sl.fl := by rw [List.getElem?_map, e]; rfl
  rw [h, List.getElem?_map] at q
  cases r : δ[i]? with
  | none => rw [r] at q; cases q
  | some s0 =>
    rw [r] at q
    have q' : s0.fl = sl.fl := by simpa using q
    simp only [Sl.fl, Prod.mk.injEq] at q'
    exact ⟨s0, rfl, q'.1, q'.2⟩
theorem fl_len (h : δ1.map Sl.fl = δ.map Sl.fl) : δ1.length = δ.length := by
  have := congrArg List.length h
  simpa using this
/-- where a footprint lies behind a step -/
theorem Go.foot (g : Go K mg I H δ σ F I1 H1 δ1 σ1 F1 B) {a : Addr} (h : F1 i a) : (∃ j, F j a) ∨ H a = none := by
  by_cases hi : δ1.length ≤ i
  · rw [g.st.emp i hi] at h; exact h.elim
  · obtain ⟨s1, e1⟩ : ∃ s, δ1[i]? = some s := ⟨_, List.getElem?_eq_getElem (by omega)⟩
    cases hl : s1.lk with
    | false =>
      rcases g.ev.foot a (.inl ⟨i, s1, e1, hl, h⟩) with ⟨j, _, _, _, z⟩ | z
      · exact .inl ⟨j, z⟩
      · exact .inr z
    | true =>
      obtain ⟨s0, e0, _, l0⟩ := fl_some g.fl e1
      rw [(g.lk i s0 e0 (l0.trans hl)).2.1] at h
      exact .inl ⟨i, h⟩
/-- what is framed stays -/
theorem Go.keep (g : Go K mg I H δ σ F I1 H1 δ1 σ1 F1 B) (ho : Own I H C) (hd : ∀ i, Dis (F i) C) :
    Own I1 H1 C ∧ (∀ i, Dis (F1 i) C) ∧ Dis B C ∧ ∀ a o, C a → H a = some o → H1 a = some o := by
  have nu : ∀ a, C a → ¬ U δ F a := fun a c ⟨i, _, _, _, z⟩ => hd i a z c
  have st : ∀ a o, C a → H a = some o → H1 a = some o := fun a o c h => g.ev.out a o h (nu a c) (ho.at c h)
  refine ⟨fun a c => ?_, fun i a x c => ?_, fun a x c => ?_, st⟩
  · obtain ⟨⟨o, e, te⟩, n⟩ := ho a c
    refine ⟨⟨o, st a o c e, te⟩, ?_⟩
    cases q : I1 a with
    | none => rfl
    | some u =>
      rcases g.ev.ice a (by rw [q]; exact fun z => nomatch z) with z | z | z
      · exact absurd n z
      · exact absurd z (nu a c)
      · rw [e] at z; cases z
  · obtain ⟨⟨o, e, te⟩, _⟩ := ho a c
    rcases g.foot x with ⟨j, z⟩ | z
    · exact hd j a z c
    · rw [e] at z; cases z
  · obtain ⟨⟨o, e, te⟩, _⟩ := ho a c
    rcases g.ev.foot a (.inr x) with z | z
    · exact nu a c z
    · rw [e] at z; cases z
theorem Go.rep (g : Go K mg I H δ σ F I1 H1 δ1 σ1 F1 B) (ho : Own I H C) (hd : ∀ i, Dis (F i) C) (r : Rep K mg I H d v C) : Rep K mg I1 H1 d v C :=
  r.frame g.ev.inc (g.keep ho hd).2.2.2
theorem Go.trans (g : Go K mg I H δ σ F I1 H1 δ1 σ1 F1 B1) (g2 : Go K mg I1 H1 δ1 σ1 F1 I2 H2 δ2 σ2 F2 B2) : Go K mg I H δ σ F I2 H2 δ2 σ2 F2 (B1.or B2) := by
  obtain ⟨k1, k2, k3, k4⟩ := g2.keep g.own g.dis
  refine ⟨g2.st, g.ev.trans (Ev.mono (g2.ev.fr (B := B1)) Le.refl fun a h => ?_), k1.or g2.own, fun i a x h => h.elim (k2 i a x) (g2.dis i a x), fun i sl e l => ?_, fun i sl e l => ?_, g2.fl.trans g.fl⟩
  · rcases h with h | h | h
    · exact .inl (.inl (.inl h))
    · exact .inl (.inr h)
    · exact .inl (.inl (.inr h))
  · obtain ⟨a1, a2, a3⟩ := g.lk i sl e l
    obtain ⟨b1, b2, b3⟩ := g2.lk i sl a1 l
    exact ⟨b1, b2.trans a2, b3.trans a3⟩
  · have h1 := g.io i sl e l
    have hl : i < δ.length := (List.getElem?_eq_some_iff.mp e).1
    have hl1 : i < δ1.length := by rw [fl_len g.fl]; exact hl
    obtain ⟨s0, e0, l0, _⟩ := fl_some (δ := δ) (δ1 := δ1) g.fl (List.getElem?_eq_getElem hl1)
    rw [e] at e0; cases e0
    exact (g2.io i _ (List.getElem?_eq_getElem hl1) (l0.symm.trans l)).trans h1
/-- less of the new -/
theorem Go.less (g : Go K mg I H δ σ F I1 H1 δ1 σ1 F1 B1) (h : Le B2 B1) : Go K mg I H δ σ F I1 H1 δ1 σ1 F1 B2 :=
  ⟨g.st, g.ev.mono Le.refl fun a q => .inl (q.elim .inl fun z => .inr (h a z)), g.own.mono h, fun i => (g.dis i).mono Le.refl h, g.lk, g.io, g.fl⟩
theorem Go.eqB (g : Go K mg I H δ σ F I1 H1 δ1 σ1 F1 B1) (h : B1 = B2) : Go K mg I H δ σ F I1 H1 δ1 σ1 F1 B2 := h ▸ g

/-- a slot's footprint and value are set -/
theorem Stt.put (s : Stt K mg I H δ σ F) (hi : i < δ.length) (r : d = .hole ∨ ∃ v, σ1[i]? = some (some v) ∧ Rep K mg I H d v B) (ho : Own I H B) (hd : ∀ j, j ≠ i → Dis (F j) B)
    (hσ : ∀ j, j ≠ i → σ1[j]? = σ[j]?) (hl : σ1.length = σ.length) {io lk : Bool} : Stt K mg I H (δ.set i ⟨io, lk, d⟩) σ1 (F.set i B) := by
  refine ⟨s.sub, fun j => ?_, fun j k n => ?_, fun j sl e => ?_, fun j hj => ?_, by simpa [hl] using s.len⟩
  · by_cases q : j = i
    · subst q; rw [FF.set_same]; exact ho
    · rw [FF.set_ne q]; exact s.own j
  · by_cases q : j = i
    · subst q
      rw [FF.set_same, FF.set_ne (Ne.symm n)]
      exact (hd k (Ne.symm n)).symm
    · rw [FF.set_ne q]
      by_cases q2 : k = i
      · subst q2; rw [FF.set_same]; exact hd j q
      · rw [FF.set_ne q2]; exact s.dis j k n
  · by_cases q : j = i
    · subst q
      rw [List.getElem?_set_self hi] at e
      cases e
      rw [FF.set_same]; exact r
    · rw [List.getElem?_set_ne (Ne.symm q)] at e
      rw [FF.set_ne q, hσ j q]
      exact s.rep j sl e
  · rw [List.length_set] at hj
    rw [FF.set_ne (by omega)]
    exact s.emp j hj
/-- the same, as a step; the slot is not locked; B: out of the slot's own, the step's C, or new -/
theorem Go.put (g : Go K mg I H δ σ F I1 H1 δ1 σ F1 C) (e : δ1[i]? = some sl) (nl : sl.lk = false) (r : d = .hole ∨ ∃ v, σ2[i]? = some (some v) ∧ Rep K mg I1 H1 d v B) (ho : Own I1 H1 B)
    (hd : ∀ j, j ≠ i → Dis (F1 j) B) (hB : Le B ((F1 i).or C)) (hσ : ∀ j, j ≠ i → σ2[j]? = σ[j]?) (hl : σ2.length = σ.length) (hio : sl.io = true → σ2[i]? = σ[i]?) :
    Go K mg I H δ σ F I1 H1 (δ1.set i ⟨sl.io, false, d⟩) σ2 (F1.set i B) no := by
  have hi : i < δ1.length := (List.getElem?_eq_some_iff.mp e).1
  refine ⟨g.st.put hi r ho hd hσ hl, g.ev.mono Le.refl fun a h => ?_, own_no, fun _ => dis_no, fun j s0 e0 l0 => ?_, fun j s0 e0 l0 => ?_, ?_⟩
  · rcases h with ⟨j, s, e1, l1, x⟩ | h
    · by_cases q : j = i
      · subst q
        rw [FF.set_same] at x
        rcases hB a x with z | z
        · exact .inl (.inl ⟨j, sl, e, nl, z⟩)
        · exact .inl (.inr z)
      · rw [FF.set_ne q] at x
        rw [List.getElem?_set_ne (Ne.symm q)] at e1
        exact .inl (.inl ⟨j, s, e1, l1, x⟩)
    · exact h.elim
  · obtain ⟨a1, a2, a3⟩ := g.lk j s0 e0 l0
    have q : j ≠ i := fun z => by subst z; rw [e] at a1; cases a1; rw [nl] at l0; cases l0
    exact ⟨by rw [List.getElem?_set_ne (Ne.symm q)]; exact a1, by rw [FF.set_ne q]; exact a2, (hσ j q).trans a3⟩
  · by_cases q : j = i
    · subst q
      obtain ⟨s', e', f1, f2⟩ := fl_some g.fl e
      rw [e0] at e'; cases e'
      exact hio (f1.symm.trans l0)
    · exact hσ j q
  · rw [← g.fl, List.map_set]
    refine List.ext_getElem? fun j => ?_
    by_cases q : j = i
    · subst q
      rw [List.getElem?_set_self (by simpa using hi), List.getElem?_map, e]
      simp [Sl.fl, nl]
    · rw [List.getElem?_set_ne (Ne.symm q)]
end
end DL

set_option linter.all false
set_option autoImplicit false
namespace DL
open PySem PySem.Spec L2
open PyProof.Rows hiding St

def D.kids : D → List D
  | .lst _ xs => xs
  | .tup xs => xs
  | .dic _ _ xs => xs
  | .ins _ _ _ xs => xs
  | _ => []
def D.setK : D → List D → D
  | .lst o _, ys => .lst o ys
  | .tup _, ys => .tup ys
  | .dic o ks _, ys => .dic o ks ys
  | .ins o c fs _, ys => .ins o c fs ys
  | d, _ => d

section
variable {K : PySem.W.Frag} {mg : Str → Option Value} {I H I1 H1 I2 H2 : Hp} {δ δ1 δ2 : Env} {σ σ1 σ2 : St} {F F1 F2 : FF} {A B B1 B2 C : FP} {d : D} {v : V} {i : Nat} {sl : Sl} {ds : List D} {vs : List V}

theorem Reps.get : ∀ {ds : List D} {vs : List V} {A : FP} {k : Nat} {d : D}, Reps K mg I H ds vs A → ds[k]? = some d → ∃ v, vs[k]? = some v ∧ Rep K mg I H d v A
  | _, _, _, k, _, .nil, e => by simp at e
  | _, _, _, 0, _, .cons r _ x _ _, e => by simp at e; subst e; exact ⟨_, by simp, r.mono x⟩
  | _, _, _, k + 1, _, .cons _ rs _ y _, e => by
    obtain ⟨v, h1, h2⟩ := Reps.get (k := k) rs (by simpa using e)
    exact ⟨v, by simpa using h1, h2.mono y⟩
/-- one item by itself, the others apart -/
theorem Reps.lens : ∀ {ds : List D} {vs : List V} {A : FP} {k : Nat} {d : D}, Reps K mg I H ds vs A → ds[k]? = some d → ∃ v B C, vs[k]? = some v ∧ Rep K mg I H d v B ∧ Le B A ∧ Le C A ∧ Dis C B ∧
    ∀ (I' H' : Hp) (d' : D) (B' : FP), Sub I I' → (∀ a o, C a → H a = some o → H' a = some o) → Rep K mg I' H' d' v B' → Dis C B' → Reps K mg I' H' (ds.set k d') vs (C.or B')
  | _, _, _, k, _, .nil, e => by simp at e
  | _, _, _, 0, _, .cons (B := B) (C := C) r rs x y z, e => by
    simp at e; subst e
    refine ⟨_, B, C, by simp, r, x, y, z.symm, fun I' H' d' B' hs hk r' dd => ?_⟩
    exact .cons r' (rs.frame hs hk) le_r le_l dd.symm
  | _, _, _, k + 1, _, .cons (B := B0) (C := C0) r rs x y z, e => by
    obtain ⟨v, B, C, h1, h2, h3, h4, h5, h6⟩ := Reps.lens (k := k) rs (by simpa using e)
    refine ⟨v, B, B0.or C, by simpa using h1, h2, h3.trans y, fun a q => q.elim (x a) fun w => y a (h4 a w), fun a q w => q.elim (fun u => z a u (h3 a w)) fun u => h5 a u w, fun I' H' d' B' hs hk r' dd => ?_⟩
    exact .cons (B := B0) (C := C.or B') (r.frame hs fun a o q => hk a o (.inl q)) (h6 I' H' d' B' hs (fun a o q => hk a o (.inr q)) r' (dd.mono le_r Le.refl))
      (fun a q => .inl (.inl q)) (fun a q => q.elim (fun w => .inl (.inr w)) .inr) fun a q w => w.elim (fun u => z a q (h4 a u)) fun u => dd a (.inl q) u

/-- v lies in v0, as d in g d -/
def Lens (K : PySem.W.Frag) (mg : Str → Option Value) (I H : Hp) (g : D → D) (d : D) (v0 v : V) (A : FP) : Prop :=
  ∃ B C, Rep K mg I H d v B ∧ Le B A ∧ Le C A ∧ Dis C B ∧
    ∀ (I' H' : Hp) (d' : D) (B' : FP), Sub I I' → (∀ a o, C a → H a = some o → H' a = some o) → Rep K mg I' H' d' v B' → Dis C B' → Rep K mg I' H' (g d') v0 (C.or B')
theorem Lens.nil (r : Rep K mg I H d v A) : Lens K mg I H id d v v A :=
  ⟨A, no, r, Le.refl, no_le, no_dis, fun I' H' d' B' _ _ r' _ => r'.mono le_r⟩
theorem Lens.frame {g : D → D} {v0 : V} (l : Lens K mg I H g d v0 v A) (hs : Sub I I1) (hk : ∀ a o, A a → H a = some o → H1 a = some o) (hx : ∀ a, A a → ∃ o, H a = some o) : Lens K mg I1 H1 g d v0 v A := by
  obtain ⟨B, C, r, x, y, z, w⟩ := l
  refine ⟨B, C, r.frame hs fun a o q => hk a o (x a q), x, y, z, fun I' H' d' B' hs' hk' r' dd => w I' H' d' B' (hs.trans hs') (fun a o q e => hk' a o q ?_) r' dd⟩
  exact hk a o (y a q) e
/-- one step on -/
def Kid (v : V) (vs : List V) (k : Nat) (w : V) : Prop := vs[k]? = some w
theorem Lens.comp {g h : D → D} {v0 w : V} {e : D} (l : Lens K mg I H g d v0 v A) (l2 : ∀ B, Rep K mg I H d v B → Lens K mg I H h e v w B) : Lens K mg I H (fun x => g (h x)) e v0 w A := by
  obtain ⟨B, C, r, x, y, z, c⟩ := l
  obtain ⟨B2, C2, r2, x2, y2, z2, c2⟩ := l2 B r
  refine ⟨B2, C.or C2, r2, x2.trans x, fun a q => q.elim (y a) fun q => x a (y2 a q), fun a q b => q.elim (fun q => z a q (x2 a b)) fun q => z2 a q b, fun I' H' d' B' hs hk r' dd => ?_⟩
  have q := c2 I' H' d' B' hs (fun a o u => hk a o (.inr u)) r' (dd.mono le_r Le.refl)
  refine (c I' H' _ _ hs (fun a o u => hk a o (.inl u)) q fun a u b => b.elim (fun b => z a u (y2 a b)) fun b => dd a (.inl u) b).mono fun a u => ?_
  exact u.elim (fun u => .inl (.inl u)) fun u => u.elim (fun u => .inl (.inr u)) .inr
theorem Rep.lensL {a : Addr} {k : Nat} (r : Rep K mg I H (.lst true ds) (.ref a) A) (e : ds[k]? = some d) :
    ∃ vs w, H a = some (.lst vs) ∧ vs[k]? = some w ∧ Lens K mg I H (fun x => .lst true (ds.set k x)) d (.ref a) w A := by
  cases r with
  | lstO hA h rs hB nB =>
    obtain ⟨w, B, C, h1, h2, h3, h4, h5, h6⟩ := rs.lens e
    refine ⟨_, w, h, h1, B, FP.or (fun x => x = a) C, h2, h3.trans hB, fun x q => q.elim (fun z => z ▸ hA) fun z => hB x (h4 x z), fun x q b => q.elim (fun z => nB (z ▸ h3 x b)) fun z => h5 x z b, fun I' H' d' B' hs hk r' dd => ?_⟩
    exact .lstO (.inl (.inl rfl)) (hk _ _ (.inl rfl) h) (h6 I' H' d' B' hs (fun x o q => hk x o (.inr q)) r' (dd.mono le_r Le.refl)) (fun x q => q.elim (fun z => .inl (.inr z)) .inr) fun q => q.elim (fun z => nB (h4 _ z)) fun z => dd a (.inl rfl) z
theorem Rep.lensT {a : Addr} {k : Nat} (r : Rep K mg I H (.tup ds) (.ref a) A) (e : ds[k]? = some d) :
    ∃ vs w, I a = some (.tup vs) ∧ vs.length = ds.length ∧ vs[k]? = some w ∧ Lens K mg I H (fun x => .tup (ds.set k x)) d (.ref a) w A := by
  cases r with
  | tup h rs =>
    obtain ⟨w, B, C, h1, h2, h3, h4, h5, h6⟩ := rs.lens e
    exact ⟨_, w, h, rs.length.symm, h1, B, C, h2, h3, h4, h5, fun I' H' d' B' hs hk r' dd => .tup (hs _ _ h) (h6 I' H' d' B' hs hk r' dd)⟩
theorem Rep.lensI {a : Addr} {k : Nat} {c : Str} {fs : List Str} (r : Rep K mg I H (.ins true c fs ds) (.ref a) A) (e : ds[k]? = some d) :
    ∃ C dx fvs w, H a = some (.ins C dx fvs) ∧ mg c = some (.ref C) ∧ fvs.map (·.1) = fs ∧ (fvs.map (·.2))[k]? = some w ∧ Lens K mg I H (fun x => .ins true c fs (ds.set k x)) d (.ref a) w A := by
  cases r with
  | insO hA h hc hk0 rs hB nB =>
    obtain ⟨w, B, C, h1, h2, h3, h4, h5, h6⟩ := rs.lens e
    refine ⟨_, _, _, w, h, hc, hk0, h1, B, FP.or (fun x => x = a) C, h2, h3.trans hB, fun x q => q.elim (fun z => z ▸ hA) fun z => hB x (h4 x z), fun x q b => q.elim (fun z => nB (z ▸ h3 x b)) fun z => h5 x z b, fun I' H' d' B' hs hk r' dd => ?_⟩
    exact .insO (.inl (.inl rfl)) (hk _ _ (.inl rfl) h) hc hk0 (h6 I' H' d' B' hs (fun x o q => hk x o (.inr q)) r' (dd.mono le_r Le.refl)) (fun x q => q.elim (fun z => .inl (.inr z)) .inr) fun q => q.elim (fun z => nB (h4 _ z)) fun z => dd a (.inl rfl) z

/-! ### what an expression hands on -/
inductive Opd where
  | tmp (d : D)
  | nm (i : Nat)
  | plc (i : Nat) (g : D → D) (d : D)
def ORep (K : PySem.W.Frag) (mg : Str → Option Value) (I H : Hp) (δ : Env) (σ : St) (F : FF) (o : Opd) (v : V) (B : FP) : Prop :=
  match o with
  | .tmp d => Rep K mg I H d v B
  | .nm i => σ[i]? = some (some v) ∧ B = no
  | .plc i g d => B = no ∧ ∃ sl v0, δ[i]? = some sl ∧ sl.d = g d ∧ σ[i]? = some (some v0) ∧ Lens K mg I H g d v0 v (F i)

inductive R (α : Type) where
  | ok (a : α) (δ : Env) | er (x : D) (δ : Env) | stk

/-! ### locks -/
def setLk (δ : Env) (i : Nat) (b : Bool) : Env := match δ[i]? with
  | some s => δ.set i ⟨s.io, b, s.d⟩
  | none => δ
def lkAt (δ : Env) (i : Nat) : Bool := match δ[i]? with
  | some s => s.lk
  | none => false
def lockO (o : Opd) (δ : Env) : Env := match o with
  | .plc i _ _ => setLk δ i true
  | _ => δ
def unlockO (o : Opd) (δ0 δ : Env) : Env := match o with
  | .plc i _ _ => setLk δ i (lkAt δ0 i)
  | _ => δ
theorem setLk_len {b : Bool} : (setLk δ i b).length = δ.length := by
  unfold setLk; split <;> simp
theorem setLk_ne {b : Bool} {j : Nat} (h : j ≠ i) : (setLk δ i b)[j]? = δ[j]? := by
  unfold setLk; split
  · rw [List.getElem?_set_ne (Ne.symm h)]
  · rfl
theorem setLk_eq {b : Bool} (e : δ[i]? = some sl) : (setLk δ i b)[i]? = some ⟨sl.io, b, sl.d⟩ := by
  unfold setLk; rw [e]
  exact List.getElem?_set_self (List.getElem?_eq_some_iff.mp e).1
theorem setLk_inv {b : Bool} {j : Nat} (e : (setLk δ i b)[j]? = some sl) : ∃ s0, δ[j]? = some s0 ∧ s0.d = sl.d ∧ s0.io = sl.io ∧ (j ≠ i → s0 = sl) ∧ (j = i → sl.lk = b) := by
  by_cases h : j = i
  · subst h
    cases q : δ[j]? with
    | none => unfold setLk at e; rw [q] at e; simp only at e; rw [q] at e; cases e
    | some s0 => rw [setLk_eq q] at e; cases e; exact ⟨s0, rfl, rfl, rfl, fun z => absurd rfl z, fun _ => rfl⟩
  · rw [setLk_ne h] at e
    exact ⟨sl, e, rfl, rfl, fun _ => rfl, fun z => absurd z h⟩
theorem Stt.setLk {b : Bool} (s : Stt K mg I H δ σ F) : Stt K mg I H (setLk δ i b) σ F :=
  ⟨s.sub, s.own, s.dis, fun j sl e => by obtain ⟨s0, e0, h, _⟩ := setLk_inv e; rw [← h]; exact s.rep j s0 e0, fun j h => s.emp j (by rw [setLk_len] at h; exact h), by rw [setLk_len]; exact s.len⟩
theorem setLk_fl {b : Bool} (e : δ[i]? = some sl) (hb : sl.lk = b) : setLk δ i b = δ := by
  unfold DL.setLk; rw [e]
  refine List.ext_getElem? fun j => ?_
  by_cases q : j = i
  · subst q; rw [List.getElem?_set_self (List.getElem?_eq_some_iff.mp e).1, e]; cases sl; simp at hb; simp [hb]
  · rw [List.getElem?_set_ne (Ne.symm q)]
theorem Go.unlock (g : Go K mg I H (DL.setLk δ i true) σ F I1 H1 δ1 σ1 F1 B) : Go K mg I H δ σ F I1 H1 (DL.setLk δ1 i (lkAt δ i)) σ1 F1 B := by
  have hfl := g.fl
  refine ⟨g.st.setLk, g.ev.mono (fun a ⟨j, s, e, l, z⟩ => ?_) fun a h => ?_, g.own, g.dis, fun j s e l => ?_, fun j s e l => ?_, ?_⟩
  · obtain ⟨s0, e0, _, _, h1, h2⟩ := setLk_inv e
    by_cases q : j = i
    · rw [h2 q] at l; cases l
    · rw [← h1 q] at l; exact ⟨j, s0, e0, l, z⟩
  · rcases h with ⟨j, s, e, l, z⟩ | h
    · obtain ⟨s0, e0, _, _, h1, h2⟩ := setLk_inv e
      by_cases q : j = i
      · subst q
        rw [h2 rfl] at l
        obtain ⟨s2, e2, _, _⟩ := fl_some g.fl e0
        obtain ⟨s3, e3, _, _, _, h4⟩ := setLk_inv e2
        rw [(g.lk j s2 e2 (h4 rfl)).2.1] at z
        refine .inr (.inl ⟨j, s3, e3, ?_, z⟩)
        unfold lkAt at l; rw [e3] at l; exact l
      · exact .inl (.inl ⟨j, s, (h1 q) ▸ e0, l, z⟩)
    · exact .inl (.inr h)
  · by_cases q : j = i
    · subst q
      have e2 := setLk_eq (b := true) e
      have es : (⟨s.io, true, s.d⟩ : Sl) = s := by cases s; simp at l; simp [l]
      rw [es] at e2
      obtain ⟨a1, a2, a3⟩ := g.lk j s e2 l
      refine ⟨?_, a2, a3⟩
      have hl : lkAt δ j = s.lk := by unfold lkAt; rw [e]
      rw [hl, setLk_fl a1 rfl]; exact a1
    · rw [setLk_ne q]
      exact g.lk j s (by rw [setLk_ne q]; exact e) l
  · by_cases q : j = i
    · subst q
      exact g.io j _ (setLk_eq e) l
    · exact g.io j s (by rw [setLk_ne q]; exact e) l
  · refine List.ext_getElem? fun j => ?_
    have hj : (δ1.map Sl.fl)[j]? = ((DL.setLk δ i true).map Sl.fl)[j]? := by rw [g.fl]
    by_cases q : j = i
    · subst q
      rw [List.getElem?_map, List.getElem?_map] at hj ⊢
      cases e : δ[j]? with
      | none =>
        have : (DL.setLk δ j true)[j]? = none := by rw [List.getElem?_eq_none_iff, setLk_len]; exact List.getElem?_eq_none_iff.mp e
        rw [this] at hj
        cases e1 : δ1[j]? with
        | none => have : (DL.setLk δ1 j (lkAt δ j))[j]? = none := by rw [List.getElem?_eq_none_iff, setLk_len]; exact List.getElem?_eq_none_iff.mp e1
                  rw [this]
        | some s1 => rw [e1] at hj; cases hj
      | some s =>
        rw [setLk_eq e] at hj
        cases e1 : δ1[j]? with
        | none => rw [e1] at hj; cases hj
        | some s1 =>
          rw [e1] at hj
          rw [setLk_eq e1]
          have hl : lkAt δ j = s.lk := by unfold lkAt; rw [e]
          simp only [Sl.fl, Option.map_some, Option.some.injEq, Prod.mk.injEq] at hj
          simp [Sl.fl, hl, hj.1]
    · rw [List.getElem?_map, List.getElem?_map, setLk_ne q] at *
      rw [hj]
end
end DL

set_option linter.all false
set_option autoImplicit false
namespace DL
open PySem PySem.Spec L2
open PyProof.Rows hiding St

/-- an exception in the air: its class, its own dict -/
def XRep (K : PySem.W.Frag) (mg : Str → Option Value) (I H : Hp) (x : D) (cls : Value) (dx : Option Addr) : Prop :=
  match x with
  | .exn c [] [] => ∃ C, mg c = some (.ref C) ∧ cls = .ref C ∧ dx = none
  | .exn c (f :: fs) xs => ∃ C d fvs, mg c = some (.ref C) ∧ cls = .ref C ∧ dx = some d ∧ I d = some (.xd fvs) ∧ fvs.map (·.1) = f :: fs ∧ Reps K mg I H xs (fvs.map (·.2)) no
  | _ => False

def R.bind {α β : Type} (r : R α) (k : α → Env → R β) : R β := match r with
  | .ok a δ => k a δ
  | .er x δ => .er x δ
  | .stk => .stk
def R.mapE {α : Type} (r : R α) (u : Env → Env) : R α := match r with
  | .ok a δ => .ok a (u δ)
  | .er x δ => .er x (u δ)
  | .stk => .stk

abbrev EF := Env → R Opd
abbrev AF := Env → R (List Opd)
abbrev BF := Env → R Bool

section
variable (X : Cx) (W : WX)
def ErO (I H : Hp) (δ : Env) (σ : St) (F : FF) (x : D) (δ' : Env) : Prop :=
  ∀ cls dx I' H' F', Go X.K X.mg I H δ σ F I' H' δ' σ F' no → XRep X.K X.mg I' H' x cls dx → W cls dx σ H'
def EO (I H : Hp) (δ : Env) (σ : St) (F : FF) (Q : VK) (r : R Opd) : Prop := match r with
  | .ok o δ' => ∀ v I' H' F' B, Go X.K X.mg I H δ σ F I' H' δ' σ F' B → ORep X.K X.mg I' H' δ' σ F' o v B → Q v H'
  | .er x δ' => ErO X W I H δ σ F x δ'
  | .stk => False
inductive OReps (I H : Hp) (δ : Env) (σ : St) (F : FF) : List Opd → List V → FP → Prop
  | nil {A} : OReps I H δ σ F [] [] A
  | cons {o os v vs A B C} (r : ORep X.K X.mg I H δ σ F o v B) (rs : OReps I H δ σ F os vs C) (hB : Le B A) (hC : Le C A) (dis : Dis B C) : OReps I H δ σ F (o :: os) (v :: vs) A
def AO (I H : Hp) (δ : Env) (σ : St) (F : FF) (Q : List V → Hp → Prop) (r : R (List Opd)) : Prop := match r with
  | .ok os δ' => ∀ vs I' H' F' B, Go X.K X.mg I H δ σ F I' H' δ' σ F' B → OReps X I' H' δ' σ F' os vs B → Q vs H'
  | .er x δ' => ErO X W I H δ σ F x δ'
  | .stk => False
def TO (I H : Hp) (δ : Env) (σ : St) (F : FF) (Q : Bool → Hp → Prop) (r : R Bool) : Prop := match r with
  | .ok b δ' => ∀ I' H' F', Go X.K X.mg I H δ σ F I' H' δ' σ F' no → Q b H'
  | .er x δ' => ErO X W I H δ σ F x δ'
  | .stk => False
def SE (t : TE) (f : EF) : Prop := ∀ I H δ σ F Q, Stt X.K X.mg I H δ σ F → EO X W I H δ σ F Q (f δ) → t σ H Q
def SA (t : TA) (f : AF) : Prop := ∀ I H δ σ F Q, Stt X.K X.mg I H δ σ F → AO X W I H δ σ F Q (f δ) → t σ H Q
def SB (t : TT) (f : BF) : Prop := ∀ I H δ σ F Q, Stt X.K X.mg I H δ σ F → TO X W I H δ σ F Q (f δ) → t σ H Q
def DE (e : Expr) (f : EF) : Prop := ∃ t, PE X e t ∧ SE X W t f
def DA (es : List Expr) (f : AF) : Prop := ∃ t, PA X es t ∧ SA X W t f
def DB (e : Expr) (f : BF) : Prop := ∃ t, PT X e t ∧ SB X W t f
end

section
variable {X : Cx} {W : WX} {I H I1 H1 I2 H2 : Hp} {δ δ1 δ2 : Env} {σ σ1 σ2 : St} {F F1 F2 : FF} {A B B1 B2 C : FP} {d : D} {v : V} {i : Nat} {sl : Sl}
theorem ErO.trans {x : D} (g : Go X.K X.mg I H δ σ F I1 H1 δ1 σ F1 B) (h : ErO X W I H δ σ F x δ2) : ErO X W I1 H1 δ1 σ F1 x δ2 :=
  fun cls dx I' H' F' g' r => h cls dx I' H' F' ((g.trans g').less no_le) r

/-- an operand stays, while what follows is done (an inner place: locked) -/
theorem ORep.stay {o : Opd} (r : ORep X.K X.mg I1 H1 δ1 σ F1 o v B) (g : Go X.K X.mg I H δ σ F I1 H1 δ1 σ F1 B) (g2 : Go X.K X.mg I1 H1 (lockO o δ1) σ F1 I2 H2 δ2 σ F2 C) :
    Go X.K X.mg I H δ σ F I2 H2 (unlockO o δ1 δ2) σ F2 (B.or C) ∧ Dis B C ∧ ORep X.K X.mg I2 H2 (unlockO o δ1 δ2) σ F2 o v B := by
  cases o with
  | tmp d =>
    obtain ⟨k1, k2, k3, k4⟩ := g2.keep g.own g.dis
    exact ⟨g.trans g2, k3.symm, Rep.frame g2.ev.inc r k4⟩
  | nm i => exact ⟨g.trans g2, r.2 ▸ no_dis, r⟩
  | plc i p d =>
    obtain ⟨rfl, sl, v0, e, ed, es, l⟩ := r
    have gu := g2.unlock
    obtain ⟨b1, b2, b3⟩ := g2.lk i _ (setLk_eq e) rfl
    have e1 := setLk_eq (b := lkAt δ1 i) b1
    refine ⟨g.trans gu, no_dis, rfl, _, v0, e1, ed, es, ?_⟩
    rw [b2]
    refine l.frame g2.ev.inc (fun a o q h => g2.ev.out a o h ?_ ((g.st.own i).at q h)) fun a q => (g.st.own i a q).1.elim fun o z => ⟨o, z.1⟩
    rintro ⟨j, s, ej, lj, z⟩
    by_cases q2 : j = i
    · subst q2
      have ej' : (setLk δ1 j true)[j]? = some s := ej
      rw [setLk_eq e] at ej'; cases ej'; cases lj
    · exact g.st.dis j i q2 a z q
theorem ErO.unlock {x : D} {o : Opd} (r : ORep X.K X.mg I1 H1 δ1 σ F1 o v B) (g : Go X.K X.mg I H δ σ F I1 H1 δ1 σ F1 B) (h : ErO X W I H δ σ F x (unlockO o δ1 δ2)) : ErO X W I1 H1 (lockO o δ1) σ F1 x δ2 :=
  fun cls dx I' H' F' g' q => h cls dx I' H' F' ((r.stay g g').1.less no_le) q

/-- an inner place is locked while the rest is reckoned -/
theorem Stt.lockO {o : Opd} (s : Stt X.K X.mg I H δ σ F) : Stt X.K X.mg I H (DL.lockO o δ) σ F := by
  cases o with
  | plc i p d => exact s.setLk
  | _ => exact s

/-! ### argument lists -/
def eNil : AF := fun δ => .ok [] δ
def eCons (f : EF) (fr : AF) : AF := fun δ => (f δ).bind fun o δ1 => ((fr (lockO o δ1)).mapE (unlockO o δ1)).bind fun os δ2 => .ok (o :: os) δ2
theorem sa_nil : SA X W tNil eNil := fun I H δ σ F Q s h => h [] I H F no (Go.refl s) .nil
theorem OReps.mono {os : List Opd} {vs : List V} (r : OReps X I H δ σ F os vs A) (h : Le A B) : OReps X I H δ σ F os vs B := by
  cases r with
  | nil => exact .nil
  | cons r rs x y z => exact .cons r rs (x.trans h) (y.trans h) z
theorem sa_cons {te : TE} {tr : TA} {f : EF} {fr : AF} (h1 : SE X W te f) (h2 : SA X W tr fr) : SA X W (tCons te tr) (eCons f fr) := by
  intro I H δ σ F Q s h
  refine h1 I H δ σ F _ s ?_
  unfold eCons at h
  cases q : f δ with
  | stk => rw [q] at h; exact h.elim
  | er x δ' => rw [q] at h; exact h
  | ok o δ1 =>
    rw [q] at h
    intro v I1 H1 F1 B g r
    refine h2 I1 H1 (lockO o δ1) σ F1 _ g.st.lockO ?_
    change AO X W I H δ σ F Q (((fr (lockO o δ1)).mapE (unlockO o δ1)).bind fun os δ2 => .ok (o :: os) δ2) at h
    cases q2 : fr (lockO o δ1) with
    | stk => rw [q2] at h; exact h.elim
    | er x δ2 =>
      rw [q2] at h
      exact ErO.unlock r g h
    | ok os δ2 =>
      rw [q2] at h
      intro vs I2 H2 F2 C g2 rs
      obtain ⟨g3, dd, r3⟩ := r.stay g g2
      refine h (v :: vs) I2 H2 F2 _ g3 (.cons (C := C) r3 ?_ le_l le_r dd)
      -- the later operands, unlocked
      clear h q2
      have : ∀ {os : List Opd} {vs : List V} {C : FP}, OReps X I2 H2 δ2 σ F2 os vs C → OReps X I2 H2 (unlockO o δ1 δ2) σ F2 os vs C := by
        intro os vs C rs
        induction rs with
        | nil => exact .nil
        | cons r rs x y z ih =>
          refine .cons ?_ ih x y z
          rename_i o' _ _ _ _ _ _
          cases o' with
          | tmp d => exact r
          | nm i => exact r
          | plc i p d =>
            obtain ⟨rfl, sl, v0, e, ed, es, l⟩ := r
            cases o with
            | plc j p' d' =>
              by_cases q : i = j
              · subst q; exact ⟨rfl, _, v0, setLk_eq e, ed, es, l⟩
              · exact ⟨rfl, sl, v0, by show (setLk δ2 j _)[i]? = _; rw [setLk_ne q]; exact e, ed, es, l⟩
            | _ => exact ⟨rfl, sl, v0, e, ed, es, l⟩
      exact this rs
theorem da_nil : DA X W [] eNil := ⟨_, pa_nil, sa_nil⟩
theorem da_cons {e : Expr} {es : List Expr} {f : EF} {fr : AF} (h1 : DE X W e f) (h2 : DA X W es fr) (hs : starEach (e :: es) X.env = (false, eval e X.env) :: starEach es X.env := by rfl) : DA X W (e :: es) (eCons f fr) :=
  let ⟨t, p, q⟩ := h1; let ⟨u, p2, q2⟩ := h2; ⟨_, pa_cons p p2 hs, sa_cons q q2⟩

/-! ### reading operands -/
def rdO (o : Opd) (δ : Env) : Option D := match o with
  | .tmp d => some d
  | .nm i => match δ[i]? with
    | some s => match s.d with
      | .hole => none
      | d => some d
    | none => none
  | .plc _ _ d => some d
def rdL : List Opd → Env → Option (List D)
  | [], _ => some []
  | o :: os, δ => match rdO o δ, rdL os δ with
    | some d, some ds => some (d :: ds)
    | _, _ => none
/-- what is read: each by itself -/
inductive RdS (K : PySem.W.Frag) (mg : Str → Option Value) (I H : Hp) : List D → List V → Prop
  | nil : RdS K mg I H [] []
  | cons {d ds v vs} (B : FP) (r : Rep K mg I H d v B) (ho : Own I H B) (rs : RdS K mg I H ds vs) : RdS K mg I H (d :: ds) (v :: vs)
theorem rd_ok {o : Opd} (s : Stt X.K X.mg I H δ σ F) (ho : Own I H B) (r : ORep X.K X.mg I H δ σ F o v B) (e : rdO o δ = some d) : ∃ C, Rep X.K X.mg I H d v C ∧ Own I H C ∧ (Le C B ∨ ∃ i, Le C (F i)) := by
  cases o with
  | tmp d' => simp only [rdO, Option.some.injEq] at e; subst e; exact ⟨B, r, ho, .inl Le.refl⟩
  | nm i =>
    cases q : δ[i]? with
    | none => simp only [rdO, q] at e; cases e
    | some s0 =>
      simp only [rdO, q] at e
      have hd : s0.d ≠ .hole ∧ s0.d = d := by
        split at e
        · cases e
        · rename_i hne; cases e; exact ⟨fun z => hne z, rfl⟩
      rcases s.rep i s0 q with z | ⟨v', e1, r'⟩
      · exact absurd z hd.1
      · obtain ⟨r1, _⟩ := r
        rw [r1] at e1; cases e1
        exact ⟨F i, hd.2 ▸ r', s.own i, .inr ⟨i, Le.refl⟩⟩
  | plc i p d' =>
    simp only [rdO, Option.some.injEq] at e; subst e
    obtain ⟨_, sl, v0, e, ed, es, B', C', r', h1, _⟩ := r
    exact ⟨B', r', (s.own i).mono h1, .inr ⟨i, h1⟩⟩
theorem rdL_ok : ∀ {os : List Opd} {vs : List V} {B : FP} {ds : List D}, Stt X.K X.mg I H δ σ F → Own I H B → OReps X I H δ σ F os vs B → rdL os δ = some ds → RdS X.K X.mg I H ds vs
  | _, _, _, _, _, _, .nil, e => by simp only [rdL, Option.some.injEq] at e; subst e; exact .nil
  | _, _, _, _, s, ho, .cons (o := o) (os := os) r rs x y z, e => by
    unfold rdL at e
    cases q1 : rdO o δ with
    | none => rw [q1] at e; cases e
    | some d =>
      cases q2 : rdL os δ with
      | none => rw [q1, q2] at e; cases e
      | some ds' =>
        rw [q1, q2] at e; cases e
        obtain ⟨C, r', o', _⟩ := rd_ok s (ho.mono x) r q1
        exact .cons C r' o' (rdL_ok s (ho.mono y) rs q2)

/-! ### a new value -/
structure NewV (K : PySem.W.Frag) (mg : Str → Option Value) (I H : Hp) (d : D) (v : V) (I' H' : Hp) (B : FP) : Prop where
  ev : Ev I H no I' H' B
  sub : SubH K I' H'
  own : Own I' H' B
  rep : Rep K mg I' H' d v B
theorem Ev.new_foot {I' H' : Hp} (e : Ev I H no I' H' B) {a : Addr} (h : B a) : H a = none := (e.foot a h).elim (fun z => z.elim) id
theorem Go.new (s : Stt X.K X.mg I H δ σ F) {I' H' : Hp} (n : NewV X.K X.mg I H d v I' H' B) : Go X.K X.mg I H δ σ F I' H' δ σ F B := by
  have st : ∀ a o, H a = some o → NTb o → H' a = some o := fun a o h => n.ev.out a o h fun z => z
  have dd : ∀ i, Dis (F i) B := fun i a x y => by
    obtain ⟨⟨o, e, te⟩, _⟩ := s.own i a x
    rw [n.ev.new_foot y] at e; cases e
  refine ⟨⟨n.sub, fun i a x => ?_, s.dis, fun i sl e => ?_, s.emp, s.len⟩, n.ev.mono no_le fun a q => q.elim (fun z => .inr (.inl z)) .inl, n.own, dd, fun _ _ h _ => ⟨h, rfl, rfl⟩, fun _ _ _ _ => rfl, rfl⟩
  · obtain ⟨⟨o, e, te⟩, hn⟩ := s.own i a x
    refine ⟨⟨o, st a o e te, te⟩, ?_⟩
    cases q : I' a with
    | none => rfl
    | some u =>
      rcases n.ev.ice a (by rw [q]; exact fun z => nomatch z) with z | z | z
      · exact absurd hn z
      · exact z.elim
      · rw [e] at z; cases z
  · rcases s.rep i sl e with z | ⟨v, h1, h2⟩
    · exact .inl z
    · exact .inr ⟨v, h1, h2.frame n.ev.inc fun a o q h => st a o h ((s.own i).at q h)⟩
theorem NewV.same (h : SubH X.K I H) (r : Rep X.K X.mg I H d v no) : NewV X.K X.mg I H d v I H no := ⟨Ev.refl, h, own_no, r⟩

/-- a rule by values, read: its answer is g's -/
def Snd (X : Cx) (r : List V → Hp → VK → Prop) (g : List D → Option D) : Prop :=
  ∀ I H ds vs d Q, SubH X.K I H → RdS X.K X.mg I H ds vs → g ds = some d → (∀ v I' H' B, NewV X.K X.mg I H d v I' H' B → Q v H') → r vs H Q
def eRd (g : List D → Option D) (fa : AF) : EF := fun δ => (fa δ).bind fun os δ1 => match rdL os δ1 with
  | some ds => match g ds with
    | some d => .ok (.tmp d) δ1
    | none => .stk
  | none => .stk
theorem se_rd {r : List V → Hp → VK → Prop} {g : List D → Option D} {t : TA} {fa : AF} (h1 : Snd X r g) (h2 : SA X W t fa) : SE X W (fun σ H Q => t σ H fun vs H1 => r vs H1 Q) (eRd g fa) := by
  intro I H δ σ F Q s h
  refine h2 I H δ σ F _ s ?_
  unfold eRd at h
  cases q : fa δ with
  | stk => rw [q] at h; exact h.elim
  | er x δ' => rw [q] at h; exact h
  | ok os δ1 =>
    rw [q] at h
    intro vs I1 H1 F1 B go rs
    change EO X W I H δ σ F Q (match rdL os δ1 with
      | some ds => match g ds with
        | some d => .ok (.tmp d) δ1
        | none => .stk
      | none => .stk) at h
    cases q2 : rdL os δ1 with
    | none => rw [q2] at h; exact h.elim
    | some ds =>
      cases q3 : g ds with
      | none => rw [q2] at h; simp only [q3] at h; exact h.elim
      | some d =>
        rw [q2] at h; simp only [q3] at h
        refine h1 I1 H1 ds vs d Q go.st.sub (rdL_ok go.st go.own rs q2) q3 fun v I' H' B' n => ?_
        exact h v I' H' F1 B' ((go.trans (Go.new go.st n)).less le_r) n.rep

/-! ### names, constants -/
def eN (i : Nat) : EF := fun δ => match δ[i]? with
  | some s => match s.d with
    | .hole => .stk
    | d => if ice d = true then .ok (.tmp d) δ else .ok (.nm i) δ
  | none => .stk
theorem de_name {i : Nat} {x : Str} {pos : Pos} (hN : X.N[i]? = some x) (hv : Vis X.env.scope x) (hd : (x == ("__debug__" : Str)) = false := by decide) (hcd : (x == ("__classdict__" : Str)) = false := by decide) : DE X W (.Name x pos) (eN i) := by
  refine ⟨_, pe_var hN hv hd hcd, fun I H δ σ F Q s h => ?_⟩
  unfold eN at h
  cases q : δ[i]? with
  | none => rw [q] at h; exact h.elim
  | some s0 =>
    rw [q] at h
    have key : s0.d ≠ .hole → (EO X W I H δ σ F Q (if ice s0.d = true then .ok (.tmp s0.d) δ else .ok (.nm i) δ)) → tVar i σ H Q := fun hh h => by
      rcases s.rep i s0 q with z | ⟨v, h1, h2⟩
      · exact absurd z hh
      · refine ⟨v, h1, ?_⟩
        by_cases hi : ice s0.d = true
        · rw [if_pos hi] at h
          exact h v I H F no (Go.refl s) (h2.ice hi)
        · rw [if_neg hi] at h
          exact h v I H F no (Go.refl s) ⟨h1, rfl⟩
    simp only at h
    split at h
    · exact h.elim
    · rename_i hne
      exact key (fun z => hne z) h
def eMv (i : Nat) : EF := fun δ => match δ[i]? with
  | some s => match s.d with
    | .hole => .stk
    | d => if s.io || s.lk then .stk else .ok (.tmp d) (δ.set i ⟨false, false, .hole⟩)
  | none => .stk
theorem de_move {i : Nat} {x : Str} {pos : Pos} (hN : X.N[i]? = some x) (hv : Vis X.env.scope x) (hd : (x == ("__debug__" : Str)) = false := by decide) (hcd : (x == ("__classdict__" : Str)) = false := by decide) : DE X W (.Name x pos) (eMv i) := by
  refine ⟨_, pe_var hN hv hd hcd, fun I H δ σ F Q s h => ?_⟩
  unfold eMv at h
  cases q : δ[i]? with
  | none => rw [q] at h; exact h.elim
  | some s0 =>
    rw [q] at h
    have key : s0.d ≠ .hole → (EO X W I H δ σ F Q (if (s0.io || s0.lk) = true then .stk else .ok (.tmp s0.d) (δ.set i ⟨false, false, .hole⟩))) → tVar i σ H Q := fun hh h => by
      rcases s.rep i s0 q with z | ⟨v, h1, h2⟩
      · exact absurd z hh
      · refine ⟨v, h1, ?_⟩
        by_cases hf : (s0.io || s0.lk) = true
        · rw [if_pos hf] at h; exact h.elim
        · rw [if_neg hf] at h
          simp only [Bool.or_eq_true, not_or, Bool.not_eq_true] at hf
          have g := (Go.refl s).put (d := .hole) (B := no) (σ2 := σ) q hf.2 (.inl rfl) own_no (fun _ _ => dis_no) no_le (fun _ _ => rfl) rfl (fun _ => rfl)
          rw [hf.1] at g
          refine h v I H _ (F i) ⟨g.st, g.ev.mono Le.refl fun a w => ?_, s.own i, fun j => ?_, g.lk, g.io, g.fl⟩ h2
          · rcases w with w | w
            · exact .inl (.inl w)
            · exact .inr (.inl ⟨i, s0, q, hf.2, w⟩)
          · by_cases q2 : j = i
            · subst q2; rw [FF.set_same]; exact no_dis
            · rw [FF.set_ne q2]; exact s.dis j i q2
    simp only at h
    split at h
    · exact h.elim
    · rename_i hne
      exact key (fun z => hne z) h
def eC (d : D) : EF := fun δ => .ok (.tmp d) δ
theorem se_c (hr : ∀ I H, Rep X.K X.mg I H d v no) : SE X W (tC v) (eC d) := fun I H δ σ F Q s h => h v I H F no (Go.refl s) (hr I H)
theorem de_int {i : Int} {j : Nat} {pos : Pos} : DE X W (.Constant (.int i) j pos) (eC (.int i)) := ⟨_, pe_int, se_c fun _ _ => .int⟩
end
end DL

set_option linter.all false
set_option autoImplicit false
namespace DL
open PySem PySem.Spec L2
open PyProof.Rows hiding St

section
variable {X : Cx} {W : WX} {I H I1 H1 I2 H2 : Hp} {δ δ1 δ2 : Env} {σ σ1 σ2 : St} {F F1 F2 : FF} {A B B1 B2 C : FP} {d : D} {v : V} {i : Nat} {sl : Sl}

/-! ### freezing -/
open Classical in
theorem freeze_at {g : D → D} {v0 : V} (s : Stt X.K X.mg I H δ σ F) (e : δ[i]? = some sl) (nl : sl.lk = false) (es : σ[i]? = some (some v0)) (l : Lens X.K X.mg I H g d v0 v (F i)) :
    ∃ I' F', Go X.K X.mg I H δ σ F I' H (δ.set i ⟨sl.io, false, g (fz d)⟩) σ F' no ∧ Rep X.K X.mg I' H (fz d) v no := by
  obtain ⟨B, C, r, x, y, z, w⟩ := l
  have hi : i < δ.length := (List.getElem?_eq_some_iff.mp e).1
  let I' : Hp := fun a => if B a then H a else I a
  have hB : ∀ a, B a → I' a = H a := fun a q => by show (if B a then H a else I a) = _; rw [if_pos q]
  have hN : ∀ a, ¬ B a → I' a = I a := fun a q => by show (if B a then H a else I a) = _; rw [if_neg q]
  have inc : Sub I I' := fun a o h => by
    by_cases q : B a
    · rw [((s.own i) a (x a q)).2] at h; cases h
    · rw [hN a q]; exact h
  have rz : Rep X.K X.mg I' H (fz d) v no := r.freeze inc fun a o q h => by rw [hB a q]; exact h
  have rg := w I' H (fz d) no inc (fun _ _ _ h => h) rz dis_no
  refine ⟨I', F.set i C, ⟨⟨s.sub.freeze (s.own i) x hB hN, fun j a q => ?_, fun j k n => ?_, fun j s0 e0 => ?_, fun j h => ?_, by simpa using s.len⟩, ⟨inc, fun _ _ h _ _ => h, fun _ ps h => ⟨ps, h⟩, fun a h => ?_, fun a h => ?_⟩, own_no, fun _ => dis_no, fun j s0 e0 l0 => ?_, fun _ _ _ _ => rfl, ?_⟩, rz⟩
  · by_cases q2 : j = i
    · subst q2; rw [FF.set_same] at q
      exact ⟨(s.own j a (y a q)).1, by rw [hN a (z a q)]; exact (s.own j a (y a q)).2⟩
    · rw [FF.set_ne q2] at q
      exact ⟨(s.own j a q).1, by rw [hN a fun b => s.dis j i q2 a q (x a b)]; exact (s.own j a q).2⟩
  · by_cases q : j = i
    · subst q; rw [FF.set_same, FF.set_ne (Ne.symm n)]; exact (s.dis j k n).mono y Le.refl
    · rw [FF.set_ne q]
      by_cases q2 : k = i
      · subst q2; rw [FF.set_same]; exact (s.dis j k n).mono Le.refl y
      · rw [FF.set_ne q2]; exact s.dis j k n
  · by_cases q : j = i
    · subst q
      rw [List.getElem?_set_self hi] at e0; cases e0
      rw [FF.set_same]
      exact .inr ⟨v0, es, rg.mono fun a q => q.elim id fun q => q.elim⟩
    · rw [List.getElem?_set_ne (Ne.symm q)] at e0
      rw [FF.set_ne q]
      rcases s.rep j s0 e0 with h | ⟨v', h1, h2⟩
      · exact .inl h
      · exact .inr ⟨v', h1, h2.frame inc fun _ _ _ h => h⟩
  · rw [List.length_set] at h
    rw [FF.set_ne (by omega)]; exact s.emp j h
  · rcases h with ⟨j, s0, e0, l0, q⟩ | h
    · by_cases q2 : j = i
      · subst q2; rw [FF.set_same] at q; exact .inl ⟨j, sl, e, nl, y a q⟩
      · rw [FF.set_ne q2] at q
        rw [List.getElem?_set_ne (Ne.symm q2)] at e0
        exact .inl ⟨j, s0, e0, l0, q⟩
    · exact h.elim
  · by_cases q : B a
    · exact .inr (.inl ⟨i, sl, e, nl, x a q⟩)
    · rw [hN a q] at h; exact .inl h
  · have q : j ≠ i := fun q => by subst q; rw [e] at e0; cases e0; rw [nl] at l0; cases l0
    exact ⟨by rw [List.getElem?_set_ne (Ne.symm q)]; exact e0, FF.set_ne q, rfl⟩
  · rw [List.map_set]
    refine List.ext_getElem? fun j => ?_
    by_cases q : j = i
    · subst q
      rw [List.getElem?_set_self (by simpa using hi), List.getElem?_map, e]
      simp [Sl.fl, nl]
    · rw [List.getElem?_set_ne (Ne.symm q)]

def vlO (o : Opd) (δ : Env) : R D := match o with
  | .tmp d => .ok d δ
  | .nm i => match δ[i]? with
    | some s => match s.lk, s.d with
      | true, _ => .stk
      | false, .hole => .stk
      | false, d => .ok (fz d) (δ.set i ⟨s.io, false, fz d⟩)
    | none => .stk
  | .plc i g d => match δ[i]? with
    | some s => match s.lk with
      | true => .stk
      | false => .ok (fz d) (δ.set i ⟨s.io, false, g (fz d)⟩)
    | none => .stk
theorem vl_no {o : Opd} {x : D} : vlO o δ ≠ .er x δ1 := by
  cases o with
  | tmp d => simp [vlO]
  | nm i => simp only [vlO]; split <;> (try split) <;> simp
  | plc i g d => simp only [vlO]; split <;> (try split) <;> simp
theorem vl_ok {o : Opd} (go : Go X.K X.mg I H δ σ F I1 H1 δ1 σ F1 B) (r : ORep X.K X.mg I1 H1 δ1 σ F1 o v B) (e : vlO o δ1 = .ok d δ2) :
    ∃ I2 F2 B2, Go X.K X.mg I H δ σ F I2 H1 δ2 σ F2 B2 ∧ Rep X.K X.mg I2 H1 d v B2 := by
  cases o with
  | tmp d' => simp only [vlO, R.ok.injEq] at e; obtain ⟨rfl, rfl⟩ := e; exact ⟨I1, F1, B, go, r⟩
  | nm i =>
    simp only [vlO] at e
    cases q : δ1[i]? with
    | none => rw [q] at e; cases e
    | some s0 =>
      rw [q] at e
      simp only at e
      split at e
      · cases e
      · cases e
      · rename_i d' hl hh
        simp only [R.ok.injEq] at e
        obtain ⟨rfl, rfl⟩ := e
        rcases go.st.rep i s0 q with z | ⟨v', e1, r'⟩
        · exact absurd z (fun h => hh h)
        · rw [r.1] at e1; cases e1
          obtain ⟨I', F', g2, rz⟩ := freeze_at go.st q hl r.1 (Lens.nil r')
          exact ⟨I', F', _, go.trans g2, rz.mono no_le⟩
  | plc i p d' =>
    simp only [vlO] at e
    obtain ⟨_, sl, v0, e0, ed, es, l⟩ := r
    rw [e0] at e
    simp only at e
    split at e
    · cases e
    · rename_i hl
      simp only [R.ok.injEq] at e
      obtain ⟨rfl, rfl⟩ := e
      obtain ⟨I', F', g2, rz⟩ := freeze_at go.st e0 hl es l
      exact ⟨I', F', _, go.trans g2, rz.mono no_le⟩
/-- the value itself: a place is frozen -/
def eV (f : EF) : EF := fun δ => (f δ).bind fun o δ1 => (vlO o δ1).bind fun d δ2 => .ok (.tmp d) δ2
theorem se_val {t : TE} {f : EF} (h1 : SE X W t f) : SE X W t (eV f) := by
  intro I H δ σ F Q s h
  refine h1 I H δ σ F _ s ?_
  unfold eV at h
  cases q : f δ with
  | stk => rw [q] at h; exact h.elim
  | er x δ' => rw [q] at h; exact h
  | ok o δ1 =>
    rw [q] at h
    intro v I1 H1 F1 B go r
    change EO X W I H δ σ F Q ((vlO o δ1).bind fun d δ2 => .ok (.tmp d) δ2) at h
    cases q2 : vlO o δ1 with
    | stk => rw [q2] at h; exact h.elim
    | er x δ' => exact absurd q2 vl_no
    | ok d δ2 =>
      rw [q2] at h
      obtain ⟨I2, F2, B2, g2, r2⟩ := vl_ok go r q2
      exact h v I2 H1 F2 B2 g2 r2
theorem de_val {e : Expr} {f : EF} (h : DE X W e f) : DE X W e (eV f) := let ⟨t, p, q⟩ := h; ⟨t, p, se_val q⟩
/-- what comes behind eV is a value -/
theorem sv_ok {t : TE} {f : EF} {Q : VK} (h1 : SE X W t f) (s : Stt X.K X.mg I H δ σ F)
    (hok : ∀ d δ', (eV f) δ = .ok (.tmp d) δ' → ∀ v I' H' F' B, Go X.K X.mg I H δ σ F I' H' δ' σ F' B → Rep X.K X.mg I' H' d v B → Q v H')
    (her : ∀ x δ', (eV f) δ = .er x δ' → ErO X W I H δ σ F x δ') (hst : (eV f) δ ≠ .stk) : t σ H Q := by
  refine se_val h1 I H δ σ F Q s ?_
  cases q : eV f δ with
  | stk => exact absurd q hst
  | er x δ' => exact her x δ' q
  | ok o δ' =>
    have : ∃ d, o = .tmp d := by
      unfold eV at q
      cases q1 : f δ with
      | stk => rw [q1] at q; cases q
      | er x δ' => rw [q1] at q; cases q
      | ok o1 δ1 =>
        rw [q1] at q
        change ((vlO o1 δ1).bind fun d δ2 => R.ok (Opd.tmp d) δ2) = _ at q
        cases q2 : vlO o1 δ1 with
        | stk => rw [q2] at q; cases q
        | er x δ' => exact absurd q2 vl_no
        | ok d δ2 => rw [q2] at q; cases q; exact ⟨d, rfl⟩
    obtain ⟨d, rfl⟩ := this
    exact fun v I' H' F' B g r => hok d δ' q v I' H' F' B g r

/-! ### making: temporaries are taken in -/
def tmpL : List Opd → Option (List D)
  | [] => some []
  | .tmp d :: os => match tmpL os with
    | some ds => some (d :: ds)
    | none => none
  | _ :: _ => none
theorem tmpL_ok : ∀ {os : List Opd} {vs : List V} {B : FP} {ds : List D}, OReps X I H δ σ F os vs B → tmpL os = some ds → Reps X.K X.mg I H ds vs B
  | _, _, _, _, .nil, e => by simp only [tmpL, Option.some.injEq] at e; subst e; exact .nil
  | _, _, _, _, .cons (o := o) (os := os) r rs x y z, e => by
    cases o with
    | tmp d =>
      simp only [tmpL] at e
      cases q : tmpL os with
      | none => rw [q] at e; cases e
      | some ds' => rw [q] at e; cases e; exact .cons r (tmpL_ok rs q) x y z
    | nm i => simp [tmpL] at e
    | plc i g d => simp [tmpL] at e
/-- a new value that takes in what lies at B -/
structure NewM (K : PySem.W.Frag) (mg : Str → Option Value) (I H : Hp) (B : FP) (d : D) (v : V) (I' H' : Hp) (B' : FP) : Prop where
  ev : Ev I H B I' H' B'
  sub : SubH K I' H'
  own : Own I' H' B'
  rep : Rep K mg I' H' d v B'
theorem Go.take (g : Go X.K X.mg I H δ σ F I1 H1 δ1 σ1 F1 B) {I' H' : Hp} {B' : FP} (n : NewM X.K X.mg I1 H1 B d v I' H' B') : Go X.K X.mg I H δ σ F I' H' δ1 σ1 F1 B' := by
  have st : ∀ i a o, F1 i a → H1 a = some o → H' a = some o := fun i a o x h => n.ev.out a o h (fun z => g.dis i a x z) ((g.st.own i).at x h)
  have hn : ∀ i a, F1 i a → I' a = none := fun i a x => by
    obtain ⟨⟨o, e, te⟩, hn⟩ := g.st.own i a x
    cases q : I' a with
    | none => rfl
    | some u =>
      rcases n.ev.ice a (by rw [q]; exact fun z => nomatch z) with z | z | z
      · exact absurd hn z
      · exact (g.dis i a x z).elim
      · rw [e] at z; cases z
  refine ⟨⟨n.sub, fun i a x => ?_, g.st.dis, fun i sl e => ?_, g.st.emp, g.st.len⟩, g.ev.trans (n.ev.mono le_r fun a q => ?_), n.own, fun i a x y => ?_, g.lk, g.io, g.fl⟩
  · obtain ⟨⟨o, e, te⟩, _⟩ := g.st.own i a x
    exact ⟨⟨o, st i a o x e, te⟩, hn i a x⟩
  · rcases g.st.rep i sl e with z | ⟨v, h1, h2⟩
    · exact .inl z
    · exact .inr ⟨v, h1, h2.frame n.ev.inc fun a o x h => st i a o x h⟩
  · exact q.elim (fun z => .inr (.inl (.inl z))) .inl
  · obtain ⟨⟨o, e, te⟩, _⟩ := g.st.own i a x
    rcases n.ev.foot a y with z | z
    · exact g.dis i a x z
    · rw [e] at z; cases z
def SndM (X : Cx) (r : List V → Hp → VK → Prop) (mk : List D → Option D) : Prop :=
  ∀ I H ds vs B d Q, SubH X.K I H → Own I H B → Reps X.K X.mg I H ds vs B → mk ds = some d → (∀ v I' H' B', NewM X.K X.mg I H B d v I' H' B' → Q v H') → r vs H Q
def eMk (mk : List D → Option D) (fa : AF) : EF := fun δ => (fa δ).bind fun os δ1 => match tmpL os with
  | some ds => match mk ds with
    | some d => .ok (.tmp d) δ1
    | none => .stk
  | none => .stk
theorem se_mk {r : List V → Hp → VK → Prop} {mk : List D → Option D} {t : TA} {fa : AF} (h1 : SndM X r mk) (h2 : SA X W t fa) : SE X W (fun σ H Q => t σ H fun vs H1 => r vs H1 Q) (eMk mk fa) := by
  intro I H δ σ F Q s h
  refine h2 I H δ σ F _ s ?_
  unfold eMk at h
  cases q : fa δ with
  | stk => rw [q] at h; exact h.elim
  | er x δ' => rw [q] at h; exact h
  | ok os δ1 =>
    rw [q] at h
    intro vs I1 H1 F1 B go rs
    change EO X W I H δ σ F Q (match tmpL os with
      | some ds => match mk ds with
        | some d => .ok (.tmp d) δ1
        | none => .stk
      | none => .stk) at h
    cases q2 : tmpL os with
    | none => rw [q2] at h; exact h.elim
    | some ds =>
      cases q3 : mk ds with
      | none => rw [q2] at h; simp only [q3] at h; exact h.elim
      | some d =>
        rw [q2] at h; simp only [q3] at h
        refine h1 I1 H1 ds vs B d Q go.st.sub go.own (tmpL_ok rs q2) q3 fun v I' H' B' n => ?_
        exact h v I' H' F1 B' (go.take n) n.rep
theorem upd_sub {I H : Hp} {p : Addr} {o : HO} (hs : SubH X.K I H) (hp : H p = none) : Sub I (upd H p o) := fun a u h => by
  rw [upd_ne (ne_of_none (hs a u h) hp)]; exact hs a u h
/-- a new object of one's own, over what lies at B -/
theorem newM_own {p : Addr} {o : HO} (hs : SubH X.K I H) (ho : Own I H B) (hp : H p = none) (hr : Rep X.K X.mg I (upd H p o) d v (FP.or (fun a => a = p) B)) (nt : NTb o := by intro ps z; cases z) : NewM X.K X.mg I H B d v I (upd H p o) (FP.or (fun a => a = p) B) := by
  refine ⟨Ev.of Sub.refl (fun a u h _ => by rw [upd_ne (ne_of_none h hp)]; exact h) (fun a q => q.elim (fun z => .inr (z ▸ hp)) .inl) ( fun a h => .inl h) ho.nt, hs.own hp, fun a q => ?_, hr⟩
  rcases q with rfl | q
  · exact ⟨⟨o, upd_same, nt⟩, hs.new hp⟩
  · obtain ⟨⟨u, e, te⟩, n⟩ := ho a q
    exact ⟨⟨u, by rw [upd_ne (ne_of_none e hp)]; exact e, te⟩, n⟩
theorem reps_new {p : Addr} {o : HO} {ds : List D} {vs : List V} (hp : H p = none) (hr : Reps X.K X.mg I H ds vs B) : Reps X.K X.mg I (upd H p o) ds vs B :=
  hr.frame Sub.refl fun a u _ h => by rw [upd_ne (ne_of_none h hp)]; exact h
def mkLst : List D → Option D := fun ds => if ds.length ≤ sizeLine then some (.lst true ds) else none
theorem snd_lst : SndM X (fun vs H Q => vs.length ≤ sizeLine ∧ ∀ p, H p = none → Q (.ref p) (upd H p (.lst vs))) mkLst := by
  intro I H ds vs B d Q hs ho hr e h
  unfold mkLst at e
  split at e
  · rename_i hl
    cases e
    refine ⟨by rw [← hr.length]; exact hl, fun p hp => h _ I _ _ (newM_own hs ho hp ?_)⟩
    exact .lstO (.inl rfl) upd_same (reps_new hp hr) le_r fun q => by obtain ⟨⟨u, e, te⟩, _⟩ := ho p q; rw [hp] at e; cases e
  · cases e
def mkTup : List D → Option D := fun ds => if ds.length ≤ sizeLine then some (.tup ds) else none
theorem snd_tup : SndM X (fun vs H Q => vs.length ≤ sizeLine ∧ ∀ p, H p = none → Q (.ref p) (upd H p (.tup vs))) mkTup := by
  intro I H ds vs B d Q hs ho hr e h
  unfold mkTup at e
  split at e
  · rename_i hl
    cases e
    refine ⟨by rw [← hr.length]; exact hl, fun p hp => h _ (upd I p (.tup vs)) _ B ⟨Ev.of ?_ (fun a u q _ => by rw [upd_ne (ne_of_none q hp)]; exact q) (fun a q => .inl q) (fun a q => ?_) ho.nt, hs.ice hp, fun a q => ?_, ?_⟩⟩
    · exact fun a u q => by rw [upd_ne (ne_of_none (hs a u q) hp)]; exact q
    · by_cases z : a = p
      · exact .inr (.inr (z ▸ hp))
      · rw [upd_ne z] at q; exact .inl q
    · obtain ⟨⟨u, e, te⟩, n⟩ := ho a q
      have ne := ne_of_none e hp
      exact ⟨⟨u, by rw [upd_ne ne]; exact e, te⟩, by rw [upd_ne ne]; exact n⟩
    · exact .tup upd_same (hr.frame (fun a u q => by rw [upd_ne (ne_of_none (hs a u q) hp)]; exact q) fun a u q e => by rw [upd_ne (ne_of_none e hp)]; exact e)
  · cases e
theorem de_lst {es : List Expr} {fa : AF} {pos : Pos} (h : DA X W es fa) : DE X W (.List es pos) (eMk mkLst fa) := let ⟨_, p, q⟩ := h; ⟨_, pe_lst p, se_mk snd_lst q⟩
theorem de_tup {es : List Expr} {fa : AF} {k : Nat} {pos : Pos} (h : DA X W es fa) : DE X W (.Tuple es k pos) (eMk mkTup fa) := let ⟨_, p, q⟩ := h; ⟨_, pe_tup p, se_mk snd_tup q⟩
end
end DL

set_option linter.all false
set_option autoImplicit false
namespace DL
open PySem PySem.Spec L2
open PyProof.Rows hiding St

inductive Out where
  | nx (δ : Env) | rt (d : D) (δ : Env) | bk (δ : Env) | ct (δ : Env) | er (x : D) (δ : Env) | stk
abbrev SF := Env → Out
def Out.mapE (u : Env → Env) : Out → Out
  | .nx δ => .nx (u δ)
  | .rt d δ => .rt d (u δ)
  | .bk δ => .bk (u δ)
  | .ct δ => .ct (u δ)
  | .er x δ => .er x (u δ)
  | .stk => .stk
def R.bindS {α : Type} (r : R α) (k : α → Env → Out) : Out := match r with
  | .ok a δ => k a δ
  | .er x δ => .er x δ
  | .stk => .stk

section
variable (X : Cx) (W : WX)
def ErS (I H : Hp) (δ : Env) (σ : St) (F : FF) (x : D) (δ' : Env) : Prop :=
  ∀ cls dx I' H' σ' F', Go X.K X.mg I H δ σ F I' H' δ' σ' F' no → XRep X.K X.mg I' H' x cls dx → W cls dx σ' H'
def NxS (P : St → Hp → Prop) (I H : Hp) (δ : Env) (σ : St) (F : FF) (δ' : Env) : Prop :=
  ∀ I' H' σ' F', Go X.K X.mg I H δ σ F I' H' δ' σ' F' no → P σ' H'
def SO (E : Ends) (I H : Hp) (δ : Env) (σ : St) (F : FF) (r : Out) : Prop := match r with
  | .nx δ' => NxS X E.nx I H δ σ F δ'
  | .bk δ' => NxS X E.bk I H δ σ F δ'
  | .ct δ' => NxS X E.ct I H δ σ F δ'
  | .rt d δ' => ∀ v I' H' σ' F' B, Go X.K X.mg I H δ σ F I' H' δ' σ' F' B → Rep X.K X.mg I' H' d v B → E.rt v H'
  | .er x δ' => ErS X W I H δ σ F x δ'
  | .stk => False
def SS (t : TS) (f : SF) : Prop := ∀ I H δ σ F E, Stt X.K X.mg I H δ σ F → SO X W E I H δ σ F (f δ) → t E σ H
def DS (st : Stmt) (f : SF) : Prop := ∃ t, PS X st t ∧ SS X W t f
def DSs (st : List Stmt) (f : SF) : Prop := ∃ t, PSs X st t ∧ SS X W t f
end
section
variable {X : Cx} {W : WX} {I H I1 H1 I2 H2 : Hp} {δ δ1 δ2 : Env} {σ σ1 σ2 : St} {F F1 F2 : FF} {A B B1 B2 C : FP} {d : D} {v : V} {i : Nat} {sl : Sl}
theorem Go.trans0 (g : Go X.K X.mg I H δ σ F I1 H1 δ1 σ1 F1 B1) (g2 : Go X.K X.mg I1 H1 δ1 σ1 F1 I2 H2 δ2 σ2 F2 B2) : Go X.K X.mg I H δ σ F I2 H2 δ2 σ2 F2 B2 := (g.trans g2).less le_r
theorem SO.trans {E : Ends} {r : Out} (g : Go X.K X.mg I H δ σ F I1 H1 δ1 σ1 F1 B) (h : SO X W E I H δ σ F r) : SO X W E I1 H1 δ1 σ1 F1 r := by
  cases r with
  | nx δ' => exact fun I' H' σ' F' g' => h I' H' σ' F' (g.trans0 g')
  | bk δ' => exact fun I' H' σ' F' g' => h I' H' σ' F' (g.trans0 g')
  | ct δ' => exact fun I' H' σ' F' g' => h I' H' σ' F' (g.trans0 g')
  | rt d δ' => exact fun v I' H' σ' F' B g' r => h v I' H' σ' F' B (g.trans0 g') r
  | er x δ' => exact fun cls dx I' H' σ' F' g' r => h cls dx I' H' σ' F' (g.trans0 g') r
  | stk => exact h
theorem ErS.o {x : D} {δ' : Env} (h : ErS X W I H δ σ F x δ') : ErO X W I H δ σ F x δ' := fun cls dx I' H' F' g r => h cls dx I' H' σ F' g r

def sNil : SF := fun δ => .nx δ
def sSeq (f g : SF) : SF := fun δ => match f δ with
  | .nx δ' => g δ'
  | r => r
theorem dss_nil : DSs X W [] sNil := ⟨_, pss_nil, fun I H δ σ F E s h => h I H σ F (Go.refl s)⟩
theorem ss_seq {t u : TS} {f g : SF} (h1 : SS X W t f) (h2 : SS X W u g) : SS X W (tSeq t u) (sSeq f g) := by
  intro I H δ σ F E s h
  refine h1 I H δ σ F _ s ?_
  unfold sSeq at h
  cases q : f δ with
  | nx δ' =>
    rw [q] at h
    intro I' H' σ' F' go
    exact h2 I' H' δ' σ' F' E go.st (h.trans go)
  | bk δ' => rw [q] at h; exact h
  | ct δ' => rw [q] at h; exact h
  | rt d δ' => rw [q] at h; exact h
  | er x δ' => rw [q] at h; exact h
  | stk => rw [q] at h; exact h
theorem dss_cons {st : Stmt} {rest : List Stmt} {f g : SF} (h1 : DS X W st f) (h2 : DSs X W rest g) : DSs X W (st :: rest) (sSeq f g) :=
  let ⟨_, p, q⟩ := h1; let ⟨_, p2, q2⟩ := h2; ⟨_, pss_cons p p2, ss_seq q q2⟩
theorem dss_one {st : Stmt} {f : SF} (h1 : DS X W st f) : DSs X W [st] f := let ⟨_, p, q⟩ := h1; ⟨_, pss_one p, q⟩
def sPass : SF := fun δ => .nx δ
def sBrk : SF := fun δ => .bk δ
def sCnt : SF := fun δ => .ct δ
theorem ds_pass {pos : Pos} : DS X W (.Pass pos) sPass := ⟨_, ps_pass, fun I H δ σ F E s h => h I H σ F (Go.refl s)⟩
theorem ds_brk {pos : Pos} : DS X W (.Break pos) sBrk := ⟨_, ps_break, fun I H δ σ F E s h => h I H σ F (Go.refl s)⟩
theorem ds_cnt {pos : Pos} : DS X W (.Continue pos) sCnt := ⟨_, ps_continue, fun I H δ σ F E s h => h I H σ F (Go.refl s)⟩
theorem ds_doc {x : Str} {j : Nat} {pos pos' : Pos} : DS X W (.Expr (.Constant (.str x) j pos) pos') sPass := ⟨_, ps_doc, fun I H δ σ F E s h => h I H σ F (Go.refl s)⟩
def sStk : SF := fun _ => .stk
theorem ds_stk {st : Stmt} : DS X W st sStk := ⟨_, ps_never, fun I H δ σ F E s h => h.elim⟩
/-- an expression by itself -/
def sX (f : EF) : SF := fun δ => (f δ).bindS fun _ δ1 => .nx δ1
theorem ds_expr {e : Expr} {f : EF} {pos : Pos} (he : DE X W e f) (hs : swapsWith e none pos.line X.env = pure false := by rfl) : DS X W (.Expr e pos) (sX f) := by
  obtain ⟨t, p, q⟩ := he
  refine ⟨_, ps_expr p hs, fun I H δ σ F E s h => q I H δ σ F _ s ?_⟩
  unfold sX at h
  cases q : f δ with
  | stk => rw [q] at h; exact h.elim
  | er x δ' => rw [q] at h; exact ErS.o h
  | ok o δ' => rw [q] at h; exact fun v I' H' F' B g _ => h I' H' σ F' (g.less no_le)
def sRet (f : EF) : SF := fun δ => (eV f δ).bindS fun o δ1 => match o with
  | .tmp d => .rt d δ1
  | _ => .stk
theorem ds_ret {e : Expr} {f : EF} {pos : Pos} (he : DE X W e f) : DS X W (.Return (some e) pos) (sRet f) := by
  obtain ⟨t, p, q⟩ := he
  refine ⟨_, ps_ret p, fun I H δ σ F E s h => ?_⟩
  unfold sRet at h
  refine sv_ok (Q := E.rt) q s (fun d δ' e => ?_) (fun x δ' e => ?_) fun e => ?_
  · rw [e] at h; exact fun v I' H' F' B g r => h v I' H' σ F' B g r
  · rw [e] at h; exact ErS.o h
  · rw [e] at h; exact h.elim
def sRetN : SF := fun δ => .rt .non δ
theorem ds_retN {pos : Pos} : DS X W (.Return none pos) sRetN := ⟨_, ps_retN, fun I H δ σ F E s h => h .non I H σ F no (Go.refl s) .non⟩
/-- into a slot -/
def setN (i : Nat) (d : D) (δ : Env) : Option Env := match δ[i]? with
  | some s => match s.io, s.lk with
    | false, false => some (δ.set i ⟨false, false, d⟩)
    | _, _ => none
  | none => none
theorem set_ok {Q : St → Hp → Prop} (g : Go X.K X.mg I H δ σ F I1 H1 δ1 σ1 F1 B) (r : Rep X.K X.mg I1 H1 d v B) (e : setN i d δ1 = some δ2)
    (h : NxS X Q I H δ σ F δ2) : Q (σ1.set i (some v)) H1 := by
  unfold setN at e
  cases q : δ1[i]? with
  | none => rw [q] at e; cases e
  | some s0 =>
    rw [q] at e
    obtain ⟨io, lk, d0⟩ := s0
    cases io <;> cases lk <;> simp only [reduceCtorEq, Option.some.injEq] at e
    subst e
    have hi : i < σ1.length := by rw [← g.st.len]; exact (List.getElem?_eq_some_iff.mp q).1
    have hd : ∀ j, Dis (F1 j) B := g.dis
    refine h I1 H1 _ (F1.set i B) ?_
    have g0 : Go X.K X.mg I1 H1 δ1 σ1 F1 I1 H1 δ1 σ1 F1 no := Go.refl g.st
    refine ⟨g.st.put (List.getElem?_eq_some_iff.mp q).1 (.inr ⟨v, by rw [List.getElem?_set_self hi], r⟩) g.own (fun j _ => hd j) (fun j n => by rw [List.getElem?_set_ne (Ne.symm n)]) (by simp), ?_, own_no, fun _ => dis_no, fun j s0 e0 l0 => ?_, fun j s0 e0 l0 => ?_, ?_⟩
    · refine g.ev.mono Le.refl fun a w => ?_
      rcases w with ⟨j, s, ej, lj, z⟩ | w
      · by_cases q2 : j = i
        · subst q2; rw [FF.set_same] at z; exact .inl (.inr z)
        · rw [FF.set_ne q2] at z
          rw [List.getElem?_set_ne (Ne.symm q2)] at ej
          exact .inl (.inl ⟨j, s, ej, lj, z⟩)
      · exact w.elim
    · obtain ⟨a1, a2, a3⟩ := g.lk j s0 e0 l0
      have n : j ≠ i := fun z => by subst z; rw [q] at a1; cases a1; cases l0
      exact ⟨by rw [List.getElem?_set_ne (Ne.symm n)]; exact a1, by rw [FF.set_ne n]; exact a2, by rw [List.getElem?_set_ne (Ne.symm n)]; exact a3⟩
    · have n : j ≠ i := fun z => by
        subst z
        obtain ⟨s', e', f1, f2⟩ := fl_some g.fl q
        rw [e0] at e'; cases e'
        rw [l0] at f1; cases f1
      rw [List.getElem?_set_ne (Ne.symm n)]
      exact g.io j s0 e0 l0
    · rw [← g.fl, List.map_set]
      refine List.ext_getElem? fun j => ?_
      by_cases q2 : j = i
      · subst q2
        rw [List.getElem?_set_self (by simpa using (List.getElem?_eq_some_iff.mp q).1), List.getElem?_map, q]
        rfl
      · rw [List.getElem?_set_ne (Ne.symm q2)]
def sSet (i : Nat) (f : EF) : SF := fun δ => (eV f δ).bindS fun o δ1 => match o with
  | .tmp d => match setN i d δ1 with
    | some δ2 => .nx δ2
    | none => .stk
  | _ => .stk
theorem ds_set {i : Nat} {x : Str} {e : Expr} {f : EF} {pos' pos : Pos} (hN : X.N.Nodup) (hi : X.N[i]? = some x) (hx : Loc X.env.scope x) (he : DE X W e f) (hs : swapsWith e (some (.Name x pos')) pos.line X.env = pure false := by rfl) (hf : X.fn x = true ∨ X.env.scope.names.lookup x = some .local := by first | exact .inl rfl | exact .inr rfl | assumption) :
    DS X W (.Assign [.Name x pos'] e pos) (sSet i f) := by
  obtain ⟨t, p, q⟩ := he
  refine ⟨_, ps_set hN hi hx p hs hf, fun I H δ σ F E s h => ?_⟩
  unfold sSet at h
  refine sv_ok (Q := fun x σH => gName i x σ σH E.nx) q s (fun d δ' e => ?_) (fun x δ' e => ?_) fun e => ?_
  · rw [e] at h
    intro v I' H' F' B g r
    change SO X W E I H δ σ F (match setN i d δ' with | some δ2 => .nx δ2 | none => .stk) at h
    cases q2 : setN i d δ' with
    | none => rw [q2] at h; exact h.elim
    | some δ2 => rw [q2] at h; exact set_ok g r q2 h
  · rw [e] at h; exact ErS.o h
  · rw [e] at h; exact h.elim
/-- if -/
def sIf (c : BF) (f g : SF) : SF := fun δ => (c δ).bindS fun b δ1 => match b with
  | true => f δ1
  | false => g δ1
theorem ds_if {c : Expr} {a b : List Stmt} {cf : BF} {f g : SF} {pos : Pos} (hc : DB X W c cf) (ha : DSs X W a f) (hb : DSs X W b g) : DS X W (.If c a b pos) (sIf cf f g) := by
  obtain ⟨tc, pc, qc⟩ := hc
  obtain ⟨ta, pa, qa⟩ := ha
  obtain ⟨tb, pb, qb⟩ := hb
  refine ⟨_, ps_if pc pa pb, fun I H δ σ F E s h => qc I H δ σ F _ s ?_⟩
  unfold sIf at h
  cases q : cf δ with
  | stk => rw [q] at h; exact h.elim
  | er x δ' => rw [q] at h; exact ErS.o h
  | ok b δ' =>
    rw [q] at h
    intro I' H' F' g
    cases b with
    | true => exact qa I' H' δ' σ F' E g.st (SO.trans g h)
    | false => exact qb I' H' δ' σ F' E g.st (SO.trans g h)

/-! ### tests -/
def bB (f : EF) : BF := fun δ => (f δ).bind fun o δ1 => match o with
  | .tmp (.bl b) => .ok b δ1
  | _ => .stk
/-- a test by a value that is a bool -/
theorem sb_bl {t : TE} {f : EF} (h : SE X W t f) : SB X W (tTest t) (bB f) := by
  intro I H δ σ F Q s hq
  refine h I H δ σ F _ s ?_
  unfold bB at hq
  cases q : f δ with
  | stk => rw [q] at hq; exact hq.elim
  | er x δ' => rw [q] at hq; exact hq
  | ok o δ' =>
    rw [q] at hq
    intro v I' H' F' B g r
    cases o with
    | tmp d =>
      cases d with
      | bl b =>
        cases r
        exact ⟨b, rfl, hq I' H' F' (g.less no_le)⟩
      | _ => exact hq.elim
    | _ => exact hq.elim
def bAnd (f g : BF) : BF := fun δ => (f δ).bind fun b δ1 => match b with
  | true => g δ1
  | false => .ok false δ1
def bOr (f g : BF) : BF := fun δ => (f δ).bind fun b δ1 => match b with
  | true => .ok true δ1
  | false => g δ1
def bNot (f : BF) : BF := fun δ => (f δ).bind fun b δ1 => .ok (!b) δ1
theorem TO.trans {Q : Bool → Hp → Prop} {r : R Bool} (g : Go X.K X.mg I H δ σ F I1 H1 δ1 σ F1 B) (h : TO X W I H δ σ F Q r) : TO X W I1 H1 δ1 σ F1 Q r := by
  cases r with
  | ok b δ' => exact fun I' H' F' g' => h I' H' F' (g.trans0 g')
  | er x δ' => exact ErO.trans g h
  | stk => exact h
theorem sb_and {t u : TT} {f g : BF} (h1 : SB X W t f) (h2 : SB X W u g) : SB X W (tAnd t u) (bAnd f g) := by
  intro I H δ σ F Q s h
  refine h1 I H δ σ F _ s ?_
  unfold bAnd at h
  cases q : f δ with
  | stk => rw [q] at h; exact h.elim
  | er x δ' => rw [q] at h; exact h
  | ok b δ' =>
    rw [q] at h
    intro I' H' F' go
    cases b with
    | true => exact h2 I' H' δ' σ F' Q go.st (TO.trans go h)
    | false => exact h I' H' F' go
theorem sb_or {t u : TT} {f g : BF} (h1 : SB X W t f) (h2 : SB X W u g) : SB X W (tOr t u) (bOr f g) := by
  intro I H δ σ F Q s h
  refine h1 I H δ σ F _ s ?_
  unfold bOr at h
  cases q : f δ with
  | stk => rw [q] at h; exact h.elim
  | er x δ' => rw [q] at h; exact h
  | ok b δ' =>
    rw [q] at h
    intro I' H' F' go
    cases b with
    | true => exact h I' H' F' go
    | false => exact h2 I' H' δ' σ F' Q go.st (TO.trans go h)
theorem sb_not {t : TT} {f : BF} (h1 : SB X W t f) : SB X W (tNot t) (bNot f) := by
  intro I H δ σ F Q s h
  refine h1 I H δ σ F _ s ?_
  unfold bNot at h
  cases q : f δ with
  | stk => rw [q] at h; exact h.elim
  | er x δ' => rw [q] at h; exact h
  | ok b δ' => rw [q] at h; exact h
def DW (X : Cx) (W : WX) (e : Expr) (f : BF) : Prop := ∃ t, PW X e t ∧ SB X W t f
theorem DW.db {e : Expr} {f : BF} (h : DW X W e f) : DB X W e f := let ⟨_, p, q⟩ := h; ⟨_, p.pt, q⟩
section
variable {a b : Expr} {rest : List Expr} {f g : BF} {pos : Pos}
theorem dw_and1 (ha : DB X W a f) : DW X W (.BoolOp .And [a] pos) f := let ⟨_, p, q⟩ := ha; ⟨_, pw_and1 p, q⟩
theorem dw_or1 (ha : DB X W a f) : DW X W (.BoolOp .Or [a] pos) f := let ⟨_, p, q⟩ := ha; ⟨_, pw_or1 p, q⟩
theorem dw_and (ha : DB X W a f) (hb : DW X W (.BoolOp .And (b :: rest) pos) g) : DW X W (.BoolOp .And (a :: b :: rest) pos) (bAnd f g) := let ⟨_, p, q⟩ := ha; let ⟨_, p2, q2⟩ := hb; ⟨_, pw_and p p2, sb_and q q2⟩
theorem dw_or (ha : DB X W a f) (hb : DW X W (.BoolOp .Or (b :: rest) pos) g) : DW X W (.BoolOp .Or (a :: b :: rest) pos) (bOr f g) := let ⟨_, p, q⟩ := ha; let ⟨_, p2, q2⟩ := hb; ⟨_, pw_or p p2, sb_or q q2⟩
theorem db_not (ha : DB X W a f) : DB X W (.UnaryOp .Not a pos) (bNot f) := let ⟨_, p, q⟩ := ha; ⟨_, pt_not p, sb_not q⟩
end
/-- a test whose value is a bool, as a value -/
def eB (f : BF) : EF := fun δ => (f δ).bind fun b δ1 => .ok (.tmp (.bl b)) δ1
section
variable {a b : Expr} {rest : List Expr} {f g : EF} {pos : Pos}
/-- and, or, not as values: the first a bool -/
def eAnd (f g : EF) : EF := fun δ => (f δ).bind fun o δ1 => match o with
  | .tmp (.bl true) => g δ1
  | .tmp (.bl false) => .ok (.tmp (.bl false)) δ1
  | _ => .stk
def eOr (f g : EF) : EF := fun δ => (f δ).bind fun o δ1 => match o with
  | .tmp (.bl false) => g δ1
  | .tmp (.bl true) => .ok (.tmp (.bl true)) δ1
  | _ => .stk
def eNot (f : EF) : EF := fun δ => (f δ).bind fun o δ1 => match o with
  | .tmp (.bl b) => .ok (.tmp (.bl !b)) δ1
  | _ => .stk
theorem EO.trans {Q : VK} {r : R Opd} (g : Go X.K X.mg I H δ σ F I1 H1 δ1 σ F1 B) (h : EO X W I H δ σ F Q r) : EO X W I1 H1 δ1 σ F1 Q r := by
  cases r with
  | ok o δ' => exact fun v I' H' F' B g' r => h v I' H' F' B (g.trans0 g') r
  | er x δ' => exact ErO.trans g h
  | stk => exact h
theorem se_and {t u : TE} (h1 : SE X W t f) (h2 : SE X W u g) : SE X W (tAndV t u) (eAnd f g) := by
  intro I H δ σ F Q s h
  refine h1 I H δ σ F _ s ?_
  unfold eAnd at h
  cases q : f δ with
  | stk => rw [q] at h; exact h.elim
  | er x δ' => rw [q] at h; exact h
  | ok o δ' =>
    rw [q] at h
    intro v I' H' F' B go r
    cases o with
    | tmp d =>
      cases d with
      | bl b =>
        cases r
        refine ⟨b, rfl, ?_⟩
        cases b with
        | true => exact h2 I' H' δ' σ F' Q go.st (EO.trans go h)
        | false => exact h _ I' H' F' no (go.less no_le) .bl
      | _ => exact h.elim
    | _ => exact h.elim
theorem se_or {t u : TE} (h1 : SE X W t f) (h2 : SE X W u g) : SE X W (tOrV t u) (eOr f g) := by
  intro I H δ σ F Q s h
  refine h1 I H δ σ F _ s ?_
  unfold eOr at h
  cases q : f δ with
  | stk => rw [q] at h; exact h.elim
  | er x δ' => rw [q] at h; exact h
  | ok o δ' =>
    rw [q] at h
    intro v I' H' F' B go r
    cases o with
    | tmp d =>
      cases d with
      | bl b =>
        cases r
        refine ⟨b, rfl, ?_⟩
        cases b with
        | false => exact h2 I' H' δ' σ F' Q go.st (EO.trans go h)
        | true => exact h _ I' H' F' no (go.less no_le) .bl
      | _ => exact h.elim
    | _ => exact h.elim
theorem se_not {t : TE} (h1 : SE X W t f) : SE X W (tNotV t) (eNot f) := by
  intro I H δ σ F Q s h
  refine h1 I H δ σ F _ s ?_
  unfold eNot at h
  cases q : f δ with
  | stk => rw [q] at h; exact h.elim
  | er x δ' => rw [q] at h; exact h
  | ok o δ' =>
    rw [q] at h
    intro v I' H' F' B go r
    cases o with
    | tmp d =>
      cases d with
      | bl b => cases r; exact ⟨b, rfl, h _ I' H' F' no (go.less no_le) .bl⟩
      | _ => exact h.elim
    | _ => exact h.elim
theorem de_one {op : PySem.BoolOp} (ha : DE X W a f) : DE X W (.BoolOp op [a] pos) f := let ⟨_, p, q⟩ := ha; ⟨_, pe_one p, q⟩
theorem de_and (ha : DE X W a f) (hb : DE X W (.BoolOp .And (b :: rest) pos) g) : DE X W (.BoolOp .And (a :: b :: rest) pos) (eAnd f g) := let ⟨_, p, q⟩ := ha; let ⟨_, p2, q2⟩ := hb; ⟨_, pe_and p p2, se_and q q2⟩
theorem de_or (ha : DE X W a f) (hb : DE X W (.BoolOp .Or (b :: rest) pos) g) : DE X W (.BoolOp .Or (a :: b :: rest) pos) (eOr f g) := let ⟨_, p, q⟩ := ha; let ⟨_, p2, q2⟩ := hb; ⟨_, pe_or p p2, se_or q q2⟩
theorem de_not (ha : DE X W a f) : DE X W (.UnaryOp .Not a pos) (eNot f) := let ⟨_, p, q⟩ := ha; ⟨_, pe_not p, se_not q⟩
def eIf (c : BF) (f g : EF) : EF := fun δ => (c δ).bind fun b δ1 => match b with
  | true => f δ1
  | false => g δ1
theorem de_if {c : Expr} {cf : BF} (hc : DB X W c cf) (ha : DE X W a f) (hb : DE X W b g) : DE X W (.IfExp c a b pos) (eIf cf f g) := by
  obtain ⟨tc, pc, qc⟩ := hc
  obtain ⟨ta, pa, qa⟩ := ha
  obtain ⟨tb, pb, qb⟩ := hb
  refine ⟨_, pe_ifExp pc pa pb, fun I H δ σ F E s h => qc I H δ σ F _ s ?_⟩
  unfold eIf at h
  cases q : cf δ with
  | stk => rw [q] at h; exact h.elim
  | er x δ' => rw [q] at h; exact h
  | ok b δ' =>
    rw [q] at h
    intro I' H' F' g
    cases b with
    | true => exact qa I' H' δ' σ F' E g.st (EO.trans g h)
    | false => exact qb I' H' δ' σ F' E g.st (EO.trans g h)
end
end
end DL

set_option linter.all false
set_option autoImplicit false
namespace DL
open PySem PySem.Spec L2
open PyProof.Rows hiding St

structure Arg where
  lk : Bool
  d : D
inductive FR where
  | ok (r : D) (ds : List D) | er (x : D) (ds : List D) | stk
abbrev DFn := List Arg → FR
def aE (as : List Arg) : Env := as.map fun a => ⟨true, a.lk, a.d⟩
def dE : List Arg → List D → Env
  | a :: as, d :: ds => ⟨true, a.lk, d⟩ :: dE as ds
  | _, _ => []
def spD (K : PySem.W.Frag) (mg : Str → Option Value) (n : Nat) (G : DFn) : Sp := fun vs H Q E => vs.length = n ∧ ∃ (as : List Arg) (I : Hp) (F : FF),
  Stt K mg I H (aE as) (vs.map some) F ∧ match G as with
    | .ok r ds => ∀ v I' H' F' B, Go K mg I H (aE as) (vs.map some) F I' H' (dE as ds) (vs.map some) F' B → Rep K mg I' H' r v B → Q v H'
    | .er x ds => ∀ cls dx I' H' F', Go K mg I H (aE as) (vs.map some) F I' H' (dE as ds) (vs.map some) F' no → XRep K mg I' H' x cls dx → E cls dx H'
    | .stk => False

/-! ### a def by its body -/
def fE (n : Nat) (as : List Arg) : Env := as.map (fun a => ⟨!ice a.d, a.lk, a.d⟩) ++ List.replicate (n - as.length) ⟨false, false, .hole⟩
def outs : List Arg → Env → List D
  | [], _ => []
  | a :: as, [] => a.d :: outs as []
  | a :: as, s :: δ => (if ice a.d = true then a.d else s.d) :: outs as δ
def mkFn (n : Nat) (body : SF) : DFn := fun as => match body (fE n as) with
  | .nx δ => .ok .non (outs as δ)
  | .rt d δ => .ok d (outs as δ)
  | .er x δ => .er x (outs as δ)
  | _ => .stk
theorem dE_len : ∀ {as : List Arg} {ds : List D}, as.length = ds.length → (dE as ds).length = as.length
  | [], [], _ => rfl
  | a :: as, d :: ds, h => by simp [dE, dE_len (as := as) (ds := ds) (by simpa using h)]
theorem dE_get : ∀ {as : List Arg} {ds : List D} {i : Nat} {a : Arg} {d : D}, as[i]? = some a → ds[i]? = some d → (dE as ds)[i]? = some ⟨true, a.lk, d⟩
  | a :: as, d :: ds, 0, _, _, h1, h2 => by simp at h1 h2; subst h1 h2; simp [dE]
  | a :: as, d :: ds, i + 1, _, _, h1, h2 => by simp [dE]; exact dE_get (by simpa using h1) (by simpa using h2)
  | [], _, _, _, _, h1, _ => by simp at h1
  | _ :: _, [], _, _, _, _, h2 => by simp at h2
theorem dE_inv : ∀ {as : List Arg} {ds : List D} {i : Nat} {s : Sl}, (dE as ds)[i]? = some s → ∃ a d, as[i]? = some a ∧ ds[i]? = some d ∧ s = ⟨true, a.lk, d⟩
  | a :: as, d :: ds, 0, _, h => by simp [dE] at h; exact ⟨a, d, by simp, by simp, h.symm⟩
  | a :: as, d :: ds, i + 1, _, h => by
    simp [dE] at h
    obtain ⟨a', d', h1, h2, h3⟩ := dE_inv h
    exact ⟨a', d', by simpa using h1, by simpa using h2, h3⟩
  | [], _, _, _, h => by simp [dE] at h
  | _ :: _, [], _, _, h => by simp [dE] at h
theorem dE_fl : ∀ {as : List Arg} {ds : List D}, as.length = ds.length → (dE as ds).map Sl.fl = (aE as).map Sl.fl
  | [], [], _ => rfl
  | a :: as, d :: ds, h => by
    have := dE_fl (as := as) (ds := ds) (by simpa using h)
    simp only [aE] at this
    simp [dE, aE, Sl.fl] at this ⊢
    exact this
theorem outs_len : ∀ {as : List Arg} {δ : Env}, as.length = (outs as δ).length
  | [], _ => rfl
  | a :: as, [] => by simp [outs, ← outs_len (as := as) (δ := [])]
  | a :: as, s :: δ => by simp [outs, ← outs_len (as := as) (δ := δ)]
theorem outs_get : ∀ {as : List Arg} {δ : Env} {i : Nat} {a : Arg} {s : Sl}, as[i]? = some a → δ[i]? = some s → (outs as δ)[i]? = some (if ice a.d = true then a.d else s.d)
  | a :: as, s :: δ, 0, _, _, h1, h2 => by simp at h1 h2; subst h1 h2; simp [outs]
  | a :: as, s :: δ, i + 1, _, _, h1, h2 => by simp [outs]; exact outs_get (by simpa using h1) (by simpa using h2)
  | [], _, _, _, _, h1, _ => by simp at h1
  | _ :: _, [], _, _, _, _, h2 => by simp at h2
theorem aE_get {as : List Arg} {i : Nat} {a : Arg} (h : as[i]? = some a) : (aE as)[i]? = some ⟨true, a.lk, a.d⟩ := by simp [aE, h]
theorem aE_inv {as : List Arg} {i : Nat} {s : Sl} (h : (aE as)[i]? = some s) : ∃ a, as[i]? = some a ∧ s = ⟨true, a.lk, a.d⟩ := by
  simp only [aE, List.getElem?_map] at h
  cases q : as[i]? with
  | none => rw [q] at h; cases h
  | some a => rw [q] at h; cases h; exact ⟨a, rfl, rfl⟩
theorem fE_get {as : List Arg} {n i : Nat} {a : Arg} (h : as[i]? = some a) : (fE n as)[i]? = some ⟨!ice a.d, a.lk, a.d⟩ := by
  have hi : i < as.length := (List.getElem?_eq_some_iff.mp h).1
  unfold fE
  rw [List.getElem?_append_left (by simpa using hi)]
  simp [h]
theorem fE_inv {as : List Arg} {n i : Nat} {s : Sl} (h : (fE n as)[i]? = some s) : (∃ a, as[i]? = some a ∧ s = ⟨!ice a.d, a.lk, a.d⟩) ∨ (as.length ≤ i ∧ s = ⟨false, false, .hole⟩) := by
  by_cases hi : i < as.length
  · have e := List.getElem?_eq_getElem hi
    rw [fE_get e] at h; cases h
    exact .inl ⟨_, e, rfl⟩
  · unfold fE at h
    rw [List.getElem?_append_right (by simpa using hi), List.getElem?_replicate] at h
    split at h
    · cases h; exact .inr ⟨by omega, rfl⟩
    · cases h
theorem fE_len {as : List Arg} {n : Nat} (h : as.length ≤ n) : (fE n as).length = n := by simp [fE]; omega
def keepA (as : List Arg) (i : Nat) : Bool := match as[i]? with
  | some a => !ice a.d || a.lk
  | none => false

section
variable {K : PySem.W.Frag} {mg : Str → Option Value} {I H I' H' : Hp} {σ' : St} {F F' : FF} {B : FP} {δ' : Env} {N : List Str} {vs : List V} {as : List Arg}
theorem start_get {i : Nat} {v : V} (h : vs[i]? = some v) : (L2.start N vs)[i]? = some (some v) := by
  have hi : i < vs.length := (List.getElem?_eq_some_iff.mp h).1
  unfold L2.start
  rw [List.getElem?_append_left (by simpa using hi)]
  simp [h]
def F0 (as : List Arg) (F : FF) : FF := fun i => if keepA as i = true then F i else no
theorem F0_le {i : Nat} : Le (F0 as F i) (F i) := fun a h => by
  unfold F0 at h
  split at h
  · exact h
  · exact h.elim
theorem stt_start (s : Stt K mg I H (aE as) (vs.map some) F) (hl : as.length ≤ N.length) : Stt K mg I H (fE N.length as) (L2.start N vs) (F0 as F) := by
  have hlen : as.length = vs.length := by have := s.len; simpa [aE] using this
  refine ⟨s.sub, fun i => (s.own i).mono F0_le, fun i j n => (s.dis i j n).mono F0_le F0_le, fun i sl e => ?_, fun i h => ?_, ?_⟩
  · rcases fE_inv e with ⟨a, ea, rfl⟩ | ⟨_, rfl⟩
    · rcases s.rep i _ (aE_get ea) with h | ⟨v, h1, h2⟩
      · exact .inl h
      · have hv : vs[i]? = some v := by
          simp only [List.getElem?_map] at h1
          cases q : vs[i]? with
          | none => rw [q] at h1; cases h1
          | some w => rw [q] at h1; cases h1; rfl
        refine .inr ⟨v, start_get hv, ?_⟩
        unfold F0 keepA
        rw [ea]
        cases hi : ice a.d with
        | true => exact (Rep.ice h2 hi).mono no_le
        | false => simpa [hi] using h2
    · exact .inl rfl
  · unfold F0 keepA
    rw [fE_len hl] at h
    rw [List.getElem?_eq_none (by omega)]
    simp
  · rw [fE_len hl]; simp [L2.start]; omega
theorem go_end (s : Stt K mg I H (aE as) (vs.map some) F) (hl : as.length ≤ N.length) (g : Go K mg I H (fE N.length as) (L2.start N vs) (F0 as F) I' H' δ' σ' F' B) :
    Go K mg I H (aE as) (vs.map some) F I' H' (dE as (outs as δ')) (vs.map some) (F0 as F') B := by
  have hlen : as.length = vs.length := by have := s.len; simpa [aE] using this
  have hδ : δ'.length = N.length := by rw [fl_len g.fl, fE_len hl]
  have slot : ∀ {i : Nat} {a : Arg}, as[i]? = some a → ∃ s', δ'[i]? = some s' ∧ s'.io = (!ice a.d) ∧ s'.lk = a.lk := fun {i a} e => by
    have hi : i < δ'.length := by have := (List.getElem?_eq_some_iff.mp e).1; omega
    obtain ⟨s0, e0, h1, h2⟩ := fl_some g.fl (List.getElem?_eq_getElem hi)
    rw [fE_get e] at e0; cases e0
    exact ⟨_, List.getElem?_eq_getElem hi, h1.symm, h2.symm⟩
  refine ⟨⟨g.st.sub, fun i => (g.st.own i).mono F0_le, fun i j n => (g.st.dis i j n).mono F0_le F0_le, fun i sl e => ?_, fun i h => ?_, ?_⟩, g.ev.mono (fun a ⟨i, sl, e, l, z⟩ => ?_) fun a q => ?_, g.own, fun i => (g.dis i).mono F0_le Le.refl, fun i sl e l => ?_, fun _ _ _ _ => rfl, dE_fl outs_len⟩
  · obtain ⟨a, d, e1, e2, rfl⟩ := dE_inv e
    obtain ⟨s', e3, hio, hlk⟩ := slot e1
    rw [outs_get e1 e3] at e2
    cases hi : ice a.d with
    | true =>
      rw [hi] at e2; simp at e2; subst e2
      rcases s.rep i _ (aE_get e1) with h | ⟨v, h1, h2⟩
      · exact .inl h
      · exact .inr ⟨v, h1, ((Rep.ice h2 hi).frame g.ev.inc fun _ _ z => z.elim).mono no_le⟩
    | false =>
      rw [hi] at e2; simp at e2; subst e2
      rcases g.st.rep i s' e3 with h | ⟨v, h1, h2⟩
      · exact .inl h
      · refine .inr ⟨v, ?_, ?_⟩
        · have q := g.io i _ (fE_get e1) (by simp [hi])
          rw [q] at h1
          have hv : i < vs.length := by have := (List.getElem?_eq_some_iff.mp e1).1; omega
          rw [start_get (List.getElem?_eq_getElem hv)] at h1
          cases h1
          simp [List.getElem?_eq_getElem hv]
        · unfold F0 keepA
          rw [e1]; simpa [hi] using h2
  · rw [dE_len outs_len] at h
    unfold F0 keepA
    rw [List.getElem?_eq_none (by omega)]; simp
  · rw [dE_len outs_len]; simp [hlen]
  · rcases fE_inv e with ⟨a', ea, rfl⟩ | ⟨h, rfl⟩
    · exact ⟨i, _, aE_get ea, l, F0_le a z⟩
    · have z' := F0_le a z
      rw [s.emp i (by simpa [aE] using h)] at z'; exact z'.elim
  · rcases q with ⟨i, sl, e, l, z⟩ | q
    · obtain ⟨a', d, e1, e2, rfl⟩ := dE_inv e
      obtain ⟨s', e3, hio, hlk⟩ := slot e1
      exact .inl (.inl ⟨i, s', e3, hlk.trans l, F0_le a z⟩)
    · exact .inl (.inr q)
  · obtain ⟨a, e1, rfl⟩ := aE_inv e
    obtain ⟨a1, a2, a3⟩ := g.lk i _ (fE_get e1) l
    refine ⟨?_, ?_, rfl⟩
    · have := dE_get (as := as) (ds := outs as δ') e1 (outs_get e1 a1)
      rw [this]
      split <;> rfl
    · have hk : keepA as i = true := by unfold keepA; rw [e1]; simp only at l; simp [l]
      have h1 : F0 as F i = F i := by unfold F0; rw [if_pos hk]
      have h2 : F0 as F' i = F' i := by unfold F0; rw [if_pos hk]
      rw [h2, a2, h1]
end
/-- THE RULE: a def of the text keeps what its body tells -/
theorem fn_d {P : Program} {w : World} {K : PySem.W.Frag} {mg : Str → Option Value} {base : Heap} {x qual : Str} {params : Arguments} {body : List Stmt} {scope : Scope} {dvs : List V} {kws : List (Str × V)} {f : Addr} {fd : FuncData}
    {N ps : List Str} {k : Nat} {bf : SF} (Fn : FunD K x qual params body scope dvs kws f fd) (S : FnScope N ps scope)
    (hbody : ∀ (cdv : Value) (A : Around) (outer : List PySem.Env) (s : Shared) (H : Hp) (E : XK), Room k (A.deeper (envOfC qual scope s.heap.objs.size f cdv)) →
      Takes (cxOf (L2.CX P w) P w K mg base N qual scope f cdv A outer s H E) (fun cls d _ H => E cls d H) →
      PassesOwn (model P w) (A.deeper (envOfC qual scope s.heap.objs.size f cdv)) (envOfC qual scope s.heap.objs.size f cdv) (cxOf (L2.CX P w) P w K mg base N qual scope f cdv A outer s H E).xe →
      DSs (cxOf (L2.CX P w) P w K mg base N qual scope f cdv A outer s H E) (fun cls d _ H => E cls d H) body bf) :
    FnOk P w K mg base (L2.CX P w) (k + 1) f fd ps (spD K mg ps.length (mkFn N.length bf)) := by
  refine Fn.ok S (fun vs H Q E h => h.1) fun cdv A outer s H vs Q E hr hsp => ?_
  obtain ⟨hl, as, I, F, st, h⟩ := hsp
  obtain ⟨t, p, q⟩ := hbody cdv A outer s H E hr (takes_of rfl rfl rfl rfl) (passes_of rfl)
  have hN : as.length ≤ N.length := by
    have h1 : as.length = vs.length := by have := st.len; simpa [aE] using this
    have h2 := congrArg List.length S.pre
    rw [List.length_take] at h2
    omega
  refine ⟨t, p, q I H (fE N.length as) (L2.start N vs) (F0 as F) _ (stt_start st hN) ?_⟩
  unfold mkFn at h
  cases e : bf (fE N.length as) with
  | nx δ' => rw [e] at h; exact fun I' H' σ' F' g => h .non I' H' _ no (go_end st hN g) .non
  | rt d δ' => rw [e] at h; exact fun v I' H' σ' F' B g r => h v I' H' _ B (go_end st hN g) r
  | er x δ' => rw [e] at h; exact fun cls dx I' H' σ' F' g r => h cls dx I' H' _ (go_end st hN g) r
  | bk δ' => rw [e] at h; exact h.elim
  | ct δ' => rw [e] at h; exact h.elim
  | stk => rw [e] at h; exact h.elim
end DL

set_option linter.all false
set_option autoImplicit false
namespace DL
open PySem PySem.Spec L2
open PyProof.Rows hiding St

def slotO : Opd → Option Nat
  | .tmp _ => none
  | .nm i => some i
  | .plc i _ _ => some i
def argO (o : Opd) (δ : Env) : Option Arg := match o with
  | .tmp d => some ⟨false, d⟩
  | .nm i => match δ[i]? with
    | some s => match s.d with
      | .hole => none
      | d => some ⟨s.lk, d⟩
    | none => none
  | .plc i _ d => match δ[i]? with
    | some s => some ⟨s.lk, d⟩
    | none => none
def argL : List Opd → Env → Option (List Arg)
  | [], _ => some []
  | o :: os, δ => match argO o δ, argL os δ with
    | some a, some as => some (a :: as)
    | _, _ => none
def okS : List Opd → Bool
  | [] => true
  | o :: os => (match slotO o with
    | none => true
    | some i => os.all fun p => decide (slotO p ≠ some i)) && okS os
def setD (δ : Env) (i : Nat) (d : D) : Env := match δ[i]? with
  | some s => δ.set i ⟨s.io, s.lk, d⟩
  | none => δ
def wr1 (o : Opd) (d : D) (δ : Env) : Env := match o with
  | .tmp _ => δ
  | .nm i => setD δ i d
  | .plc i g _ => setD δ i (g d)
def wrL : List Opd → List D → Env → Env
  | o :: os, d :: ds, δ => wrL os ds (wr1 o d δ)
  | _, _, δ => δ
def back (o : Opd) (d : D) : D := match o with
  | .plc _ g _ => g d
  | _ => d
theorem setD_len {δ : Env} {i : Nat} {d : D} : (setD δ i d).length = δ.length := by unfold setD; split <;> simp
theorem setD_ne {δ : Env} {i j : Nat} {d : D} (h : j ≠ i) : (setD δ i d)[j]? = δ[j]? := by
  unfold setD; split
  · rw [List.getElem?_set_ne (Ne.symm h)]
  · rfl
theorem setD_eq {δ : Env} {i : Nat} {d : D} {s : Sl} (e : δ[i]? = some s) : (setD δ i d)[i]? = some ⟨s.io, s.lk, d⟩ := by
  unfold setD; rw [e]; exact List.getElem?_set_self (List.getElem?_eq_some_iff.mp e).1
theorem wr1_len {δ : Env} {o : Opd} {d : D} : (wr1 o d δ).length = δ.length := by cases o <;> simp [wr1, setD_len]
theorem wr1_ne {δ : Env} {o : Opd} {d : D} {j : Nat} (h : slotO o ≠ some j) : (wr1 o d δ)[j]? = δ[j]? := by
  cases o with
  | tmp _ => rfl
  | nm i => exact setD_ne fun z => h (by simp [slotO, z])
  | plc i _ _ => exact setD_ne fun z => h (by simp [slotO, z])
theorem wr1_eq {δ : Env} {o : Opd} {d : D} {j : Nat} {s : Sl} (h : slotO o = some j) (e : δ[j]? = some s) : (wr1 o d δ)[j]? = some ⟨s.io, s.lk, back o d⟩ := by
  cases o with
  | tmp _ => simp [slotO] at h
  | nm i => simp [slotO] at h; subst h; exact setD_eq e
  | plc i _ _ => simp [slotO] at h; subst h; exact setD_eq e
theorem wrL_len : ∀ {os : List Opd} {ds : List D} {δ : Env}, (wrL os ds δ).length = δ.length
  | [], _, _ => by simp [wrL]
  | _ :: _, [], _ => by simp [wrL]
  | o :: os, d :: ds, δ => by simp [wrL, wrL_len (os := os), wr1_len]
theorem wrL_ne : ∀ {os : List Opd} {ds : List D} {δ : Env} {j : Nat}, (∀ o ∈ os, slotO o ≠ some j) → (wrL os ds δ)[j]? = δ[j]?
  | [], _, _, _, _ => by simp [wrL]
  | _ :: _, [], _, _, _ => by simp [wrL]
  | o :: os, d :: ds, δ, j, h => by
    simp only [wrL]
    rw [wrL_ne fun p hp => h p (List.mem_cons_of_mem _ hp), wr1_ne (h o List.mem_cons_self)]
theorem wrL_eq : ∀ {os : List Opd} {ds : List D} {δ : Env} {j k : Nat} {o : Opd} {d : D} {s : Sl}, okS os = true → os[k]? = some o → ds[k]? = some d → slotO o = some j → δ[j]? = some s → (wrL os ds δ)[j]? = some ⟨s.io, s.lk, back o d⟩
  | [], _, _, _, _, _, _, _, _, h, _, _, _ => by simp at h
  | _ :: _, [], _, _, _, _, _, _, _, _, h, _, _ => by simp at h
  | p :: os, q :: ds, δ, j, 0, o, d, s, hs, h1, h2, h3, h4 => by
    simp at h1 h2; subst h1 h2
    simp only [wrL]
    unfold okS at hs
    rw [h3] at hs
    simp only [Bool.and_eq_true, List.all_eq_true, decide_eq_true_eq, ne_eq] at hs
    rw [wrL_ne fun r hr => hs.1 r hr]
    exact wr1_eq h3 h4
  | p :: os, q :: ds, δ, j, k + 1, o, d, s, hs, h1, h2, h3, h4 => by
    simp only [wrL]
    have hm : o ∈ os := List.mem_of_getElem? (by simpa using h1)
    unfold okS at hs
    simp only [Bool.and_eq_true] at hs
    have hne : slotO p ≠ some j := fun z => by
      rw [z] at hs
      have := hs.1
      simp only [List.all_eq_true, decide_eq_true_eq, ne_eq] at this
      exact this o hm h3
    exact wrL_eq hs.2 (by simpa using h1) (by simpa using h2) h3 (by rw [wr1_ne hne]; exact h4)
theorem okS_inj : ∀ {os : List Opd} {j k l : Nat} {o p : Opd}, okS os = true → os[k]? = some o → os[l]? = some p → slotO o = some j → slotO p = some j → k = l
  | [], _, _, _, _, _, _, h, _, _, _ => by simp at h
  | q :: os, j, 0, 0, _, _, _, _, _, _, _ => rfl
  | q :: os, j, 0, l + 1, o, p, hs, h1, h2, h3, h4 => by
    simp at h1; subst h1
    unfold okS at hs; rw [h3] at hs
    simp only [Bool.and_eq_true, List.all_eq_true, decide_eq_true_eq, ne_eq] at hs
    exact absurd h4 (hs.1 p (List.mem_of_getElem? (by simpa using h2)))
  | q :: os, j, k + 1, 0, o, p, hs, h1, h2, h3, h4 => by
    simp at h2; subst h2
    unfold okS at hs; rw [h4] at hs
    simp only [Bool.and_eq_true, List.all_eq_true, decide_eq_true_eq, ne_eq] at hs
    exact absurd h3 (hs.1 o (List.mem_of_getElem? (by simpa using h1)))
  | q :: os, j, k + 1, l + 1, o, p, hs, h1, h2, h3, h4 => by
    unfold okS at hs
    simp only [Bool.and_eq_true] at hs
    exact congrArg (· + 1) (okS_inj hs.2 (by simpa using h1) (by simpa using h2) h3 h4)
theorem argL_get : ∀ {os : List Opd} {δ : Env} {as : List Arg}, argL os δ = some as → os.length = as.length ∧ ∀ (k : Nat) (o : Opd), os[k]? = some o → ∃ a, as[k]? = some a ∧ argO o δ = some a
  | [], _, _, h => by simp [argL] at h; subst h; simp
  | o :: os, δ, as, h => by
    unfold argL at h
    cases q1 : argO o δ with
    | none => rw [q1] at h; simp at h
    | some a =>
      cases q2 : argL os δ with
      | none => rw [q1, q2] at h; simp at h
      | some as' =>
        rw [q1, q2] at h; simp at h; subst h
        obtain ⟨l, g⟩ := argL_get q2
        refine ⟨by simp [l], fun k p e => ?_⟩
        cases k with
        | zero => simp at e; subst e; exact ⟨a, by simp, q1⟩
        | succ k => simp at e; obtain ⟨a', e1, e2⟩ := g k p e; exact ⟨a', by simpa using e1, e2⟩

section
variable {X : Cx} {W : WX} {I H I1 H1 I2 H2 : Hp} {δ δ1 δ2 : Env} {σ σ1 σ2 : St} {F F1 F2 : FF} {A B B1 B2 C : FP} {d : D} {v : V} {i : Nat} {sl : Sl} {os : List Opd} {vs : List V} {as : List Arg}
theorem OReps.pt : ∀ {os : List Opd} {vs : List V} {B : FP}, OReps X I H δ σ F os vs B → os.length = vs.length ∧ ∃ Bs : FF, (∀ k, Le (Bs k) B) ∧ (∀ k l, k ≠ l → Dis (Bs k) (Bs l)) ∧ ∀ k o v, os[k]? = some o → vs[k]? = some v → ORep X.K X.mg I H δ σ F o v (Bs k)
  | _, _, _, .nil => ⟨rfl, fun _ => no, fun _ => no_le, fun _ _ _ => dis_no, fun k o v e => by simp at e⟩
  | _, _, _, .cons (B := B) (C := C) r rs x y z => by
    obtain ⟨l, Bs, h1, h2, h3⟩ := OReps.pt rs
    refine ⟨by simp [l], fun k => match k with | 0 => B | k + 1 => Bs k, fun k => ?_, fun k l n => ?_, fun k o v e1 e2 => ?_⟩
    · cases k with
      | zero => exact x
      | succ k => exact (h1 k).trans y
    · cases k with
      | zero =>
        cases l with
        | zero => exact absurd rfl n
        | succ l => exact z.mono Le.refl (h1 l)
      | succ k =>
        cases l with
        | zero => exact (z.mono Le.refl (h1 k)).symm
        | succ l => exact h2 k l fun q => n (by rw [q])
    · cases k with
      | zero => simp at e1 e2; subst e1 e2; exact r
      | succ k => exact h3 k o v (by simpa using e1) (by simpa using e2)
/-- an argument by itself: A what it holds, C what stays behind in its slot -/
def KP (X : Cx) (I H : Hp) (δ : Env) (σ : St) (F : FF) (o : Opd) (v : V) (a : Arg) (Bk A C : FP) : Prop :=
  Rep X.K X.mg I H a.d v A ∧ match slotO o with
    | none => Le A Bk ∧ C = no ∧ a.lk = false
    | some i => ∃ s v0, δ[i]? = some s ∧ a.lk = s.lk ∧ σ[i]? = some (some v0) ∧ back o a.d = s.d ∧ Le A (F i) ∧ Le C (F i) ∧ Dis C A ∧ (s.lk = true → A = F i ∨ True) ∧
      ∀ (I' H' : Hp) (d' : D) (B' : FP), Sub I I' → (∀ a o, C a → H a = some o → H' a = some o) → Rep X.K X.mg I' H' d' v B' → Dis C B' → Rep X.K X.mg I' H' (back o d') v0 (C.or B')
theorem kp_of {o : Opd} {a : Arg} {Bk : FP} (s : Stt X.K X.mg I H δ σ F) (r : ORep X.K X.mg I H δ σ F o v Bk) (e : argO o δ = some a) : ∃ A C, KP X I H δ σ F o v a Bk A C := by
  cases o with
  | tmp d => simp [argO] at e; subst e; exact ⟨Bk, no, r, Le.refl, rfl, rfl⟩
  | nm i =>
    cases q : δ[i]? with
    | none => simp only [argO, q] at e; cases e
    | some s0 =>
      simp only [argO, q] at e
      split at e
      · cases e
      · rename_i hne
        cases e
        rcases s.rep i s0 q with z | ⟨v', h1, h2⟩
        · exact absurd z fun z => hne z
        · rw [r.1] at h1; cases h1
          exact ⟨F i, no, h2, s0, v, q, rfl, r.1, rfl, Le.refl, no_le, no_dis, fun _ => .inr trivial, fun I' H' d' B' _ _ r' _ => r'.mono le_r⟩
  | plc i g d =>
    obtain ⟨_, sl, v0, e0, ed, es, A, C, r', h1, h2, h3, h4⟩ := r
    simp only [argO, e0, Option.some.injEq] at e
    subst e
    exact ⟨A, C, r', sl, v0, e0, rfl, es, ed.symm, h1, h2, h3, fun _ => .inr trivial, h4⟩
theorem Go.keepU (g : Go X.K X.mg I H δ σ F I1 H1 δ1 σ1 F1 B) (ho : Own I H C) (hn : ∀ a, C a → ¬ U δ F a) :
    Own I1 H1 C ∧ (∀ a o, C a → H a = some o → H1 a = some o) ∧ (∀ (i : Nat) (sl : Sl) a, δ1[i]? = some sl → sl.lk = false → F1 i a → ¬ C a) ∧ Dis B C := by
  have st : ∀ a o, C a → H a = some o → H1 a = some o := fun a o c h => g.ev.out a o h (hn a c) (ho.at c h)
  have key : ∀ a, C a → ¬ (U δ F a ∨ H a = none) := fun a c h => h.elim (hn a c) fun z => by
    obtain ⟨⟨o, e, te⟩, _⟩ := ho a c
    rw [e] at z; cases z
  refine ⟨fun a c => ?_, st, fun i sl a e l z c => key a c (g.ev.foot a (.inl ⟨i, sl, e, l, z⟩)), fun a x c => key a c (g.ev.foot a (.inr x))⟩
  obtain ⟨⟨o, e, te⟩, n⟩ := ho a c
  refine ⟨⟨o, st a o c e, te⟩, ?_⟩
  cases q : I1 a with
  | none => rfl
  | some u =>
    rcases g.ev.ice a (by rw [q]; exact fun z => nomatch z) with z | z
    · exact absurd n z
    · exact absurd z (key a c)
/-- a call: arguments by their places; what comes back is written into these -/
theorem call_ok {I0 H0 : Hp} {δ0 : Env} {F0 : FF} (go : Go X.K X.mg I0 H0 δ0 σ F0 I H δ σ F B) (rs : OReps X I H δ σ F os vs B) (hk : okS os = true) (ha : argL os δ = some as) :
    ∃ Fa : FF, Stt X.K X.mg I H (aE as) (vs.map some) Fa ∧ ∀ I' H' ds Fa' B', Go X.K X.mg I H (aE as) (vs.map some) Fa I' H' (dE as ds) (vs.map some) Fa' B' →
      ∃ F', Go X.K X.mg I0 H0 δ0 σ F0 I' H' (wrL os ds δ) σ F' B' ∧ ∀ (k : Nat) (o : Opd), os[k]? = some o → slotO o = none → (∀ i, Dis (F' i) (Fa' k)) ∧ Go X.K X.mg I0 H0 δ0 σ F0 I' H' (wrL os ds δ) σ F' (B'.or (Fa' k)) := by
  have s := go.st
  have ho := go.own
  have hdB := go.dis
  obtain ⟨hlv, Bs, b1, b2, b3⟩ := rs.pt
  obtain ⟨hla, ga⟩ := argL_get ha
  have pt : ∀ k, ∃ AC : FP × FP, ∀ o v a, os[k]? = some o → vs[k]? = some v → as[k]? = some a → KP X I H δ σ F o v a (Bs k) AC.1 AC.2 := fun k => by
    by_cases hkl : k < os.length
    · have eo := List.getElem?_eq_getElem hkl
      have ev := List.getElem?_eq_getElem (show k < vs.length by omega)
      obtain ⟨a, ea, q⟩ := ga k _ eo
      obtain ⟨A, C, kp⟩ := kp_of s (b3 k _ _ eo ev) q
      refine ⟨(A, C), fun o v a' e1 e2 e3 => ?_⟩
      rw [eo] at e1; rw [ev] at e2; rw [ea] at e3
      cases e1; cases e2; cases e3
      exact kp
    · exact ⟨(no, no), fun o v a e1 => by rw [List.getElem?_eq_none (by omega)] at e1; cases e1⟩
  obtain ⟨f, hf⟩ := Classical.axiomOfChoice pt
  -- A's: cut to the arguments
  let Fa : FF := fun k => if k < os.length then (f k).1 else no
  have fa_lt : ∀ {k}, k < os.length → Fa k = (f k).1 := fun h => by show (if _ then _ else _) = _; rw [if_pos h]
  have fa_ge : ∀ {k}, ¬ k < os.length → Fa k = no := fun h => by show (if _ then _ else _) = _; rw [if_neg h]
  have all : ∀ {k}, k < os.length → ∃ o v a, os[k]? = some o ∧ vs[k]? = some v ∧ as[k]? = some a ∧ KP X I H δ σ F o v a (Bs k) (f k).1 (f k).2 := fun {k} h => by
    have eo := List.getElem?_eq_getElem h
    have ev := List.getElem?_eq_getElem (show k < vs.length by omega)
    obtain ⟨a, ea, q⟩ := ga k _ eo
    exact ⟨_, _, a, eo, ev, ea, hf k _ _ a eo ev ea⟩
  -- where an argument lies
  have wh : ∀ {k a}, Fa k a → B a ∨ ∃ o i s0 g, os[k]? = some o ∧ slotO o = some i ∧ δ[i]? = some s0 ∧ as[k]? = some g ∧ g.lk = s0.lk ∧ F i a := fun {k a} h => by
    by_cases hkl : k < os.length
    · rw [fa_lt hkl] at h
      obtain ⟨o, v, g, eo, ev, ea, r, kp⟩ := all hkl
      cases q : slotO o with
      | none => rw [q] at kp; exact .inl (b1 k a (kp.1 a h))
      | some i => rw [q] at kp; obtain ⟨s0, v0, e0, el, _, _, le, _⟩ := kp; exact .inr ⟨o, i, s0, g, eo, q, e0, ea, el, le a h⟩
    · rw [fa_ge hkl] at h; exact h.elim
  have fown : ∀ k, Own I H (Fa k) := fun k a h => by
    rcases wh h with z | ⟨o, i, _, _, _, _, _, _, _, z⟩
    · exact ho a z
    · exact s.own i a z
  have fdis : ∀ k l, k ≠ l → Dis (Fa k) (Fa l) := fun k l n a x y => by
    by_cases hkl : k < os.length
    · by_cases hll : l < os.length
      · rw [fa_lt hkl] at x; rw [fa_lt hll] at y
        obtain ⟨o, v, g, eo, ev, ea, r, kp⟩ := all hkl
        obtain ⟨o', v', g', eo', ev', ea', r', kp'⟩ := all hll
        cases q : slotO o with
        | none =>
          rw [q] at kp
          cases q' : slotO o' with
          | none => rw [q'] at kp'; exact b2 k l n a (kp.1 a x) (kp'.1 a y)
          | some i =>
            rw [q'] at kp'
            obtain ⟨s0, v0, _, _, _, _, le, _⟩ := kp'
            exact hdB i a (le a y) (b1 k a (kp.1 a x))
        | some i =>
          rw [q] at kp
          obtain ⟨s0, v0, _, _, _, _, le, _⟩ := kp
          cases q' : slotO o' with
          | none => rw [q'] at kp'; exact hdB i a (le a x) (b1 l a (kp'.1 a y))
          | some j =>
            rw [q'] at kp'
            obtain ⟨s0', v0', _, _, _, _, le', _⟩ := kp'
            by_cases z : i = j
            · subst z; exact n (okS_inj hk eo eo' q q')
            · exact s.dis i j z a (le a x) (le' a y)
      · rw [fa_ge hll] at y; exact y
    · rw [fa_ge hkl] at x; exact x
  have sa : Stt X.K X.mg I H (aE as) (vs.map some) Fa := by
    refine ⟨s.sub, fown, fdis, fun k sl e => ?_, fun k h => fa_ge (by simp [aE] at h; omega), by simp [aE]; omega⟩
    obtain ⟨a, ea, rfl⟩ := aE_inv e
    have hkl : k < os.length := by have := (List.getElem?_eq_some_iff.mp ea).1; omega
    obtain ⟨o, v, a', eo, ev, ea', r, _⟩ := all hkl
    rw [ea] at ea'; cases ea'
    exact .inr ⟨v, by simp [ev], by rw [fa_lt hkl]; exact r⟩
  refine ⟨Fa, sa, fun I' H' ds Fa' B' g => ?_⟩
  have hld : ∀ {k}, k < os.length → ∃ d, ds[k]? = some d := fun {k} h => by
    have e := fl_len g.fl
    have e2 : (aE as).length = as.length := by simp [aE]
    obtain ⟨s1, e1⟩ : ∃ s, (dE as ds)[k]? = some s := ⟨_, List.getElem?_eq_getElem (by omega)⟩
    obtain ⟨a, d, _, h2, _⟩ := dE_inv e1
    exact ⟨d, h2⟩
  -- slots that may be written
  let has : Nat → Nat → Prop := fun i k => ∃ o a, os[k]? = some o ∧ slotO o = some i ∧ as[k]? = some a ∧ a.lk = false
  let F' : FF := fun i a => (∃ k, has i k ∧ ((f k).2 a ∨ Fa' k a)) ∨ ((¬ ∃ k, has i k) ∧ F i a)
  have hin : ∀ {i k}, has i k → F' i = FP.or (f k).2 (Fa' k) := fun {i k} hk' => by
    funext a
    refine propext ⟨fun h => ?_, fun h => .inl ⟨k, hk', h⟩⟩
    rcases h with ⟨l, hl, z⟩ | ⟨n, _⟩
    · obtain ⟨o, _, e, q, _⟩ := hk'
      obtain ⟨o', _, e', q', _⟩ := hl
      have := okS_inj hk e e' q q'
      subst this; exact z
    · exact absurd ⟨k, hk'⟩ n
  have hout : ∀ {i}, (¬ ∃ k, has i k) → F' i = F i := fun {i} n => by
    funext a
    exact propext ⟨fun h => h.elim (fun ⟨k, hk', _⟩ => absurd ⟨k, hk'⟩ n) (·.2), fun h => .inr ⟨n, h⟩⟩
  have hlt : ∀ {i k}, has i k → k < os.length := fun ⟨o, _, e, _⟩ => (List.getElem?_eq_some_iff.mp e).1
  -- what stays behind is framed
  have cfr : ∀ {i k}, has i k → Le (f k).2 (F i) ∧ ∀ a, (f k).2 a → ¬ U (aE as) Fa a := fun {i k} hk' => by
    obtain ⟨o, v, a, eo, ev, ea, r, kp⟩ := all (hlt hk')
    obtain ⟨o', _, e', q', _⟩ := hk'
    rw [eo] at e'; cases e'
    rw [q'] at kp
    obtain ⟨s0, v0, _, _, _, _, le, lc, dd, _⟩ := kp
    refine ⟨lc, fun b y ⟨l, sl, _, _, x⟩ => ?_⟩
    by_cases z : l = k
    · subst z; rw [fa_lt ((List.getElem?_eq_some_iff.mp eo).1)] at x; exact dd b y x
    · rcases wh x with w | ⟨p, j, _, _, ep, qp, _, _, _, w⟩
      · exact hdB i b (lc b y) w
      · by_cases ij : j = i
        · subst ij; exact z (okS_inj hk ep eo qp q')
        · exact s.dis j i ij b w (lc b y)
  have ffr : ∀ {i}, (¬ ∃ k, has i k) → ∀ a, F i a → ¬ U (aE as) Fa a := fun {i} n b y ⟨l, sl, el, ll, x⟩ => by
    rcases wh x with w | ⟨p, j, s0, a0, ep, qp, _, ea, _, w⟩
    · exact hdB i b y w
    · by_cases ij : j = i
      · subst ij
        rw [aE_get ea] at el; cases el
        exact n ⟨l, p, a0, ep, qp, ea, ll⟩
      · exact s.dis j i ij b w y
  have ckeep := fun {i k} (hk' : has i k) => g.keepU ((s.own i).mono (cfr hk').1) (cfr hk').2
  have fkeep := fun {i} (n : ¬ ∃ k, has i k) => g.keepU (s.own i) (ffr n)
  -- an unlocked argument behind the call
  have unl : ∀ {i k}, has i k → ∃ sl, (dE as ds)[k]? = some sl ∧ sl.lk = false := fun {i k} hk' => by
    obtain ⟨d, ed⟩ := hld (hlt hk')
    obtain ⟨o, a, _, _, ea, l⟩ := hk'
    exact ⟨_, dE_get ea ed, l⟩
  -- a slot of an argument
  have wat : ∀ {i k o}, os[k]? = some o → slotO o = some i → ∃ (s0 : Sl) (v0 : V) (a : Arg) (dk : D), δ[i]? = some s0 ∧ as[k]? = some a ∧ ds[k]? = some dk ∧ a.lk = s0.lk ∧ back o a.d = s0.d ∧ σ[i]? = some (some v0) ∧ (wrL os ds δ)[i]? = some ⟨s0.io, s0.lk, back o dk⟩ ∧
      (has i k → Rep X.K X.mg I' H' (back o dk) v0 (FP.or (f k).2 (Fa' k))) := fun {i k o} eo' q' => by
    have hlk := (List.getElem?_eq_some_iff.mp eo').1
    obtain ⟨o', v, a, eo, ev, ea, r, kp⟩ := all hlk
    rw [eo] at eo'; cases eo'
    rw [q'] at kp
    obtain ⟨s0, v0, e0, l0, es, eb, le, lc, dd, _, cl⟩ := kp
    obtain ⟨dk, ed⟩ := hld hlk
    refine ⟨s0, v0, a, dk, e0, ea, ed, l0, eb, es, wrL_eq hk eo ed q' e0, fun hk' => ?_⟩
    have rr : Rep X.K X.mg I' H' dk v (Fa' k) := by
      rcases g.st.rep k _ (dE_get ea ed) with h | ⟨v1, h1, h2⟩
      · have h' : dk = .hole := h
        rw [h']; exact .hole
      · have : v1 = v := by rw [List.getElem?_map, ev] at h1; simpa using h1.symm
        subst this; exact h2
    obtain ⟨sl, e1, l1⟩ := unl hk'
    exact cl I' H' dk (Fa' k) g.ev.inc (ckeep hk').2.1 rr fun b x y => (ckeep hk').2.2.1 k sl b e1 l1 y x
  have wne : ∀ {i}, (∀ (k : Nat) (o : Opd), os[k]? = some o → slotO o ≠ some i) → (wrL os ds δ)[i]? = δ[i]? := fun {i} n => wrL_ne fun o ho' q => by
    obtain ⟨k, hk', e⟩ := List.getElem_of_mem ho'
    exact n k o (by rw [← e]; exact List.getElem?_eq_getElem _) q
  -- a slot that is not written: as it was
  have same : ∀ {i}, (¬ ∃ k, has i k) → (wrL os ds δ)[i]? = δ[i]? := fun {i} n => by
    by_cases h : ∃ (k : Nat) (o : Opd), os[k]? = some o ∧ slotO o = some i
    · obtain ⟨k, o, eo, q⟩ := h
      obtain ⟨s0, v0, a, dk, e0, ea, ed, l0, eb, es, ew, _⟩ := wat eo q
      have la : a.lk = true := by
        cases la : a.lk with
        | true => rfl
        | false => exact absurd ⟨k, o, a, eo, q, ea, la⟩ n
      obtain ⟨e1, _, _⟩ := g.lk k _ (aE_get ea) la
      rw [dE_get ea ed] at e1
      have : dk = a.d := by simpa using e1
      rw [ew, e0, this, eb]
    · exact wne fun k o e q => h ⟨k, o, e, q⟩
  have cases_ : ∀ i, (∃ k, has i k) ∨ ¬ ∃ k, has i k := fun i => Classical.em _
  have fl' : ∀ i, ((wrL os ds δ)[i]?).map Sl.fl = (δ[i]?).map Sl.fl := fun i => by
    rcases cases_ i with ⟨k, hk'⟩ | n
    · obtain ⟨o, _, eo, q, _⟩ := hk'
      obtain ⟨s0, v0, a, dk, e0, ea, ed, l0, eb, es, ew, _⟩ := wat eo q
      rw [ew, e0]; rfl
    · rw [same n]
  have main : Go X.K X.mg I0 H0 δ0 σ F0 I' H' (wrL os ds δ) σ F' B' := by
   refine ⟨⟨g.st.sub, fun i => ?_, fun i j n => ?_, fun i sl e => ?_, fun i h => ?_, by rw [wrL_len]; exact s.len⟩, go.ev.trans (g.ev.mono (B := (U δ F).or B) (fun a h => ?_) fun a h => ?_), g.own, fun i => ?_, fun i sl e l => ?_, fun i sl e l => ?_, ?_⟩
   · rcases cases_ i with ⟨k, hk'⟩ | n
     · rw [hin hk']; exact (ckeep hk').1.or (g.st.own k)
     · rw [hout n]; exact (fkeep n).1
   · rcases cases_ i with ⟨k, hk'⟩ | ni
     · rcases cases_ j with ⟨l, hl⟩ | nj
       · rw [hin hk', hin hl]
         have kl : k ≠ l := fun z => by
           subst z
           obtain ⟨o, _, eo, q, _⟩ := hk'
           obtain ⟨o', _, eo', q', _⟩ := hl
           rw [eo] at eo'; cases eo'; rw [q] at q'; cases q'; exact n rfl
         obtain ⟨s1, e1, l1⟩ := unl hk'
         obtain ⟨s2, e2, l2⟩ := unl hl
         intro a x y
         rcases x with x | x
         · rcases y with y | y
           · exact s.dis i j n a ((cfr hk').1 a x) ((cfr hl).1 a y)
           · exact (ckeep hk').2.2.1 l s2 a e2 l2 y x
         · rcases y with y | y
           · exact (ckeep hl).2.2.1 k s1 a e1 l1 x y
           · exact g.st.dis k l kl a x y
       · rw [hin hk', hout nj]
         obtain ⟨s1, e1, l1⟩ := unl hk'
         exact fun a x y => x.elim (fun x => s.dis i j n a ((cfr hk').1 a x) y) fun x => (fkeep nj).2.2.1 k s1 a e1 l1 x y
     · rcases cases_ j with ⟨l, hl⟩ | nj
       · rw [hin hl, hout ni]
         obtain ⟨s2, e2, l2⟩ := unl hl
         exact fun a x y => y.elim (fun y => s.dis i j n a x ((cfr hl).1 a y)) fun y => (fkeep ni).2.2.1 l s2 a e2 l2 y x
       · rw [hout ni, hout nj]; exact s.dis i j n
   · rcases cases_ i with ⟨k, hk'⟩ | n
     · have hk'' := hk'
       obtain ⟨o, _, eo, q, _⟩ := hk''
       obtain ⟨s0, v0, a, dk, e0, ea, ed, l0, eb, es, ew, rr⟩ := wat eo q
       rw [ew] at e; cases e
       rw [hin hk']
       exact .inr ⟨v0, es, rr hk'⟩
     · rw [same n] at e
       rw [hout n]
       rcases s.rep i sl e with h | ⟨v, h1, h2⟩
       · exact .inl h
       · exact .inr ⟨v, h1, h2.frame g.ev.inc (fkeep n).2.1⟩
   · rw [wrL_len] at h
     have n : ¬ ∃ k, has i k := fun ⟨k, hk'⟩ => by
       obtain ⟨o, _, eo, q, _⟩ := hk'
       obtain ⟨s0, v0, a, dk, e0, _⟩ := wat eo q
       have := (List.getElem?_eq_some_iff.mp e0).1
       omega
     rw [hout n]; exact s.emp i h
   · obtain ⟨k, sl, e, l, x⟩ := h
     rcases wh x with w | ⟨o, i, s0, a0, eo, q, e0, ea, el, w⟩
     · exact .inr w
     · rw [aE_get ea] at e; cases e
       exact .inl ⟨i, s0, e0, el.symm.trans l, w⟩
   · rcases h with ⟨i, sl, e, l, x⟩ | h
     · rcases cases_ i with ⟨k, hk'⟩ | n
       · rw [hin hk'] at x
         have hk'' := hk'
         obtain ⟨o, _, eo, q, _⟩ := hk''
         obtain ⟨s0, v0, a2, dk, e0, ea, ed, l0, eb, es, ew, rr⟩ := wat eo q
         rw [ew] at e; cases e
         rcases x with x | x
         · exact .inr (.inl (.inl ⟨i, s0, e0, l, (cfr hk').1 a x⟩))
         · obtain ⟨s1, e1, l1⟩ := unl hk'
           exact .inl (.inl ⟨k, s1, e1, l1, x⟩)
       · rw [hout n] at x; rw [same n] at e
         exact .inr (.inl (.inl ⟨i, sl, e, l, x⟩))
     · exact .inl (.inr h)
   · rcases cases_ i with ⟨k, hk'⟩ | n
     · rw [hin hk']
       exact fun a x y => x.elim (fun x => (ckeep hk').2.2.2 a y x) fun x => g.dis k a x y
     · rw [hout n]; exact fun a x y => (fkeep n).2.2.2 a y x
   · obtain ⟨a1, a2, a3⟩ := go.lk i sl e l
     have n : ¬ ∃ k, has i k := fun ⟨k, o, a, eo, q, ea, la⟩ => by
       obtain ⟨s0, v0, a', dk, e0, ea', ed, l0, _⟩ := wat eo q
       rw [ea] at ea'; cases ea'
       rw [a1] at e0; cases e0
       rw [la, l] at l0; cases l0
     exact ⟨(same n).trans a1, (hout n).trans a2, rfl⟩
   · exact go.io i sl e l
   · refine Eq.trans (List.ext_getElem? fun j => ?_) go.fl
     rw [List.getElem?_map, List.getElem?_map]
     exact fl' j
  refine ⟨F', main, fun k o eo q => ?_⟩
  have hkl := (List.getElem?_eq_some_iff.mp eo).1
  obtain ⟨o', v, a, eo', ev, ea, r, kp⟩ := all hkl
  rw [eo] at eo'; cases eo'
  rw [q] at kp
  obtain ⟨dk, ed⟩ := hld hkl
  have e1 := dE_get ea ed
  have dd : ∀ i, Dis (F' i) (Fa' k) := fun i => by
    rcases cases_ i with ⟨l, hl⟩ | n
    · rw [hin hl]
      have kl : l ≠ k := fun z => by
        subst z
        obtain ⟨o', _, eo', q', _⟩ := hl
        rw [eo] at eo'; cases eo'; rw [q] at q'; cases q'
      exact fun b x y => x.elim (fun x => (ckeep hl).2.2.1 k _ b e1 kp.2.2 y x) fun x => g.st.dis l k kl b x y
    · rw [hout n]; exact fun b x y => (fkeep n).2.2.1 k _ b e1 kp.2.2 y x
  refine ⟨dd, ⟨main.st, main.ev.mono Le.refl fun a h => ?_, main.own.or (g.st.own k), fun i a x y => y.elim (main.dis i a x) (dd i a x), main.lk, main.io, main.fl⟩⟩
  rcases h with h | h | h
  · exact .inl (.inl h)
  · exact .inl (.inr h)
  · refine .inr ?_
    rcases g.ev.foot a (.inl ⟨k, _, e1, kp.2.2, h⟩) with z | z
    · obtain ⟨l, sl, e, ll, x⟩ := z
      rcases wh x with w | ⟨p, i, s0, a0, ep, qp, e0, ea', el, w⟩
      · exact (go.ev.foot a (.inr w))
      · rw [aE_get ea'] at e; cases e
        exact (go.ev.foot a (.inl ⟨i, s0, e0, el.symm.trans ll, w⟩))
    · by_cases z2 : U δ0 F0 a
      · exact .inl z2
      · cases z3 : H0 a with
        | none => exact .inr rfl
        | some u => exact absurd z (go.ev.there z3 z2)

/-! ### the call of a def -/
def ddA (dd : List D) : List Arg := dd.map fun d => ⟨false, d⟩
def eCall (G : DFn) (dd : List D) (fa : AF) : EF := fun δ => (fa δ).bind fun os δ1 => match okS os, argL os δ1 with
  | true, some as => match G (as ++ ddA dd) with
    | .ok r ds => .ok (.tmp r) (wrL os ds δ1)
    | .er x ds => .er x (wrL os ds δ1)
    | .stk => .stk
  | _, _ => .stk
/-- defaults: texts, ints .. -/
def Dfl (dd : List D) (dvs : List V) (K : PySem.W.Frag) (mg : Str → Option Value) : Prop := ∀ I H, Reps K mg I H dd dvs no
theorem dE_app {as : List Arg} {dd ds : List D} : dE (as ++ ddA dd) ds = dE as ds ++ dE (ddA dd) (ds.drop as.length) := by
  induction as generalizing ds with
  | nil => simp [dE]
  | cons a as ih =>
    cases ds with
    | nil => cases h : ddA dd <;> simp [dE]
    | cons d ds => simp [dE, ih]
/-- arguments that hold nothing are left out -/
theorem go_args {as : List Arg} {dd : List D} {dvs : List V} {Fa : FF} (hd : Dfl dd dvs X.K X.mg) (s : Stt X.K X.mg I H (aE as) (vs.map some) Fa) :
    Stt X.K X.mg I H (aE (as ++ ddA dd)) ((vs ++ dvs).map some) Fa ∧ ∀ I' H' ds Fa' B', Go X.K X.mg I H (aE (as ++ ddA dd)) ((vs ++ dvs).map some) Fa I' H' (dE (as ++ ddA dd) ds) ((vs ++ dvs).map some) Fa' B' →
      ∃ Fb, Go X.K X.mg I H (aE as) (vs.map some) Fa I' H' (dE as ds) (vs.map some) Fb B' := by
  have hl : as.length = vs.length := by have := s.len; simpa [aE] using this
  have hr := hd I H
  have hdl : dd.length = dvs.length := hr.length
  have ae : aE (as ++ ddA dd) = aE as ++ aE (ddA dd) := by simp [aE]
  refine ⟨⟨s.sub, s.own, s.dis, fun i sl e => ?_, fun i h => s.emp i (by simp [aE] at h ⊢; omega), by simp [aE, ddA, hl, hdl]⟩, fun I' H' ds Fa' B' g => ?_⟩
  · by_cases hi : i < as.length
    · rw [ae, List.getElem?_append_left (by simpa [aE] using hi)] at e
      rcases s.rep i sl e with h | ⟨v, h1, h2⟩
      · exact .inl h
      · refine .inr ⟨v, ?_, h2⟩
        rw [List.map_append, List.getElem?_append_left (by simp; omega)]; exact h1
    · obtain ⟨a, ea, rfl⟩ := aE_inv e
      rw [List.getElem?_append_right (by omega)] at ea
      unfold ddA at ea
      rw [List.getElem?_map] at ea
      cases q : dd[i - as.length]? with
      | none => rw [q] at ea; cases ea
      | some d =>
        rw [q] at ea; cases ea
        obtain ⟨v, h1, h2⟩ := hr.get q
        refine .inr ⟨v, ?_, h2.mono no_le⟩
        rw [List.getElem?_map, List.getElem?_append_right (by omega), ← hl, h1]; rfl
  · have hlen : (dE (as ++ ddA dd) ds).length = as.length + dd.length := by have := fl_len g.fl; simpa [aE, ddA] using this
    have hde : ∀ {i}, i < as.length → (dE as ds)[i]? = (dE (as ++ ddA dd) ds)[i]? := fun {i} hi => by
      have hl2 : as.length ≤ (dE as ds).length := by
        have h2 := congrArg List.length (dE_app (as := as) (dd := dd) (ds := ds))
        rw [List.length_append] at h2
        have h3 : (dE (ddA dd) (ds.drop as.length)).length ≤ dd.length := by
          have : ∀ (l : List Arg) (m : List D), (dE l m).length ≤ l.length := by
            intro l; induction l with
            | nil => intro m; simp [dE]
            | cons a l ih => intro m; cases m <;> simp [dE, ih]
          have := this (ddA dd) (ds.drop as.length)
          simpa [ddA] using this
        omega
      rw [dE_app, List.getElem?_append_left (by omega)]
    have hdn : ∀ {i}, ¬ i < as.length → (dE as ds)[i]? = none := fun {i} hi => by
      refine List.getElem?_eq_none ?_
      have : ∀ (l : List Arg) (m : List D), (dE l m).length ≤ l.length := by
        intro l; induction l with
        | nil => intro m; simp [dE]
        | cons a l ih => intro m; cases m <;> simp [dE, ih]
      have := this as ds
      omega
    let Fb : FF := fun i => if i < as.length then Fa' i else no
    have fle : ∀ {i}, Le (Fb i) (Fa' i) := fun {i} a h => by
      have h' : (if i < as.length then Fa' i else no) a := h
      split at h'
      · exact h'
      · exact h'.elim
    have fge : ∀ {i}, ¬ i < as.length → Fb i = no := fun h => by show (if _ then _ else _) = _; rw [if_neg h]
    have flt : ∀ {i}, i < as.length → Fb i = Fa' i := fun h => by show (if _ then _ else _) = _; rw [if_pos h]
    have aeq : ∀ {i}, i < as.length → (aE (as ++ ddA dd))[i]? = (aE as)[i]? := fun hi => by rw [ae, List.getElem?_append_left (by simpa [aE] using hi)]
    have veq : ∀ {i}, i < as.length → ((vs ++ dvs).map some)[i]? = (vs.map some)[i]? := fun {i} hi => by rw [List.map_append, List.getElem?_append_left (by simp; omega)]
    have dlen : (dE as ds).length = as.length := by
      by_cases z : as.length = 0
      · have := hdn (i := 0) (by omega)
        rw [z]; simpa using this
      · obtain ⟨s1, e1⟩ : ∃ s, (dE (as ++ ddA dd) ds)[as.length - 1]? = some s := ⟨_, List.getElem?_eq_getElem (by omega)⟩
        rw [← hde (by omega)] at e1
        have h1 := (List.getElem?_eq_some_iff.mp e1).1
        have h2 := List.getElem?_eq_none_iff.mp (hdn (i := as.length) (by omega))
        omega
    refine ⟨Fb, ⟨g.st.sub, fun i => (g.st.own i).mono fle, fun i j n => (g.st.dis i j n).mono fle fle, fun i sl e => ?_, fun i h => fge (by omega), by rw [dlen]; simp [hl]⟩, g.ev.mono (fun a ⟨i, sl, e, l, z⟩ => ?_) fun a q => ?_, g.own, fun i => (g.dis i).mono fle Le.refl, fun i sl e l => ?_, fun _ _ _ _ => rfl, ?_⟩
    · have hi : i < as.length := by rw [← dlen]; exact (List.getElem?_eq_some_iff.mp e).1
      rw [hde hi] at e
      rw [flt hi]
      rcases g.st.rep i sl e with h | ⟨v, h1, h2⟩
      · exact .inl h
      · exact .inr ⟨v, by rw [← veq hi]; exact h1, h2⟩
    · by_cases hi : i < as.length
      · rw [aeq hi] at e; exact ⟨i, sl, e, l, z⟩
      · rw [s.emp i (by simpa [aE] using hi)] at z; exact z.elim
    · rcases q with ⟨i, sl, e, l, z⟩ | q
      · have hi : i < as.length := by rw [← dlen]; exact (List.getElem?_eq_some_iff.mp e).1
        rw [hde hi] at e
        exact .inl (.inl ⟨i, sl, e, l, fle a z⟩)
      · exact .inl (.inr q)
    · have hi : i < as.length := by have := (List.getElem?_eq_some_iff.mp e).1; simpa [aE] using this
      obtain ⟨a1, a2, a3⟩ := g.lk i sl (by rw [aeq hi]; exact e) l
      exact ⟨by rw [hde hi]; exact a1, by rw [flt hi]; exact a2, rfl⟩
    · refine List.ext_getElem? fun i => ?_
      by_cases hi : i < as.length
      · rw [List.getElem?_map, hde hi, List.getElem?_map, ← aeq hi, ← List.getElem?_map, g.fl, List.getElem?_map]
      · rw [List.getElem?_map, hdn hi, List.getElem?_map, List.getElem?_eq_none (by simpa [aE] using hi)]
theorem call_go {n : Nat} {G : DFn} {dd : List D} {dvs : List V} {I0 H0 : Hp} {δ0 : Env} {F0 : FF} {Q : VK} (hd : Dfl dd dvs X.K X.mg) (hn : vs.length + dvs.length = n) (go : Go X.K X.mg I0 H0 δ0 σ F0 I H δ σ F B) (rs : OReps X I H δ σ F os vs B)
    (h : EO X W I0 H0 δ0 σ F0 Q (match okS os, argL os δ with
      | true, some as => match G (as ++ ddA dd) with
        | .ok r ds => .ok (.tmp r) (wrL os ds δ)
        | .er x ds => .er x (wrL os ds δ)
        | .stk => .stk
      | _, _ => .stk)) : spD X.K X.mg n G (vs ++ dvs) H Q (WE W σ) := by
  cases q1 : okS os with
  | false => rw [q1] at h; exact h.elim
  | true =>
    cases q2 : argL os δ with
    | none => rw [q1, q2] at h; exact h.elim
    | some as =>
      rw [q1, q2] at h
      obtain ⟨Fa, sa, k⟩ := call_ok go rs q1 q2
      obtain ⟨sa2, k2⟩ := go_args hd sa
      refine ⟨by simpa using hn, as ++ ddA dd, I, Fa, sa2, ?_⟩
      cases q3 : G (as ++ ddA dd) with
      | stk => simp only [q3] at h; exact h.elim
      | ok r ds =>
        simp only [q3] at h
        intro v I' H' F' B' g rr
        obtain ⟨Fb, g2⟩ := k2 I' H' ds F' B' g
        obtain ⟨F2, g3, _⟩ := k I' H' ds Fb B' g2
        exact h v I' H' F2 B' g3 rr
      | er x ds =>
        simp only [q3] at h
        intro cls dx I' H' F' g rr
        obtain ⟨Fb, g2⟩ := k2 I' H' ds F' no g
        obtain ⟨F2, g3, _⟩ := k I' H' ds Fb no g2
        exact h cls dx I' H' F2 g3 rr
end
section
variable {X : Cx} {W : WX} {k : Nat} {f : Addr} {fd : FuncData} {ps : List Str} {n : Nat} {G : DFn} {dvs : List V} {ds : List Value} {dd : List D} {x : Str} {p pos : Pos} {e : Expr} {es : List Expr} {fa : AF}
/-- how many arguments -/
def Ar (m : Nat) (fa : AF) : Prop := ∀ δ os δ', fa δ = .ok os δ' → os.length = m
theorem ar_nil : Ar 0 eNil := fun δ os δ' h => by unfold eNil at h; cases h; rfl
theorem ar_cons {m : Nat} {f : EF} (h : Ar m fa) : Ar (m + 1) (eCons f fa) := fun δ os δ' e => by
  unfold eCons at e
  cases q : f δ with
  | stk => rw [q] at e; cases e
  | er x δ' => rw [q] at e; cases e
  | ok o δ1 =>
    rw [q] at e
    change ((((fa (lockO o δ1)).mapE (unlockO o δ1)).bind fun os δ2 => R.ok (o :: os) δ2) : R (List Opd)) = _ at e
    cases q2 : fa (lockO o δ1) with
    | stk => rw [q2] at e; cases e
    | er x δ' => rw [q2] at e; cases e
    | ok os' δ2 => rw [q2] at e; cases e; simp [h _ _ _ q2]
theorem se_call {t : TA} {m : Nat} (hd : Dfl dd dvs X.K X.mg) (hm : Ar m fa) (hn : m + dvs.length = n) (h2 : SA X W t fa) : SE X W (tCallSD (spD X.K X.mg n G) dvs (WE W) t) (eCall G dd fa) := by
  intro I H δ σ F Q s h
  refine h2 I H δ σ F _ s ?_
  unfold eCall at h
  cases q : fa δ with
  | stk => rw [q] at h; exact h.elim
  | er x δ' => rw [q] at h; exact h
  | ok os δ1 =>
    rw [q] at h
    intro vs I1 H1 F1 B go rs
    have hl := hm δ os δ1 q
    refine call_go hd (by have := rs.pt.1; omega) go rs h
theorem dfl_nil {K : PySem.W.Frag} {mg : Str → Option Value} : Dfl [] [] K mg := fun _ _ => .nil
/-- f(e, ..) -/
theorem de_call {m : Nat} (Fn : FnOk X.prog X.w X.K X.mg X.base (L2.CX X.prog X.w) k f fd ps (spD X.K X.mg n G)) (hr : Room k X.A) (hg : Gl X x) (hmg : X.mg x = some (.ref f)) (hk : PySem.W.keepIn X.K (.ref f) = true) (hb : Binds X.K fd ps ds) (hv : Vals dvs ds)
    (hd : Dfl dd dvs X.K X.mg) (tk : Takes X W) (ha : DA X W (e :: es) fa) (hm : Ar m fa) (hn : m + dvs.length = n) (hdb : (x == ("__debug__" : Str)) = false := by decide)
    (he : starEach (e :: es) X.env = (false, eval e X.env) :: starEach es X.env := by rfl) (hpl : (backTo pos (starEach es X.env)).any (·.1) = false := by rfl) :
    DE X W (.Call (.Name x p) (e :: es) [] pos) (eCall G dd fa) :=
  let ⟨_, pa, qa⟩ := ha
  ⟨_, pe_callSD (E := WE W) Fn hr hg hmg hk hb hv (fun σ => passAt tk σ) pa hdb he hpl, se_call hd hm hn qa⟩
end
end DL

set_option linter.all false
set_option autoImplicit false
namespace DL
open PySem PySem.Spec L2
open PyProof.Rows hiding St

def lockL : List Opd → Env → Env
  | [], δ => δ
  | o :: os, δ => lockL os (lockO o δ)
def unlockL : List Opd → Env → Env → Env
  | [], _, δ => δ
  | o :: os, δ0, δ => unlockO o δ0 (unlockL os (lockO o δ0) δ)
section
variable (X : Cx) (W : WX)
/-- what is walked: items that hold nothing; o: the place that is locked meanwhile -/
def IO (I H : Hp) (δ : Env) (σ : St) (F : FF) (Q : It → Hp → Prop) (r : R (List D × List Opd)) : Prop := match r with
  | .ok (ds, o) δ' => ∀ I' H' F', Go X.K X.mg I H δ σ F I' H' δ' σ F' no → ∀ (J : It) (G : Hp → Prop) (Y : Nat → Hp → V → Hp → Prop), L2.Walk J ds.length G Y →
      (∀ I2 H2 δ2 σ2 F2 B, Go X.K X.mg I' H' (lockL o δ') σ F' I2 H2 δ2 σ2 F2 B → G H2 ∧ ∀ i d x H3, ds[i]? = some d → Y i H2 x H3 → ∃ I3, NewV X.K X.mg I2 H2 d x I3 H3 no) → Q J H'
  | .er x δ' => ErO X W I H δ σ F x δ'
  | .stk => False
abbrev IF := Env → R (List D × List Opd)
def SI (wi : TI) (f : IF) : Prop := ∀ I H δ σ F Q, Stt X.K X.mg I H δ σ F → IO X W I H δ σ F Q (f δ) → wi σ H Q
def DI (tg iter : Expr) (f : IF) : Prop := ∃ wi, PI X tg iter wi ∧ SI X W wi f
def SG (ws : List Nat) (g : TG) (gd : D → Env → Option Env) : Prop := ∀ I0 H0 δ0 σ0 F0 I H δ σ F B d v Q δ', Go X.K X.mg I0 H0 δ0 σ0 F0 I H δ σ F B → Rep X.K X.mg I H d v no → gd d δ = some δ' →
  (∀ σ' F', Go X.K X.mg I0 H0 δ0 σ0 F0 I H δ' σ' F' B → (∀ j, j ∉ ws → σ'[j]? = σ[j]?) → Q σ' H) → g v σ H Q
def DG (ws : List Nat) (tg : Expr) (gd : D → Env → Option Env) : Prop := ∃ g, PG X tg g ∧ SG X ws g gd
end
section
variable {X : Cx} {W : WX} {I H I1 H1 I2 H2 : Hp} {δ δ1 δ2 : Env} {σ σ1 σ2 : St} {F F1 F2 : FF} {A B B1 B2 C : FP} {d : D} {v : V} {i : Nat} {sl : Sl}

/-! ### targets -/
theorem setN_go {i : Nat} (g : Go X.K X.mg I H δ σ F I1 H1 δ1 σ1 F1 B) (r : Rep X.K X.mg I1 H1 d v no) (e : setN i d δ1 = some δ2) : Go X.K X.mg I H δ σ F I1 H1 δ2 (σ1.set i (some v)) (F1.set i no) B := by
  have go1 : ∃ s0 : Sl, δ1[i]? = some s0 ∧ s0.io = false ∧ s0.lk = false ∧ δ2 = δ1.set i ⟨false, false, d⟩ := by
    unfold setN at e
    cases q : δ1[i]? with
    | none => rw [q] at e; cases e
    | some s0 =>
      rw [q] at e
      obtain ⟨io, lk, d0⟩ := s0
      cases io <;> cases lk <;> simp only [reduceCtorEq, Option.some.injEq] at e
      exact ⟨_, rfl, rfl, rfl, e.symm⟩
  obtain ⟨s0, q, hio, hlk, rfl⟩ := go1
  have hi : i < σ1.length := by rw [← g.st.len]; exact (List.getElem?_eq_some_iff.mp q).1
  refine ⟨g.st.put (List.getElem?_eq_some_iff.mp q).1 (.inr ⟨v, by rw [List.getElem?_set_self hi], r⟩) own_no (fun _ _ => dis_no) (fun j n => by rw [List.getElem?_set_ne (Ne.symm n)]) (by simp), ?_, g.own, fun j => ?_, fun j s1 e0 l0 => ?_, fun j s1 e0 l0 => ?_, ?_⟩
  · refine g.ev.mono Le.refl fun a w => ?_
    rcases w with ⟨j, s, ej, lj, z⟩ | w
    · by_cases q2 : j = i
      · subst q2; rw [FF.set_same] at z; exact z.elim
      · rw [FF.set_ne q2] at z
        rw [List.getElem?_set_ne (Ne.symm q2)] at ej
        exact .inl (.inl ⟨j, s, ej, lj, z⟩)
    · exact .inl (.inr w)
  · by_cases q2 : j = i
    · subst q2; rw [FF.set_same]; exact no_dis
    · rw [FF.set_ne q2]; exact g.dis j
  · obtain ⟨a1, a2, a3⟩ := g.lk j s1 e0 l0
    have n : j ≠ i := fun z => by subst z; rw [q] at a1; cases a1; rw [hlk] at l0; cases l0
    exact ⟨by rw [List.getElem?_set_ne (Ne.symm n)]; exact a1, by rw [FF.set_ne n]; exact a2, by rw [List.getElem?_set_ne (Ne.symm n)]; exact a3⟩
  · have n : j ≠ i := fun z => by
      subst z
      obtain ⟨s', e', f1, f2⟩ := fl_some g.fl q
      rw [e0] at e'; cases e'
      rw [l0, hio] at f1; cases f1
    rw [List.getElem?_set_ne (Ne.symm n)]
    exact g.io j s1 e0 l0
  · rw [← g.fl, List.map_set]
    refine List.ext_getElem? fun j => ?_
    by_cases q2 : j = i
    · subst q2
      rw [List.getElem?_set_self (by simpa using (List.getElem?_eq_some_iff.mp q).1), List.getElem?_map, q]
      simp [Sl.fl, hio, hlk]
    · rw [List.getElem?_set_ne (Ne.symm q2)]
theorem sg_name : SG X [i] (gName i) (setN i) := fun I0 H0 δ0 σ0 F0 I H δ σ F B d v Q δ' g r e h => h _ _ (setN_go g r e) fun j n => List.getElem?_set_ne fun z => n (by simp [z])
theorem dg_name {x : Str} {pos : Pos} (hN : X.N.Nodup) (hi : X.N[i]? = some x) (hx : Loc X.env.scope x) (hf : X.fn x = true ∨ X.env.scope.names.lookup x = some .local := by first | exact .inl rfl | exact .inr rfl | assumption) : DG X [i] (.Name x pos) (setN i) :=
  ⟨_, pg_name hN hi hx hf, sg_name⟩
def SGs (X : Cx) (ws : List Nat) (g : TGs) (gd : List D → Env → Option Env) : Prop := ∀ I0 H0 δ0 σ0 F0 I H δ σ F B ds vs Q δ', Go X.K X.mg I0 H0 δ0 σ0 F0 I H δ σ F B → Reps X.K X.mg I H ds vs no → gd ds δ = some δ' →
  (∀ σ' F', Go X.K X.mg I0 H0 δ0 σ0 F0 I H δ' σ' F' B → (∀ j, j ∉ ws → σ'[j]? = σ[j]?) → Q σ' H) → g vs σ H Q
def DGs (X : Cx) (ws : List Nat) (ts : List Expr) (gd : List D → Env → Option Env) : Prop := ∃ g, PGs X ts g ∧ SGs X ws g gd
def gdNil : List D → Env → Option Env
  | [], δ => some δ
  | _, _ => none
def gdCons (g : D → Env → Option Env) (gs : List D → Env → Option Env) : List D → Env → Option Env
  | d :: ds, δ => match g d δ with
    | some δ1 => gs ds δ1
    | none => none
  | [], _ => none
theorem dgs_nil : DGs X [] [] gdNil := by
  refine ⟨_, pgs_nil, fun I0 H0 δ0 σ0 F0 I H δ σ F B ds vs Q δ' g r e h => ?_⟩
  cases r with
  | nil => simp only [gdNil, Option.some.injEq] at e; subst e; exact ⟨rfl, h σ F g fun _ _ => rfl⟩
  | cons => cases e
theorem Reps.sub_no {ds : List D} {vs : List V} (r : Reps X.K X.mg I H ds vs A) (h : ∀ a, A a → False) : Reps X.K X.mg I H ds vs no := r.mono fun a x => h a x
theorem dgs_cons {w1 w2 : List Nat} {t : Expr} {ts : List Expr} {g : D → Env → Option Env} {gs : List D → Env → Option Env} (h1 : DG X w1 t g) (h2 : DGs X w2 ts gs)
    (hp : ∀ {tg tgs}, PG X t tg → PGs X ts tgs → PGs X (t :: ts) (gCons tg tgs)) : DGs X (w1 ++ w2) (t :: ts) (gdCons g gs) := by
  obtain ⟨tg, p, q⟩ := h1
  obtain ⟨tgs, p2, q2⟩ := h2
  refine ⟨_, hp p p2, fun I0 H0 δ0 σ0 F0 I H δ σ F B ds vs Q δ' go r e h => ?_⟩
  cases r with
  | nil => cases e
  | cons r rs x y z =>
    rename_i d ds v vs B' C'
    simp only [gdCons] at e
    cases q1 : g d δ with
    | none => rw [q1] at e; cases e
    | some δ1 =>
      rw [q1] at e
      refine ⟨v, vs, rfl, q I0 H0 δ0 σ0 F0 I H δ σ F B d v _ δ1 go (r.mono x) q1 fun σ' F' go' n1 => ?_⟩
      exact q2 I0 H0 δ0 σ0 F0 I H δ1 σ' F' B ds vs Q δ' go' (rs.mono y) e fun σ2 F2 g2 n2 => h σ2 F2 g2 fun j hj => (n2 j fun z => hj (List.mem_append_right _ z)).trans (n1 j fun z => hj (List.mem_append_left _ z))
def gdTup (n : Nat) (gs : List D → Env → Option Env) : D → Env → Option Env
  | .tup ds, δ => if ds.length = n then gs ds δ else none
  | _, _ => none
theorem dg_tup {es : List Expr} {k n : Nat} {pos : Pos} {gs : List D → Env → Option Env} {ws : List Nat} (h : DGs X ws es gs) (hp : ∀ {tgs}, PGs X es tgs → PG X (.Tuple es k pos) (gTup X.K n tgs)) : DG X ws (.Tuple es k pos) (gdTup n gs) := by
  obtain ⟨tgs, p, q⟩ := h
  refine ⟨_, hp p, fun I0 H0 δ0 σ0 F0 I H δ σ F B d v Q δ' go r e hq => ?_⟩
  cases r <;> simp only [gdTup, reduceCtorEq] at e
  rename_i a ds vs h rs
  split at e
  · rename_i hl
    exact ⟨a, vs, rfl, SqT.of (go.st.sub _ _ h), by rw [← rs.length]; exact hl, q I0 H0 δ0 σ0 F0 I H δ σ F B ds vs Q δ' go rs e hq⟩
  · cases e

/-! ### for -/
def forL (gd : D → Env → Option Env) (bf : SF) : List D → Env → Out
  | [], δ => .nx δ
  | d :: ds, δ => match gd d δ with
    | some δ1 => match bf δ1 with
      | .nx δ2 => forL gd bf ds δ2
      | .ct δ2 => forL gd bf ds δ2
      | .bk δ2 => .nx δ2
      | r => r
    | none => .stk
def sFor (it : IF) (gd : D → Env → Option Env) (bf : SF) : SF := fun δ => (it δ).bindS fun p δ1 => (forL gd bf p.1 (lockL p.2 δ1)).mapE (unlockL p.2 δ1)
theorem Go.unlockO {o : Opd} (g : Go X.K X.mg I H (lockO o δ) σ F I1 H1 δ1 σ1 F1 B) : Go X.K X.mg I H δ σ F I1 H1 (unlockO o δ δ1) σ1 F1 B := by
  cases o with
  | plc i p d => exact g.unlock
  | _ => exact g
theorem Go.unlockL : ∀ {o : List Opd} {δ : Env}, Go X.K X.mg I H (lockL o δ) σ F I1 H1 δ1 σ1 F1 B → Go X.K X.mg I H δ σ F I1 H1 (unlockL o δ δ1) σ1 F1 B
  | [], _, g => g
  | o :: os, δ, g => (Go.unlockL (o := os) g).unlockO
theorem Stt.lockL : ∀ {o : List Opd} {δ : Env}, Stt X.K X.mg I H δ σ F → Stt X.K X.mg I H (DL.lockL o δ) σ F
  | [], _, s => s
  | o :: os, δ, s => Stt.lockL (o := os) s.lockO
theorem SO.lock {E : Ends} {o : List Opd} {r : Out} {I0 H0 : Hp} {δ0 : Env} {σ0 : St} {F0 : FF} (g : Go X.K X.mg I0 H0 δ0 σ0 F0 I H δ σ F no) (h : SO X W E I0 H0 δ0 σ0 F0 (r.mapE (unlockL o δ))) : SO X W E I H (lockL o δ) σ F r := by
  cases r with
  | nx δ' => exact fun I' H' σ' F' g' => h I' H' σ' F' (g.trans0 g'.unlockL)
  | bk δ' => exact fun I' H' σ' F' g' => h I' H' σ' F' (g.trans0 g'.unlockL)
  | ct δ' => exact fun I' H' σ' F' g' => h I' H' σ' F' (g.trans0 g'.unlockL)
  | rt d δ' => exact fun v I' H' σ' F' B g' r => h v I' H' σ' F' B (g.trans0 g'.unlockL) r
  | er x δ' => exact fun cls dx I' H' σ' F' g' r => h cls dx I' H' σ' F' (g.trans0 g'.unlockL) r
  | stk => exact h
theorem ds_for {tg iter : Expr} {body : List Stmt} {it : IF} {gd : D → Env → Option Env} {bf : SF} {pos : Pos} {ws : List Nat} (hp : PassesOwn (model X.prog X.w) X.A X.env X.xe) (hc : X.calm = true) (hi : DI X W tg iter it) (hg : DG X ws tg gd) (hb : DSs X W body bf)
    (hs : ∀ x, foldedSetIterable iter X.env x = pure x := by intro _; rfl) : DS X W (.For tg iter body [] pos) (sFor it gd bf) := by
  obtain ⟨wi, pi, qi⟩ := hi
  obtain ⟨g, pg, qg⟩ := hg
  obtain ⟨tb, pb, qb⟩ := hb
  refine ⟨_, ps_for hp hc pi pg pb hs, fun I H δ σ F E s h => qi I H δ σ F _ s ?_⟩
  unfold sFor at h
  cases q : it δ with
  | stk => rw [q] at h; exact h.elim
  | er x δ' => rw [q] at h; exact ErS.o h
  | ok p δ1 =>
    obtain ⟨ds, o⟩ := p
    rw [q] at h
    intro I' H' F' go J G Y wk st
    have h' : SO X W E I' H' (lockL o δ1) σ F' (forL gd bf ds (lockL o δ1)) := SO.lock go h
    have sl : Stt X.K X.mg I' H' (lockL o δ1) σ F' := go.st.lockL
    refine for_it wk (fun i σ2 H2 => ∃ I2 δ2 F2, Go X.K X.mg I' H' (lockL o δ1) σ F' I2 H2 δ2 σ2 F2 no ∧ SO X W E I2 H2 δ2 σ2 F2 (forL gd bf (ds.drop i) δ2)) ⟨I', _, F', Go.refl sl, by simpa using h'⟩
      (fun i σ2 H2 _ ⟨I2, δ2, F2, g2, _⟩ => (st I2 H2 δ2 σ2 F2 no g2).1) (fun i x σ2 H2 H3 hi ⟨I2, δ2, F2, g2, so⟩ y => ?_) fun σ2 H2 ⟨I2, δ2, F2, g2, so⟩ => ?_
    · have ed := List.getElem?_eq_getElem hi
      obtain ⟨I3, nv⟩ := (st I2 H2 δ2 σ2 F2 no g2).2 i _ x H3 ed y
      have g3 := Go.new g2.st nv
      have hd : ds.drop i = ds[i] :: ds.drop (i + 1) := List.drop_eq_getElem_cons hi
      rw [hd] at so
      simp only [forL] at so
      cases q1 : gd ds[i] δ2 with
      | none => rw [q1] at so; exact so.elim
      | some δ3 =>
        rw [q1] at so
        refine qg I2 H2 δ2 σ2 F2 I3 H3 δ2 σ2 F2 no _ x _ δ3 g3 nv.rep q1 fun σ4 F4 g4 _ => ?_
        refine qb I3 H3 δ3 σ4 F4 _ g4.st ?_
        have so2 : SO X W E I3 H3 δ3 σ4 F4 (match bf δ3 with
          | .nx δ2 => forL gd bf (ds.drop (i + 1)) δ2
          | .ct δ2 => forL gd bf (ds.drop (i + 1)) δ2
          | .bk δ2 => .nx δ2
          | r => r) := so.trans g4
        have g5 := g2.trans0 g4
        cases q2 : bf δ3 with
        | nx δ4 => rw [q2] at so2; exact fun I5 H5 σ5 F5 g6 => ⟨I5, δ4, F5, g5.trans0 g6, so2.trans g6⟩
        | ct δ4 => rw [q2] at so2; exact fun I5 H5 σ5 F5 g6 => ⟨I5, δ4, F5, g5.trans0 g6, so2.trans g6⟩
        | bk δ4 => rw [q2] at so2; exact so2
        | rt d δ4 => rw [q2] at so2; exact so2
        | er x δ4 => rw [q2] at so2; exact so2
        | stk => rw [q2] at so2; exact so2
    · rw [List.drop_length] at so
      exact so I2 H2 σ2 F2 (Go.refl g2.st)

/-! ### while -/
def whileL (cf : BF) (bf : SF) : Nat → Env → Out
  | 0, _ => .stk
  | n + 1, δ => (cf δ).bindS fun b δ1 => match b with
    | false => .nx δ1
    | true => match bf δ1 with
      | .nx δ2 => whileL cf bf n δ2
      | .ct δ2 => whileL cf bf n δ2
      | .bk δ2 => .nx δ2
      | r => r
open Classical in
noncomputable def sWhile (cf : BF) (bf : SF) : SF := fun δ => if h : ∃ n, whileL cf bf n δ ≠ .stk then whileL cf bf h.choose δ else .stk
theorem ds_while {c : Expr} {body : List Stmt} {cf : BF} {bf : SF} {pos : Pos} (hp : PassesOwn (model X.prog X.w) X.A X.env X.xe) (hc : DB X W c cf) (hb : DSs X W body bf) : DS X W (.While c body [] pos) (sWhile cf bf) := by
  obtain ⟨tc, pc, qc⟩ := hc
  obtain ⟨tb, pb, qb⟩ := hb
  refine ⟨_, ps_while hp pc pb, fun I H δ σ F E s h => ?_⟩
  have : ∃ n, SO X W E I H δ σ F (whileL cf bf n δ) := by
    unfold sWhile at h
    split at h
    · exact ⟨_, h⟩
    · exact h.elim
  obtain ⟨n, so⟩ := this
  refine ⟨fun m σ2 H2 => ∃ I2 δ2 F2, Go X.K X.mg I H δ σ F I2 H2 δ2 σ2 F2 no ∧ SO X W E I2 H2 δ2 σ2 F2 (whileL cf bf m δ2), ⟨n, I, δ, F, Go.refl s, so⟩, fun m σ2 H2 ⟨I2, δ2, F2, g2, so⟩ => ?_⟩
  cases m with
  | zero => exact so.elim
  | succ m =>
    simp only [whileL] at so
    refine qc I2 H2 δ2 σ2 F2 _ g2.st ?_
    cases q : cf δ2 with
    | stk => rw [q] at so; exact so.elim
    | er x δ' => rw [q] at so; exact ErS.o so
    | ok b δ3 =>
      rw [q] at so
      intro I3 H3 F3 g3
      cases b with
      | false => exact so I3 H3 σ2 F3 g3
      | true =>
        rw [if_pos rfl]
        refine ⟨fun σ' H' => ∃ I' δ' F', Go X.K X.mg I H δ σ F I' H' δ' σ' F' no ∧ SO X W E I' H' δ' σ' F' (whileL cf bf m δ'), fun σ' H' h' => ⟨m, by omega, h'⟩, ?_⟩
        refine qb I3 H3 δ3 σ2 F3 _ g3.st ?_
        have so2 : SO X W E I3 H3 δ3 σ2 F3 (match bf δ3 with
          | .nx δ2 => whileL cf bf m δ2
          | .ct δ2 => whileL cf bf m δ2
          | .bk δ2 => .nx δ2
          | r => r) := SO.trans g3 so
        have g4 := g2.trans0 g3
        cases q2 : bf δ3 with
        | nx δ4 => rw [q2] at so2; exact fun I5 H5 σ5 F5 g6 => ⟨I5, δ4, F5, g4.trans0 g6, so2.trans g6⟩
        | ct δ4 => rw [q2] at so2; exact fun I5 H5 σ5 F5 g6 => ⟨I5, δ4, F5, g4.trans0 g6, so2.trans g6⟩
        | bk δ4 => rw [q2] at so2; exact so2
        | rt d δ4 => rw [q2] at so2; exact so2
        | er x δ4 => rw [q2] at so2; exact so2
        | stk => rw [q2] at so2; exact so2
end
end DL

set_option linter.all false
set_option autoImplicit false
namespace DL
open PySem PySem.Spec L2
open PyProof.Rows hiding St

theorem pi_or {X : Cx} {tg iter : Expr} {w1 w2 : TI} (h1 : PI X tg iter w1) (h2 : PI X tg iter w2) : PI X tg iter (fun σ H R => w1 σ H R ∨ w2 σ H R) :=
  ⟨fun pins s σ H R I h => h.elim (h1.run pins s σ H R I) (h2.run pins s σ H R I)⟩
mutual
theorem fz_ice : ∀ d : D, ice d = true → fz d = d
  | .lst o xs, h => by simp [ice] at h; simp [fz, fzs_ice xs h.2, h.1]
  | .tup xs, h => by simp [ice] at h; simp [fz, fzs_ice xs h]
  | .dic o ks xs, h => by simp [ice] at h; simp [fz, fzs_ice xs h.2, h.1]
  | .ins o c fs xs, h => by simp [ice] at h; simp [fz, fzs_ice xs h.2, h.1]
  | .hole, h => by simp [fz]
  | .non, h => by simp [fz]
  | .bl _, h => by simp [fz]
  | .int _, h => by simp [fz]
  | .str _, h => by simp [fz]
  | .ty _, h => by simp [fz]
  | .cls _, h => by simp [fz]
  | .exn _ _ _, h => by simp [fz]
theorem fzs_ice : ∀ ds : List D, ices ds = true → fzs ds = ds
  | [], _ => by simp [fzs]
  | d :: ds, h => by simp [ices] at h; simp [fzs, fz_ice d h.1, fzs_ice ds h.2]
end

section
variable {X : Cx} {W : WX} {I H I1 H1 I2 H2 : Hp} {δ δ1 δ2 : Env} {σ σ1 σ2 : St} {F F1 F2 : FF} {A B B1 B2 C : FP} {d : D} {v : V} {i : Nat} {sl : Sl} {ds : List D} {vs : List V}

/-- a new tuple over what lies at B -/
theorem newM_tup {p : Addr} (hs : SubH X.K I H) (ho : Own I H B) (hr : Reps X.K X.mg I H ds vs B) (hp : H p = none) : NewM X.K X.mg I H B (.tup ds) (.ref p) (upd I p (.tup vs)) (upd H p (.tup vs)) B := by
  refine ⟨Ev.of ?_ (fun a u q _ => by rw [upd_ne (ne_of_none q hp)]; exact q) (fun a q => .inl q) (fun a q => ?_) ho.nt, hs.ice hp, fun a q => ?_, ?_⟩
  · exact fun a u q => by rw [upd_ne (ne_of_none (hs a u q) hp)]; exact q
  · by_cases z : a = p
    · exact .inr (.inr (z ▸ hp))
    · rw [upd_ne z] at q; exact .inl q
  · obtain ⟨⟨u, e, te⟩, n⟩ := ho a q
    have ne := ne_of_none e hp
    exact ⟨⟨u, by rw [upd_ne ne]; exact e, te⟩, by rw [upd_ne ne]; exact n⟩
  · exact .tup upd_same (hr.frame (fun a u q => by rw [upd_ne (ne_of_none (hs a u q) hp)]; exact q) fun a u q e => by rw [upd_ne (ne_of_none e hp)]; exact e)
theorem NewM.newV {I' H' : Hp} {B' : FP} (n : NewM X.K X.mg I H no d v I' H' B') : NewV X.K X.mg I H d v I' H' B' := ⟨n.ev, n.sub, n.own, n.rep⟩

/-! ### what is walked -/
/-- the items of a list, a tuple, a text -/
def kidsI : D → Option (List D)
  | .lst _ xs => some xs
  | .tup xs => some xs
  | .str x => some (x.cps.toList.map fun c => .str ⟨#[c]⟩)
  | _ => none
/-- the walk over an operand: one's own at a place: locked where its items hold nothing and m = false, else frozen -/
def itO (m : Bool) (o : Opd) (δ : Env) : R (List D × List Opd) :=
  let frz : R (List D × List Opd) := (vlO o δ).bind fun d δ1 => match kidsI (fz d) with
    | some ds => .ok (ds, []) δ1
    | none => .stk
  match m, o with
  | false, .nm i => match δ[i]? with
    | some s => match s.d with
      | .lst true xs => if ices xs = true then .ok (xs, [.plc i id s.d]) δ else frz
      | _ => frz
    | none => .stk
  | false, .plc i g d => match d with
    | .lst true xs => if ices xs = true then .ok (xs, [.plc i g d]) δ else frz
    | _ => frz
  | _, _ => frz
def iSeq (m : Bool) (f : EF) : IF := fun δ => (f δ).bind fun o δ1 => itO m o δ1
def iSeqT (K : PySem.W.Frag) (t : TE) : TI := fun σ H R => t σ H fun v H1 => (∃ a, v = .ref a ∧ (∃ xs, SqL K H1 a xs) ∧ R (Itl K a) H1) ∨ (∃ a, v = .ref a ∧ (∃ xs, SqT K H1 a xs) ∧ R (Itt K a) H1) ∨ ∃ x, v = .str x ∧ R (Its x) H1
theorem pi_seq {tg e : Expr} {t : TE} (h : PE X e t) : PI X tg e (iSeqT X.K t) := by
  constructor
  intro pins s σ H R I hq
  refine thn (h.run pins s σ H _ I hq) ?_
  rintro v s1 ⟨x, H1, I1, r1, (⟨a, rfl, ⟨xs, hx⟩, q⟩ | ⟨a, rfl, ⟨xs, hx⟩, q⟩ | ⟨x, rfl, q⟩)⟩
  · cases r1
    obtain ⟨its, rv, p, hz⟩ := I1.list hx
    exact wpAny_pyIter_list p.isList (pi_one (tk := s1.toks) I1 _ (turn_list a _) ⟨_, Heap.get?_push_size _ rfl, rfl, rfl⟩ q)
  · cases r1
    obtain ⟨its, rv, p, hz⟩ := I1.tuple hx
    exact wpAny_pyIter_tuple (show s1.heap.IsTuple a its.toArray from p) (pi_one (tk := s1.toks) I1 _ (turn_tuple a _) ⟨_, Heap.get?_push_size _ rfl, rfl, rfl⟩ q)
  · obtain ⟨t, rfl⟩ := r1
    cases ha : x.cps.all (· < 128)
    · exact wpAny_pyIter_wide ha (pi_one (tk := s1.toks) I1 _ (turn_str _ x t "str_iterator" (.inr rfl)) ⟨_, Heap.get?_push_size _ rfl, rfl, rfl⟩ q)
    · exact wpAny_pyIter_ascii ha (pi_one (tk := s1.toks) I1 _ (turn_str _ x t "str_ascii_iterator" (.inl rfl)) ⟨_, Heap.get?_push_size _ rfl, rfl, rfl⟩ q)

/-- the answer of a walk over a value that is frozen -/
theorem walk_frz {R : It → Hp → Prop} {o : Opd} (go : Go X.K X.mg I H δ σ F I1 H1 δ1 σ F1 B) (r : Rep X.K X.mg I1 H1 d v no) (e : kidsI d = some ds)
    (h : IO X W I H δ σ F R (.ok (ds, []) δ1)) :
    (∃ a, v = .ref a ∧ (∃ xs, SqL X.K H1 a xs) ∧ R (Itl X.K a) H1) ∨ (∃ a, v = .ref a ∧ (∃ xs, SqT X.K H1 a xs) ∧ R (Itt X.K a) H1) ∨ ∃ x, v = .str x ∧ R (Its x) H1 := by
  have g0 := go.less (B2 := no) no_le
  cases r <;> simp only [kidsI, reduceCtorEq, Option.some.injEq] at e
  case str x =>
    subst e
    refine .inr (.inr ⟨x, rfl, h I1 H1 F1 g0 (Its x) _ _ (by simpa using walk_str (z := x)) fun I2 H2 δ2 σ2 F2 B g2 => ⟨trivial, fun i d y H3 ed hy => ?_⟩⟩)
    obtain ⟨rfl, c, ec, rfl⟩ := hy
    have : x.cps.toList[i]? = some c := by simpa using ec
    rw [List.getElem?_map, this] at ed
    cases ed
    exact ⟨I2, NewV.same g2.st.sub .str⟩
  case lstO => rename_i q _ _ _ _ _; exact False.elim (by assumption)
  case lstF a ds' vs hs rs =>
    subst e
    refine .inl ⟨a, rfl, ⟨vs, go.st.sub.sqL hs⟩, h I1 H1 F1 g0 _ _ _ (by rw [rs.length]; exact walk_list (xs := vs)) fun I2 H2 δ2 σ2 F2 B g2 => ⟨(g2.ev.inc.trans g2.st.sub).sqL hs, fun i d y H3 ed hy => ?_⟩⟩
    obtain ⟨rfl, hy⟩ := hy
    obtain ⟨w, ew, rw_⟩ := rs.get ed
    rw [ew] at hy; cases hy
    exact ⟨I2, NewV.same g2.st.sub (rw_.frame g2.ev.inc fun _ _ z => z.elim)⟩
  case tup a ds' vs hs rs =>
    subst e
    refine .inr (.inl ⟨a, rfl, ⟨vs, SqT.of (go.st.sub _ _ hs)⟩, h I1 H1 F1 g0 _ _ _ (by rw [rs.length]; exact walk_tup (xs := vs)) fun I2 H2 δ2 σ2 F2 B g2 => ⟨SqT.of ((g2.ev.inc.trans g2.st.sub) _ _ hs), fun i d y H3 ed hy => ?_⟩⟩)
    obtain ⟨rfl, hy⟩ := hy
    obtain ⟨w, ew, rw_⟩ := rs.get ed
    rw [ew] at hy; cases hy
    exact ⟨I2, NewV.same g2.st.sub (rw_.frame g2.ev.inc fun _ _ z => z.elim)⟩
/-- over a list of one's own in a slot that is locked meanwhile -/
theorem walk_own {R : It → Hp → Prop} {g : D → D} {v0 : V} (go : Go X.K X.mg I H δ σ F I1 H1 δ1 σ F1 B) (e : δ1[i]? = some sl) (l : Lens X.K X.mg I1 H1 g (.lst true ds) v0 v (F1 i)) (hi : ices ds = true)
    (h : IO X W I H δ σ F R (.ok (ds, [.plc i g (.lst true ds)]) δ1)) : ∃ a, v = .ref a ∧ (∃ xs, SqL X.K H1 a xs) ∧ R (Itl X.K a) H1 := by
  obtain ⟨A, C, r, x, -⟩ := l
  cases r with
  | lstO hA e1 rs hB nB =>
    rename_i a vs B'
    have rs0 := rs.ice hi
    refine ⟨a, rfl, ⟨vs, SqL.of e1⟩, h I1 H1 F1 (go.less no_le) _ _ _ (by rw [rs.length]; exact walk_list (xs := vs)) fun I2 H2 δ2 σ2 F2 B g2 => ⟨SqL.of (g2.ev.out a _ e1 ?_ (fun ps z => by cases z)), fun i d y H3 ed hy => ?_⟩⟩
    · rintro ⟨j, s, ej, lj, z⟩
      by_cases q2 : j = i
      · subst q2
        have ej' : (setLk δ1 j true)[j]? = some s := ej
        rw [setLk_eq e] at ej'; cases ej'; cases lj
      · exact go.st.dis j i q2 a z (x a hA)
    · obtain ⟨rfl, hy⟩ := hy
      obtain ⟨w, ew, rw_⟩ := rs0.get ed
      rw [ew] at hy; cases hy
      exact ⟨I2, NewV.same g2.st.sub (rw_.frame g2.ev.inc fun _ _ z => z.elim)⟩
open Classical in
/-- a temporary is frozen -/
theorem go_frz (go : Go X.K X.mg I H δ σ F I1 H1 δ1 σ F1 B) (r : Rep X.K X.mg I1 H1 d v B) : ∃ I2, Go X.K X.mg I H δ σ F I2 H1 δ1 σ F1 no ∧ Rep X.K X.mg I2 H1 (fz d) v no := by
  let I' : Hp := fun a => if B a then H1 a else I1 a
  have hB : ∀ a, B a → I' a = H1 a := fun a q => by show (if B a then H1 a else I1 a) = _; rw [if_pos q]
  have hN : ∀ a, ¬ B a → I' a = I1 a := fun a q => by show (if B a then H1 a else I1 a) = _; rw [if_neg q]
  have inc : Sub I1 I' := fun a o h => by
    by_cases q : B a
    · rw [(go.own a q).2] at h; cases h
    · rw [hN a q]; exact h
  have rz : Rep X.K X.mg I' H1 (fz d) v no := r.freeze inc fun a o q h => by rw [hB a q]; exact h
  refine ⟨I', go.take ⟨⟨inc, fun _ _ h _ _ => h, fun _ ps h => ⟨ps, h⟩, fun _ h => h.elim, fun a h => ?_⟩, go.st.sub.freeze go.own Le.refl hB hN, own_no, rz⟩, rz⟩
  · by_cases q : B a
    · exact .inr (.inl q)
    · rw [hN a q] at h; exact .inl h
theorem itO_ok {m : Bool} {o : Opd} {R : It → Hp → Prop} (go : Go X.K X.mg I H δ σ F I1 H1 δ1 σ F1 B) (r : ORep X.K X.mg I1 H1 δ1 σ F1 o v B) (h : IO X W I H δ σ F R (itO m o δ1)) :
    (∃ a, v = .ref a ∧ (∃ xs, SqL X.K H1 a xs) ∧ R (Itl X.K a) H1) ∨ (∃ a, v = .ref a ∧ (∃ xs, SqT X.K H1 a xs) ∧ R (Itt X.K a) H1) ∨ ∃ x, v = .str x ∧ R (Its x) H1 := by
  have frz : IO X W I H δ σ F R ((vlO o δ1).bind fun d δ2 => match kidsI (fz d) with
      | some ds => .ok (ds, []) δ2
      | none => .stk) → (∃ a, v = .ref a ∧ (∃ xs, SqL X.K H1 a xs) ∧ R (Itl X.K a) H1) ∨ (∃ a, v = .ref a ∧ (∃ xs, SqT X.K H1 a xs) ∧ R (Itt X.K a) H1) ∨ ∃ x, v = .str x ∧ R (Its x) H1 := fun h => by
    cases q : vlO o δ1 with
    | stk => rw [q] at h; exact h.elim
    | er x δ' => exact absurd q vl_no
    | ok d δ2 =>
      rw [q] at h
      obtain ⟨I2, F2, B2, g2, r2⟩ := vl_ok go r q
      obtain ⟨I3, g3, r3⟩ := go_frz g2 r2
      change IO X W I H δ σ F R (match kidsI (fz d) with
        | some ds => .ok (ds, []) δ2
        | none => .stk) at h
      cases q2 : kidsI (fz d) with
      | none => rw [q2] at h; exact h.elim
      | some ds => rw [q2] at h; exact walk_frz (o := o) g3 r3 q2 h
  unfold itO at h
  cases m with
  | true => exact frz h
  | false =>
    cases o with
    | tmp d => exact frz h
    | nm i =>
      simp only at h
      cases q : δ1[i]? with
      | none => rw [q] at h; exact h.elim
      | some s0 =>
        rw [q] at h
        simp only at h
        split at h
        · rename_i xs hd
          by_cases hi : ices xs = true
          · rw [if_pos hi] at h
            rcases go.st.rep i s0 q with z | ⟨v', h1, h2⟩
            · rw [hd] at z; cases z
            · rw [r.1] at h1; cases h1
              rw [hd] at h2 h
              exact .inl (walk_own go q (Lens.nil h2) hi h)
          · rw [if_neg hi] at h; exact frz h
        · exact frz h
    | plc i g d =>
      simp only at h
      obtain ⟨hb, s0, v0, e0, ed, es, l⟩ := id r
      split at h
      · rename_i xs
        by_cases hi : ices xs = true
        · rw [if_pos hi] at h
          exact .inl (walk_own go e0 l hi h)
        · rw [if_neg hi] at h; exact frz h
      · exact frz h
theorem di_seq {tg e : Expr} {f : EF} (m : Bool) (h : DE X W e f) : DI X W tg e (iSeq m f) := by
  obtain ⟨t, p, q⟩ := h
  refine ⟨_, pi_seq p, fun I H δ σ F R s h => q I H δ σ F _ s ?_⟩
  unfold iSeq at h
  cases q1 : f δ with
  | stk => rw [q1] at h; exact h.elim
  | er x δ' => rw [q1] at h; exact h
  | ok o δ1 =>
    rw [q1] at h
    exact fun v I1 H1 F1 B go r => itO_ok go r h

/-! ### ranges -/
/-- the bounds of a range: not to be reckoned by Lean's kernel -/
def InR (i : Int) : Prop := -(2 ^ 62) ≤ i ∧ i < 2 ^ 62
noncomputable instance : ∀ i, Decidable (InR i) := fun i => Classical.propDecidable _
theorem inR_of {i : Int} (h : -1000000000 ≤ i) (h2 : i < 1000000000) : InR i := by unfold InR; omega
noncomputable def iRng1 (fa : AF) : IF := fun δ => (fa δ).bind fun os δ1 => match rdL os δ1 with
  | some [.int j] => if InR j then .ok ((List.range j.toNat).map fun k => .int (k : Nat), []) δ1 else .stk
  | _ => .stk
noncomputable def iRng2 (fa : AF) : IF := fun δ => (fa δ).bind fun os δ1 => match rdL os δ1 with
  | some [.int i, .int j] => if InR i ∧ InR j then .ok ((List.range (j - i).toNat).map fun k => .int (i + (k : Nat)), []) δ1 else .stk
  | _ => .stk
def iRng3 (fa : AF) : IF := fun δ => (fa δ).bind fun os δ1 => match rdL os δ1 with
  | some [.int i, .int j, .int c] => if c ≠ 0 ∧ c.natAbs < 1073741824 ∧ Builtin.Range.small i j c = true ∧ 0 ≤ Builtin.Range.rangeSize i j c then .ok ((List.range (Builtin.Range.rangeSize i j c).toNat).map fun k => .int (i + (k : Nat) * c), []) δ1 else .stk
  | _ => .stk
theorem rds1 {vs : List V} {n : Int} (r : RdS X.K X.mg I H [.int n] vs) : vs = [.int n] := by
  cases r with
  | cons B r ho rs => cases rs; cases r; rfl
theorem rds2 {vs : List V} {n m : Int} (r : RdS X.K X.mg I H [.int n, .int m] vs) : vs = [.int n, .int m] := by
  cases r with
  | cons B r ho rs => cases rs with
    | cons B r2 ho rs => cases rs; cases r; cases r2; rfl
theorem rds3 {vs : List V} {n m c : Int} (r : RdS X.K X.mg I H [.int n, .int m, .int c] vs) : vs = [.int n, .int m, .int c] := by
  cases r with
  | cons B r ho rs => cases rs with
    | cons B r2 ho rs => cases rs with
      | cons B r3 ho rs => cases rs; cases r; cases r2; cases r3; rfl
/-- a walk of ints -/
theorem walk_ints {R : It → Hp → Prop} {J : It} {n : Nat} {f : Nat → Int} (go : Go X.K X.mg I H δ σ F I1 H1 δ1 σ F1 B) (w : L2.Walk J n (fun _ => True) (YFn fun i => .int (f i)))
    (h : IO X W I H δ σ F R (.ok ((List.range n).map fun k => .int (f k), []) δ1)) : R J H1 := by
  refine h I1 H1 F1 (go.less no_le) J _ _ (by simpa using w) fun I2 H2 δ2 σ2 F2 B g2 => ⟨trivial, fun i d x H3 ed hy => ?_⟩
  obtain ⟨rfl, rfl⟩ := hy
  rw [List.getElem?_map] at ed
  cases q : (List.range n)[i]? with
  | none => rw [q] at ed; cases ed
  | some k =>
    rw [q] at ed
    have : k = i := by rw [List.getElem?_eq_some_iff] at q; obtain ⟨_, e⟩ := q; simpa using e.symm
    subst this
    cases ed; exact ⟨I2, NewV.same g2.st.sub .int⟩
section
variable {tg : Expr} {p pos : Pos} {fa : AF}
theorem si_rng1 {t : TA} (q : SA X W t fa) : SI X W (L2.iRng1 t) (iRng1 fa) := by
  intro I H δ σ F R s h
  refine q I H δ σ F _ s ?_
  unfold iRng1 at h
  cases q1 : fa δ with
  | stk => rw [q1] at h; exact h.elim
  | er x δ' => rw [q1] at h; exact h
  | ok os δ1 =>
    rw [q1] at h
    intro vs I1 H1 F1 B go rs
    change IO X W I H δ σ F R (match rdL os δ1 with
      | some [.int j] => if InR j then .ok ((List.range j.toNat).map fun k => .int (k : Nat), []) δ1 else .stk
      | _ => .stk) at h
    split at h
    · rename_i j e
      split at h
      · rename_i c
        refine ⟨j, rds1 (rdL_ok go.st go.own rs e), c.1, c.2, walk_ints (f := fun k => (k : Int)) go ?_ h⟩
        have := walk_range (lo := 0) (n := j.toNat)
        simpa using this
      · exact h.elim
    · exact h.elim
theorem si_rng2 {t : TA} (q : SA X W t fa) : SI X W (L2.iRng2 t) (iRng2 fa) := by
  intro I H δ σ F R s h
  refine q I H δ σ F _ s ?_
  unfold iRng2 at h
  cases q1 : fa δ with
  | stk => rw [q1] at h; exact h.elim
  | er x δ' => rw [q1] at h; exact h
  | ok os δ1 =>
    rw [q1] at h
    intro vs I1 H1 F1 B go rs
    change IO X W I H δ σ F R (match rdL os δ1 with
      | some [.int i, .int j] => if InR i ∧ InR j then .ok ((List.range (j - i).toNat).map fun k => .int (i + (k : Nat)), []) δ1 else .stk
      | _ => .stk) at h
    split at h
    · rename_i i j e
      split at h
      · rename_i c
        exact ⟨i, j, rds2 (rdL_ok go.st go.own rs e), ⟨c.1.1, c.1.2, c.2.1, c.2.2⟩, walk_ints go walk_range h⟩
      · exact h.elim
    · exact h.elim
theorem si_rng3 {t : TA} (q : SA X W t fa) : SI X W (L2.iRng3 t) (iRng3 fa) := by
  intro I H δ σ F R s h
  refine q I H δ σ F _ s ?_
  unfold iRng3 at h
  cases q1 : fa δ with
  | stk => rw [q1] at h; exact h.elim
  | er x δ' => rw [q1] at h; exact h
  | ok os δ1 =>
    rw [q1] at h
    intro vs I1 H1 F1 B go rs
    change IO X W I H δ σ F R (match rdL os δ1 with
      | some [.int i, .int j, .int c] => if c ≠ 0 ∧ c.natAbs < 1073741824 ∧ Builtin.Range.small i j c = true ∧ 0 ≤ Builtin.Range.rangeSize i j c then .ok ((List.range (Builtin.Range.rangeSize i j c).toNat).map fun k => .int (i + (k : Nat) * c), []) δ1 else .stk
      | _ => .stk) at h
    split at h
    · rename_i i j c e
      split at h
      · rename_i k
        exact ⟨i, j, c, _, rds3 (rdL_ok go.st go.own rs e), ⟨k.1, k.2.1, k.2.2.1, by have := k.2.2.2; omega⟩, walk_ints go walk_rangeC h⟩
      · exact h.elim
    · exact h.elim
theorem di_rng1 {a : Expr} (hg : Gl X "range") (hm : X.mg "range" = none) (ha : DA X W [a] fa) (hs : starEach [a] X.env = [(false, eval a X.env)] := by rfl) : DI X W tg (.Call (.Name "range" p) [a] [] pos) (iRng1 fa) :=
  let ⟨_, pa, qa⟩ := ha; ⟨_, pi_range1 hg hm pa hs, si_rng1 qa⟩
theorem di_rng2 {a b : Expr} (hg : Gl X "range") (hm : X.mg "range" = none) (ha : DA X W [a, b] fa) (hs : starEach [a, b] X.env = [(false, eval a X.env), (false, eval b X.env)] := by rfl) (hs2 : starEach [b] X.env = [(false, eval b X.env)] := by rfl) : DI X W tg (.Call (.Name "range" p) [a, b] [] pos) (iRng2 fa) :=
  let ⟨_, pa, qa⟩ := ha; ⟨_, pi_range2 hg hm pa hs hs2, si_rng2 qa⟩
theorem di_rng3 {a b c : Expr} (hg : Gl X "range") (hm : X.mg "range" = none) (ha : DA X W [a, b, c] fa) (hp : ∀ {t}, PA X [a, b, c] t → PI X tg (.Call (.Name "range" p) [a, b, c] [] pos) (L2.iRng3 t)) : DI X W tg (.Call (.Name "range" p) [a, b, c] [] pos) (iRng3 fa) :=
  let ⟨_, pa, qa⟩ := ha; ⟨_, hp pa, si_rng3 qa⟩
end

end
end DL

set_option linter.all false
set_option autoImplicit false
namespace DL
open PySem PySem.Spec L2
open PyProof.Rows hiding St

section
variable {X : Cx} {W : WX} {I H I1 H1 I2 H2 : Hp} {δ δ1 δ2 : Env} {σ σ1 σ2 : St} {F F1 F2 : FF} {A B B1 B2 C : FP} {d : D} {v : V} {i : Nat} {sl : Sl} {ds : List D} {vs : List V}

/-- a list that stays while the places os are locked -/
def LW (X : Cx) (I2 H2 : Hp) (δ2 : Env) (σ : St) (F2 : FF) (os : List Opd) (ds : List D) (a : Addr) (vs : List V) : Prop :=
  ds.length = vs.length ∧ ∀ I3 H3 δ3 σ3 F3 B, Go X.K X.mg I2 H2 (lockL os δ2) σ F2 I3 H3 δ3 σ3 F3 B → SqL X.K H3 a vs ∧ ∀ (i : Nat) (d : D), ds[i]? = some d → ∃ w, vs[i]? = some w ∧ Rep X.K X.mg I3 H3 d w no
theorem lw_frz (s : Stt X.K X.mg I H δ σ F) (r : Rep X.K X.mg I H d v no) {b : Bool} (e : d = .lst b ds) : ∃ a vs, v = .ref a ∧ SqL X.K H a vs ∧ LW X I H δ σ F [] ds a vs := by
  subst e
  cases r with
  | lstO hA => exact hA.elim
  | lstF hs rs =>
    rename_i a vs
    refine ⟨a, vs, rfl, s.sub.sqL hs, rs.length, fun I3 H3 δ3 σ3 F3 B g => ⟨(g.ev.inc.trans g.st.sub).sqL hs, fun i d e => ?_⟩⟩
    obtain ⟨w, ew, rw_⟩ := rs.get e
    exact ⟨w, ew, rw_.frame g.ev.inc fun _ _ z => z.elim⟩
theorem lw_own {g : D → D} {v0 : V} (s : Stt X.K X.mg I H δ σ F) (e : δ[i]? = some sl) (l : Lens X.K X.mg I H g (.lst true ds) v0 v (F i)) (hi : ices ds = true) {dd : D} :
    ∃ a vs, v = .ref a ∧ SqL X.K H a vs ∧ LW X I H δ σ F [.plc i g dd] ds a vs := by
  obtain ⟨A, C, r, x, -⟩ := l
  cases r with
  | lstO hA e1 rs hB nB =>
    rename_i a vs B'
    have rs0 := rs.ice hi
    refine ⟨a, vs, rfl, SqL.of e1, rs.length, fun I3 H3 δ3 σ3 F3 B g2 => ⟨SqL.of (g2.ev.out a _ e1 ?_ (fun ps z => by cases z)), fun i d e => ?_⟩⟩
    · rintro ⟨j, s', ej, lj, z⟩
      by_cases q2 : j = i
      · subst q2
        have ej' : (setLk δ j true)[j]? = some s' := ej
        rw [setLk_eq e] at ej'; cases ej'; cases lj
      · exact s.dis j i q2 a z (x a hA)
    · obtain ⟨w, ew, rw_⟩ := rs0.get e
      exact ⟨w, ew, rw_.frame g2.ev.inc fun _ _ z => z.elim⟩
def isLst : D → Bool
  | .lst _ _ => true
  | _ => false
theorem frz_no {o : Opd} {x : D} : ((vlO o δ).bind fun d δ1 => match kidsI (fz d) with
    | some ds => R.ok (ds, ([] : List Opd)) δ1
    | none => .stk) ≠ .er x δ2 := by
  cases q : vlO o δ with
  | stk => exact fun e => nomatch e
  | er x δ' => exact absurd q vl_no
  | ok d δ1 => simp only [DL.R.bind]; split <;> exact fun e => nomatch e
theorem itO_no {m : Bool} {o : Opd} {x : D} : itO m o δ ≠ .er x δ2 := by
  unfold itO
  cases m with
  | true => exact frz_no
  | false =>
    cases o with
    | tmp d => exact frz_no
    | nm i =>
      simp only
      split
      · split
        · split
          · exact fun e => nomatch e
          · exact frz_no
        · exact frz_no
      · exact fun e => nomatch e
    | plc i g d =>
      simp only
      split
      · split
        · exact fun e => nomatch e
        · exact frz_no
      · exact frz_no
theorem kidsI_lst {x : D} (h : isLst x = true) (e : kidsI x = some ds) : ∃ b, x = .lst b ds := by
  cases x <;> simp_all [isLst, kidsI]
theorem fz_isLst (h : isLst d = true) : isLst (fz d) = true := by cases d <;> simp_all [isLst, fz]
theorem vlO_rd {o : Opd} {x : D} (e : vlO o δ = .ok d δ2) (r : rdO o δ = some x) : d = x ∨ d = fz x := by
  cases o with
  | tmp y => simp only [vlO, R.ok.injEq] at e; simp only [rdO, Option.some.injEq] at r; exact .inl (e.1.symm.trans r)
  | nm i =>
    simp only [vlO] at e; simp only [rdO] at r
    cases q : δ[i]? with
    | none => rw [q] at e; cases e
    | some s0 =>
      rw [q] at e r
      simp only at e r
      split at e
      · cases e
      · cases e
      · rename_i d' hl hh
        simp only [R.ok.injEq] at e
        split at r
        · cases r
        · cases r; exact .inr e.1.symm
  | plc i g y =>
    simp only [vlO] at e; simp only [rdO, Option.some.injEq] at r
    subst r
    cases q : δ[i]? with
    | none => rw [q] at e; cases e
    | some s0 =>
      rw [q] at e
      simp only at e
      split at e
      · cases e
      · simp only [R.ok.injEq] at e; exact .inr e.1.symm
theorem itO_list {m : Bool} {o : Opd} {os : List Opd} {x : D} (go : Go X.K X.mg I H δ σ F I1 H1 δ1 σ F1 B) (r : ORep X.K X.mg I1 H1 δ1 σ F1 o v B) (hx : rdO o δ1 = some x) (hl : isLst x = true) (e : itO m o δ1 = .ok (ds, os) δ2) :
    ∃ a vs I2 F2, v = .ref a ∧ SqL X.K H1 a vs ∧ Go X.K X.mg I H δ σ F I2 H1 δ2 σ F2 no ∧ LW X I2 H1 δ2 σ F2 os ds a vs := by
  have frz : ((vlO o δ1).bind fun d δ2 => match kidsI (fz d) with
      | some ds => .ok (ds, []) δ2
      | none => .stk) = .ok (ds, os) δ2 → ∃ a vs I2 F2, v = .ref a ∧ SqL X.K H1 a vs ∧ Go X.K X.mg I H δ σ F I2 H1 δ2 σ F2 no ∧ LW X I2 H1 δ2 σ F2 os ds a vs := fun h => by
    cases q : vlO o δ1 with
    | stk => rw [q] at h; cases h
    | er x δ' => exact absurd q vl_no
    | ok d δ3 =>
      rw [q] at h
      obtain ⟨I2, F2, B2, g2, r2⟩ := vl_ok go r q
      obtain ⟨I3, g3, r3⟩ := go_frz g2 r2
      change (match kidsI (fz d) with
        | some ds => R.ok (ds, []) δ3
        | none => .stk) = .ok (ds, os) δ2 at h
      cases q2 : kidsI (fz d) with
      | none => rw [q2] at h; cases h
      | some ds' =>
        rw [q2] at h
        simp only [R.ok.injEq, Prod.mk.injEq] at h
        obtain ⟨⟨rfl, rfl⟩, rfl⟩ := h
        have hd : isLst (fz d) = true := by
          rcases vlO_rd q hx with z | z
          · subst z; exact fz_isLst hl
          · subst z; exact fz_isLst (fz_isLst hl)
        obtain ⟨b, eb⟩ := kidsI_lst hd q2
        obtain ⟨a, vs, h1, h2, h3⟩ := lw_frz g3.st r3 eb
        exact ⟨a, vs, I3, F2, h1, h2, g3, h3⟩
  unfold itO at e
  cases m with
  | true => exact frz e
  | false =>
    cases o with
    | tmp d => exact frz e
    | nm i =>
      simp only at e
      cases q : δ1[i]? with
      | none => rw [q] at e; cases e
      | some s0 =>
        rw [q] at e
        simp only at e
        split at e
        · rename_i xs hd
          by_cases hi : ices xs = true
          · rw [if_pos hi] at e
            simp only [R.ok.injEq, Prod.mk.injEq] at e
            obtain ⟨⟨rfl, rfl⟩, rfl⟩ := e
            rcases go.st.rep i s0 q with z | ⟨v', h1, h2⟩
            · rw [hd] at z; cases z
            · rw [r.1] at h1; cases h1
              rw [hd] at h2
              obtain ⟨a, vs, h1, h2, h3⟩ := lw_own go.st q (Lens.nil h2) hi (dd := s0.d)
              exact ⟨a, vs, I1, F1, h1, h2, go.less no_le, h3⟩
          · rw [if_neg hi] at e; exact frz e
        · exact frz e
    | plc i g d =>
      simp only at e
      obtain ⟨hb, s0, v0, e0, ed, es, l⟩ := id r
      split at e
      · rename_i xs
        by_cases hi : ices xs = true
        · rw [if_pos hi] at e
          simp only [R.ok.injEq, Prod.mk.injEq] at e
          obtain ⟨⟨rfl, rfl⟩, rfl⟩ := e
          obtain ⟨a, vs, h1, h2, h3⟩ := lw_own go.st e0 l hi (dd := .lst true xs)
          exact ⟨a, vs, I1, F1, h1, h2, go.less no_le, h3⟩
        · rw [if_neg hi] at e; exact frz e
      · exact frz e

theorem rep_pair {p : Addr} {x y : D} {u w : V} (hs : SubH X.K I H) (hp : H p = none) (h1 : Rep X.K X.mg I H x u no) (h2 : Rep X.K X.mg I H y w no) :
    ∃ I', NewV X.K X.mg I H (.tup [x, y]) (.ref p) I' (upd H p (.tup [u, w])) no :=
  ⟨_, (newM_tup hs own_no (.cons h1 (.cons h2 .nil no_le no_le dis_no) no_le no_le dis_no) hp).newV⟩
/-- the items with their numbers -/
def enumD (ds : List D) : List D := ds.zipIdx.map fun q => .tup [.int (q.2 : Nat), q.1]
theorem enumD_get {x : D} (e : (enumD ds)[i]? = some x) : ∃ d, ds[i]? = some d ∧ x = .tup [.int (i : Nat), d] := by
  unfold enumD at e
  rw [List.getElem?_map, List.getElem?_zipIdx] at e
  cases q : ds[i]? with
  | none => rw [q] at e; cases e
  | some d => rw [q] at e; simp at e; exact ⟨d, rfl, e.symm⟩
def iEnm (m : Bool) (fa : AF) : IF := fun δ => (fa δ).bind fun os δ1 => match os with
  | [o] => match rdO o δ1 with
    | some x => if isLst x = true then (itO m o δ1).bind fun p δ2 => .ok (enumD p.1, p.2) δ2 else .stk
    | none => .stk
  | _ => .stk
theorem si_enum {m : Bool} {t : TA} {fa : AF} (q : SA X W t fa) : SI X W (iEnum X.K t) (iEnm m fa) := by
  intro I H δ σ F R s h
  refine q I H δ σ F _ s ?_
  unfold iEnm at h
  cases q1 : fa δ with
  | stk => rw [q1] at h; exact h.elim
  | er x δ' => rw [q1] at h; exact h
  | ok os δ1 =>
    rw [q1] at h
    intro vs I1 H1 F1 B go rs
    cases rs with
    | nil => exact h.elim
    | cons r rs hx y z =>
      cases rs with
      | cons _ _ _ _ _ => exact h.elim
      | nil =>
        rename_i o v B' C'
        change IO X W I H δ σ F R (match rdO o δ1 with
          | some x => if isLst x = true then (itO m o δ1).bind fun p δ2 => .ok (enumD p.1, p.2) δ2 else .stk
          | none => .stk) at h
        cases q2 : rdO o δ1 with
        | none => rw [q2] at h; exact h.elim
        | some x =>
          rw [q2] at h
          simp only at h
          by_cases hl : isLst x = true
          · rw [if_pos hl] at h
            cases q3 : itO m o δ1 with
            | stk => rw [q3] at h; exact h.elim
            | er x δ' => exact absurd q3 itO_no
            | ok p δ2 =>
              obtain ⟨ds, os⟩ := p
              rw [q3] at h
              obtain ⟨a, ws, I2, F2, rfl, hs, g2, hlen, lw⟩ := itO_list (go.less hx) r q2 hl q3
              refine ⟨a, ws, rfl, hs, h I2 H1 F2 g2 (Ite X.K a) _ _ (by rw [show (enumD ds).length = ws.length by simp [enumD, hlen]]; exact walk_enum (xs := ws)) fun I3 H3 δ3 σ3 F3 B3 g3 => ⟨(lw I3 H3 δ3 σ3 F3 B3 g3).1, fun i d x H4 ed hy => ?_⟩⟩
              obtain ⟨T, u, w, rfl, hT, rfl, hu, hw⟩ := hy
              obtain ⟨d0, e0, rfl⟩ := enumD_get ed
              obtain ⟨w', ew, rw_⟩ := (lw I3 H3 δ3 σ3 F3 B3 g3).2 i d0 e0
              have hw' : ws[i]? = some w := hw
              rw [ew] at hw'; cases hw'
              cases hu
              exact rep_pair g3.st.sub hT .int rw_
          · rw [if_neg hl] at h; exact h.elim
theorem di_enum {tg e : Expr} {fa : AF} {p pos : Pos} (m : Bool) (ha : DA X W [e] fa) (hp : ∀ {t}, PA X [e] t → PI X tg (.Call (.Name "enumerate" p) [e] [] pos) (iEnum X.K t)) : DI X W tg (.Call (.Name "enumerate" p) [e] [] pos) (iEnm m fa) :=
  let ⟨_, pa, qa⟩ := ha; ⟨_, hp pa, si_enum qa⟩

/-! ### zip: two lists that are frozen -/
def zipD : List D → List D → List D
  | x :: xs, y :: ys => .tup [x, y] :: zipD xs ys
  | _, _ => []
theorem zipD_len : ∀ {xs ys : List D}, (zipD xs ys).length = min xs.length ys.length
  | [], _ => by simp [zipD]
  | _ :: _, [] => by simp [zipD]
  | x :: xs, y :: ys => by simp only [zipD, List.length_cons, zipD_len (xs := xs) (ys := ys)]; omega
theorem zipD_get : ∀ {xs ys : List D} {i : Nat} {d : D}, (zipD xs ys)[i]? = some d → ∃ x y, xs[i]? = some x ∧ ys[i]? = some y ∧ d = .tup [x, y]
  | [], _, _, _, h => by simp [zipD] at h
  | _ :: _, [], _, _, h => by simp [zipD] at h
  | x :: xs, y :: ys, 0, _, h => by simp [zipD] at h; exact ⟨x, y, by simp, by simp, h.symm⟩
  | x :: xs, y :: ys, i + 1, _, h => by
    simp [zipD] at h
    obtain ⟨a, b, h1, h2, h3⟩ := zipD_get h
    exact ⟨a, b, by simpa using h1, by simpa using h2, h3⟩
def iZp (fa : AF) : IF := fun δ => (fa δ).bind fun os δ1 => match tmpL os with
  | some [.lst _ xs, .lst _ ys] => .ok (zipD (fzs xs) (fzs ys), []) δ1
  | _ => .stk
open Classical in
theorem go_frzs (go : Go X.K X.mg I H δ σ F I1 H1 δ1 σ F1 B) (r : Reps X.K X.mg I1 H1 ds vs B) : ∃ I2, Go X.K X.mg I H δ σ F I2 H1 δ1 σ F1 no ∧ Reps X.K X.mg I2 H1 (fzs ds) vs no := by
  let I' : Hp := fun a => if B a then H1 a else I1 a
  have hB : ∀ a, B a → I' a = H1 a := fun a q => by show (if B a then H1 a else I1 a) = _; rw [if_pos q]
  have hN : ∀ a, ¬ B a → I' a = I1 a := fun a q => by show (if B a then H1 a else I1 a) = _; rw [if_neg q]
  have inc : Sub I1 I' := fun a o h => by
    by_cases q : B a
    · rw [(go.own a q).2] at h; cases h
    · rw [hN a q]; exact h
  have rz : Reps X.K X.mg I' H1 (fzs ds) vs no := r.freeze inc fun a o q h => by rw [hB a q]; exact h
  refine ⟨I', go.take (d := .non) (v := .non) ⟨⟨inc, fun _ _ h _ _ => h, fun _ ps h => ⟨ps, h⟩, fun _ h => h.elim, fun a h => ?_⟩, go.st.sub.freeze go.own Le.refl hB hN, own_no, .non⟩, rz⟩
  · by_cases q : B a
    · exact .inr (.inl q)
    · rw [hN a q] at h; exact .inl h
theorem si_zip {t : TA} {fa : AF} (q : SA X W t fa) : SI X W (iZip X.K t) (iZp fa) := by
  intro I H δ σ F R s h
  refine q I H δ σ F _ s ?_
  unfold iZp at h
  cases q1 : fa δ with
  | stk => rw [q1] at h; exact h.elim
  | er x δ' => rw [q1] at h; exact h
  | ok os δ1 =>
    rw [q1] at h
    intro vs I1 H1 F1 B go rs
    change IO X W I H δ σ F R (match tmpL os with
      | some [.lst _ xs, .lst _ ys] => .ok (zipD (fzs xs) (fzs ys), []) δ1
      | _ => .stk) at h
    split at h
    · rename_i b1 xs b2 ys e
      obtain ⟨I2, g2, rr⟩ := go_frzs go (tmpL_ok rs e)
      simp only [fzs, fz] at rr
      cases rr with
      | cons r rr l1 l2 l5 =>
        cases rr with
        | cons r' rr l3 l4 l6 =>
          cases rr
          obtain ⟨a, ws, rfl, hs, hl, lw⟩ := lw_frz g2.st (r.mono l1) rfl
          obtain ⟨b, zs, rfl, hs', hl', lw'⟩ := lw_frz g2.st (r'.mono (l3.trans l2)) rfl
          refine ⟨a, b, ws, zs, rfl, hs, hs', h I2 H1 F1 g2 (Itz X.K a b) _ _ (walk_zip (xs := ws) (ys := zs) (by rw [zipD_len, hl, hl'])) fun I3 H3 δ3 σ3 F3 B3 g3 => ⟨⟨(lw I3 H3 δ3 σ3 F3 B3 g3).1, (lw' I3 H3 δ3 σ3 F3 B3 g3).1⟩, fun i d x H4 ed hy => ?_⟩⟩
          obtain ⟨T, u, w, rfl, hT, rfl, hu, hw⟩ := hy
          obtain ⟨x0, y0, ex, ey, rfl⟩ := zipD_get ed
          obtain ⟨u', eu, ru⟩ := (lw I3 H3 δ3 σ3 F3 B3 g3).2 i x0 ex
          obtain ⟨w', ew, rw_⟩ := (lw' I3 H3 δ3 σ3 F3 B3 g3).2 i y0 ey
          have hu' : ws[i]? = some u := hu
          have hw' : zs[i]? = some w := hw
          rw [eu] at hu'; rw [ew] at hw'; cases hu'; cases hw'
          exact rep_pair g3.st.sub hT ru rw_
    · exact h.elim
theorem di_zip {tg e e2 : Expr} {fa : AF} {p pos : Pos} (ha : DA X W [e, e2] fa) (hp : ∀ {t}, PA X [e, e2] t → PI X tg (.Call (.Name "zip" p) [e, e2] [] pos) (iZip X.K t)) : DI X W tg (.Call (.Name "zip" p) [e, e2] [] pos) (iZp fa) :=
  let ⟨_, pa, qa⟩ := ha; ⟨_, hp pa, si_zip qa⟩

/-! ### comprehensions -/
/-- the own slots of a block are emptied -/
def wipeE : List Nat → Env → Option Env
  | [], δ => some δ
  | i :: is, δ => match setN i .hole δ with
    | some δ1 => wipeE is δ1
    | none => none
def lcL (own : List Nat) (gd : D → Env → Option Env) (tt : BF) (te : EF) : List D → Env → List D → R (List D)
  | [], δ, acc => .ok acc δ
  | d :: ds, δ, acc => match gd d δ with
    | some δ1 => match tt δ1 with
      | .ok true δ2 => match eV te δ2 with
        | .ok (.tmp x) δ3 => match wipeE own δ3 with
          | some δ4 => if acc.length < sizeLine then lcL own gd tt te ds δ4 (acc ++ [x]) else .stk
          | none => .stk
        | _ => .stk
      | .ok false δ2 => match wipeE own δ2 with
        | some δ4 => lcL own gd tt te ds δ4 acc
        | none => .stk
      | _ => .stk
    | none => .stk
def eLc (own : List Nat) (it : IF) (gd : D → Env → Option Env) (tt : BF) (te : EF) : EF := fun δ => (it δ).bind fun p δ1 => match wipeE own (lockL p.2 δ1) with
  | some δ2 => (lcL own gd tt te p.1 δ2 []).bind fun acc δ3 => .ok (.tmp (.lst true acc)) (unlockL p.2 δ1 δ3)
  | none => .stk
/-- the footprints of emptied slots -/
def wipeF : List Nat → FF → FF
  | [], F => F
  | i :: is, F => wipeF is (F.set i no)
/-- a slot is emptied: with the slots' values as they are, or without -/
theorem hole_go {i : Nat} (g : Go X.K X.mg I H δ σ F I1 H1 δ1 σ1 F1 B) (e : setN i .hole δ1 = some δ2) {σ' : St} (hs : ∀ j, j ≠ i → σ'[j]? = σ1[j]?) (hl : σ'.length = σ1.length) : Go X.K X.mg I H δ σ F I1 H1 δ2 σ' (F1.set i no) B := by
  have go1 : ∃ s0 : Sl, δ1[i]? = some s0 ∧ s0.io = false ∧ s0.lk = false ∧ δ2 = δ1.set i ⟨false, false, .hole⟩ := by
    unfold setN at e
    cases q : δ1[i]? with
    | none => rw [q] at e; cases e
    | some s0 =>
      rw [q] at e
      obtain ⟨io, lk, d0⟩ := s0
      cases io <;> cases lk <;> simp only [reduceCtorEq, Option.some.injEq] at e
      exact ⟨_, rfl, rfl, rfl, e.symm⟩
  obtain ⟨s0, q, hio, hlk, rfl⟩ := go1
  refine ⟨g.st.put (List.getElem?_eq_some_iff.mp q).1 (.inl rfl) own_no (fun _ _ => dis_no) hs hl, ?_, g.own, fun j => ?_, fun j s1 e0 l0 => ?_, fun j s1 e0 l0 => ?_, ?_⟩
  · refine g.ev.mono Le.refl fun a w => ?_
    rcases w with ⟨j, s, ej, lj, z⟩ | w
    · by_cases q2 : j = i
      · subst q2; rw [FF.set_same] at z; exact z.elim
      · rw [FF.set_ne q2] at z
        rw [List.getElem?_set_ne (Ne.symm q2)] at ej
        exact .inl (.inl ⟨j, s, ej, lj, z⟩)
    · exact .inl (.inr w)
  · by_cases q2 : j = i
    · subst q2; rw [FF.set_same]; exact no_dis
    · rw [FF.set_ne q2]; exact g.dis j
  · obtain ⟨a1, a2, a3⟩ := g.lk j s1 e0 l0
    have n : j ≠ i := fun z => by subst z; rw [q] at a1; cases a1; rw [hlk] at l0; cases l0
    exact ⟨by rw [List.getElem?_set_ne (Ne.symm n)]; exact a1, by rw [FF.set_ne n]; exact a2, (hs j n).trans a3⟩
  · have n : j ≠ i := fun z => by
      subst z
      obtain ⟨s', e', f1, f2⟩ := fl_some g.fl q
      rw [e0] at e'; cases e'
      rw [l0, hio] at f1; cases f1
    exact (hs j n).trans (g.io j s1 e0 l0)
  · rw [← g.fl, List.map_set]
    refine List.ext_getElem? fun j => ?_
    by_cases q2 : j = i
    · subst q2
      rw [List.getElem?_set_self (by simpa using (List.getElem?_eq_some_iff.mp q).1), List.getElem?_map, q]
      simp [Sl.fl, hio, hlk]
    · rw [List.getElem?_set_ne (Ne.symm q2)]
theorem wipe_go : ∀ {own : List Nat} {δ1 δ2 : Env} {σ1 σ' : St} {F1 : FF}, Go X.K X.mg I H δ σ F I1 H1 δ1 σ1 F1 B → wipeE own δ1 = some δ2 → (∀ j, j ∉ own → σ'[j]? = σ1[j]?) → σ'.length = σ1.length → Go X.K X.mg I H δ σ F I1 H1 δ2 σ' (wipeF own F1) B
  | [], δ1, δ2, σ1, σ', F1, g, e, hs, hl => by
    simp only [wipeE, Option.some.injEq] at e; subst e
    have : σ' = σ1 := List.ext_getElem? fun j => hs j (by simp)
    subst this; exact g
  | i :: is, δ1, δ2, σ1, σ', F1, g, e, hs, hl => by
    simp only [wipeE] at e
    cases q : setN i .hole δ1 with
    | none => rw [q] at e; cases e
    | some δ3 =>
      rw [q] at e
      have g3 := hole_go g q (σ' := σ1.set i (σ'[i]?.join)) (fun j n => by rw [List.getElem?_set_ne (Ne.symm n)]) (by simp)
      refine wipe_go (own := is) g3 (show wipeE is δ3 = some δ2 from e) (fun j hj => ?_) (by simpa using hl)
      by_cases ji : j = i
      · subst ji
        by_cases hlt : j < σ1.length
        · rw [List.getElem?_set_self hlt]
          rw [List.getElem?_eq_getElem (by omega)]; rfl
        · rw [List.getElem?_eq_none (by omega), List.getElem?_eq_none (by simp; omega)]
      · rw [List.getElem?_set_ne (Ne.symm ji)]
        exact hs j (by simp [ji, hj])
theorem wipe_eq {j : Nat} : ∀ {vs : List Nat}, j ∉ vs → (wipe σ vs)[j]? = σ[j]?
  | [], _ => rfl
  | v :: vs, h => by
    simp only [List.mem_cons, not_or] at h
    unfold wipe
    rw [List.getElem?_set_ne (Ne.symm h.1), wipe_eq h.2]
theorem wipe_in {j : Nat} : ∀ {vs : List Nat}, j ∈ vs → j < σ.length → (wipe σ vs)[j]? = some none
  | [], h, _ => by simp at h
  | v :: vs, h, hl => by
    unfold wipe
    by_cases q : j = v
    · subst q; rw [List.getElem?_set_self (by rw [wipe_length]; exact hl)]
    · rw [List.getElem?_set_ne (Ne.symm q)]
      exact wipe_in (by simpa [q] using h) hl
theorem wipe_congr {vs : List Nat} (h : ∀ j, j ∉ vs → σ1[j]? = σ[j]?) (hl : σ1.length = σ.length) : wipe σ1 vs = wipe σ vs := by
  refine List.ext_getElem? fun j => ?_
  by_cases q : j ∈ vs
  · by_cases hj : j < σ.length
    · rw [wipe_in q hj, wipe_in q (by omega)]
    · rw [List.getElem?_eq_none (by rw [wipe_length]; omega), List.getElem?_eq_none (by rw [wipe_length]; omega)]
  · rw [wipe_eq q, wipe_eq q, h j q]
theorem Reps.snoc {x : D} {w : V} : ∀ {ds : List D} {vs : List V} {A : FP}, Reps X.K X.mg I H ds vs A → Rep X.K X.mg I H x w B → Dis A B → Reps X.K X.mg I H (ds ++ [x]) (vs ++ [w]) (A.or B)
  | [], _, A, .nil, r, d => .cons r .nil le_r no_le dis_no
  | _ :: _, _, A, .cons r0 rs x y z, r, d => .cons r0 (Reps.snoc rs r (d.mono y Le.refl)) (x.trans le_l) (fun a h => h.elim (fun h => .inl (y a h)) .inr) fun a p q => q.elim (z a p) fun q => d a (x a p) q

/-- the reading that a function on data has by itself -/
def tOf (X : Cx) (W : WX) (f : EF) : TE := fun σ H Q => ∃ I δ F, Stt X.K X.mg I H δ σ F ∧ EO X W I H δ σ F Q (f δ)
def bOf (X : Cx) (W : WX) (f : BF) : TT := fun σ H Q => ∃ I δ F, Stt X.K X.mg I H δ σ F ∧ TO X W I H δ σ F Q (f δ)
theorem DE.tof {e : Expr} {f : EF} (h : DE X W e f) : PE X e (tOf X W f) := by
  obtain ⟨t, p, q⟩ := h
  exact ⟨fun pins s σ H Q I ⟨I', δ, F, st, eo⟩ => p.run pins s σ H Q I (q I' H δ σ F Q st eo)⟩
theorem DB.tof {e : Expr} {f : BF} (h : DB X W e f) : PT X e (bOf X W f) := by
  obtain ⟨t, p, q⟩ := h
  exact ⟨fun pins s σ H Q I ⟨I', δ, F, st, eo⟩ => p.run pins s σ H Q I (q I' H δ σ F Q st eo)⟩
theorem se_tof {f : EF} : SE X W (tOf X W f) f := fun I H δ σ F Q s h => ⟨I, δ, F, s, h⟩
theorem sb_tof {f : BF} : SB X W (bOf X W f) f := fun I H δ σ F Q s h => ⟨I, δ, F, s, h⟩
/-- the reading of a target -/
def gOf (X : Cx) (ws : List Nat) (gd : D → Env → Option Env) : TG := fun v σ H Q => ∃ I0 H0 δ0 σ0 F0 I δ F B d δ', Go X.K X.mg I0 H0 δ0 σ0 F0 I H δ σ F B ∧ Rep X.K X.mg I H d v no ∧ gd d δ = some δ' ∧
  (∀ σ' F', Go X.K X.mg I0 H0 δ0 σ0 F0 I H δ' σ' F' B → (∀ j, j ∉ ws → σ'[j]? = σ[j]?) → Q σ' H)
theorem DG.tof {ws : List Nat} {e : Expr} {gd : D → Env → Option Env} (h : DG X ws e gd) : PG X e (gOf X ws gd) := by
  obtain ⟨t, p, q⟩ := h
  exact ⟨fun pins s σ H v u Q I r ⟨I0, H0, δ0, σ0, F0, I', δ, F, B, d, δ', g, rp, e, k⟩ => p.run pins s σ H v u Q I r (q I0 H0 δ0 σ0 F0 I' H δ σ F B d v Q δ' g rp e k)⟩
end
/-- the tests of a comprehension -/
def DPs (X : Cx) (W : WX) (ifs : List Expr) (f : BF) : Prop := ∃ t, PTs X ifs t ∧ SB X W t f
def bYes : BF := fun δ => .ok true δ
section
variable {X : Cx} {W : WX}
theorem dps_nil : DPs X W [] bYes := ⟨_, pts_nil, fun I H δ σ F Q s h => h I H F (Go.refl s)⟩
theorem dps_one {c : Expr} {f : BF} (h : DB X W c f) : DPs X W [c] f := let ⟨_, p, q⟩ := h; ⟨_, pts_one p, q⟩
theorem DPs.tof {ifs : List Expr} {f : BF} (h : DPs X W ifs f) : PTs X ifs (bOf X W f) := by
  obtain ⟨t, p, q⟩ := h
  exact ⟨fun pins s σ H Q I ⟨I', δ, F, st, eo⟩ => p.run pins s σ H Q I (q I' H δ σ F Q st eo)⟩
abbrev Wf : WX := fun _ _ _ _ => False
end
section
variable {X : Cx} {W : WX} {I H I1 H1 I2 H2 : Hp} {δ δ1 δ2 : Env} {σ σ1 σ2 : St} {F F1 F2 : FF} {A B B1 B2 C : FP} {d : D} {v : V} {i : Nat} {sl : Sl} {ds : List D} {vs : List V}
theorem se_lc {wi : TI} {own ws : List Nat} {it : IF} {gd : D → Env → Option Env} {tt : BF} {te : EF} (hw : ∀ j ∈ ws, j ∈ own) (qi : SI X W wi it) : SE X W (tLc wi (gOf X ws gd) (bOf X Wf tt) (tOf X Wf te) own) (eLc own it gd tt te) := by
  intro I H δ σ F Q s h
  refine qi I H δ σ F _ s ?_
  unfold eLc at h
  cases q : it δ with
  | stk => rw [q] at h; exact h.elim
  | er x δ' => rw [q] at h; exact h
  | ok p δ1 =>
    obtain ⟨ds, os⟩ := p
    rw [q] at h
    intro I' H' F' go J G Y wk st L hL
    change EO X W I H δ σ F Q (match wipeE own (lockL os δ1) with
      | some δ2 => (lcL own gd tt te ds δ2 []).bind fun acc δ3 => .ok (.tmp (.lst true acc)) (unlockL os δ1 δ3)
      | none => .stk) at h
    cases q1 : wipeE own (lockL os δ1) with
    | none => rw [q1] at h; exact h.elim
    | some δw =>
      rw [q1] at h
      simp only at h
      have sl : Stt X.K X.mg I' H' (lockL os δ1) σ F' := go.st.lockL
      let base := fun I2 H2 δ2 σ2 F2 B => Go X.K X.mg I' H' (lockL os δ1) σ F' I2 H2 δ2 σ2 F2 B
      have g0 : ∀ σ', (∀ j, j ∉ own → σ'[j]? = σ[j]?) → σ'.length = σ.length → base I' H' δw σ' (wipeF own F') no := fun σ' h1 h2 => wipe_go (Go.refl sl) q1 h1 h2
      have wc : ∀ j, j ∉ own → (wipe σ own)[j]? = σ[j]? := fun j hj => wipe_eq hj
      refine lc_it wk (fun i H2 => ∃ I2 δ2 F2 acc B, (∀ σ', (∀ j, j ∉ own → σ'[j]? = σ[j]?) → σ'.length = σ.length → base I2 H2 δ2 σ' F2 B) ∧ Rep X.K X.mg I2 H2 (.lst true acc) (.ref L) B ∧
          EO X W I H δ σ F Q ((lcL own gd tt te (ds.drop i) δ2 acc).bind fun acc δ3 => .ok (.tmp (.lst true acc)) (unlockL os δ1 δ3))) ?_
        (fun i H2 _ ⟨I2, δ2, F2, acc, B, g2, _, _⟩ => (st I2 H2 δ2 _ F2 B (g2 (wipe σ own) wc (wipe_length _ _))).1) (fun i x H2 H3 hi ⟨I2, δ2, F2, acc, B, g2, rL, eo⟩ y => ?_) fun H2 ⟨I2, δ2, F2, acc, B, g2, rL, eo⟩ => ?_
      · -- the start
        refine ⟨I', δw, wipeF own F', [], FP.or (fun a => a = L) no, fun σ' h1 h2 => (g0 σ' h1 h2).take (newM_own (d := .lst true []) (v := .ref L) go.st.sub own_no hL (.lstO (.inl rfl) upd_same (.nil (A := no)) no_le fun z => z)), .lstO (.inl rfl) upd_same (.nil (A := no)) no_le fun z => z, by simpa using h⟩
      · -- a turn
        have gw := g2 (wipe σ own) wc (wipe_length _ _)
        have ed := List.getElem?_eq_getElem hi
        obtain ⟨I3, nv⟩ := (st I2 H2 δ2 _ F2 B gw).2 i _ x H3 ed y
        have g3 := Go.new gw.st nv
        have hd : ds.drop i = ds[i] :: ds.drop (i + 1) := List.drop_eq_getElem_cons hi
        rw [hd] at eo
        simp only [lcL] at eo
        have G3 : base I3 H3 δ2 (wipe σ own) F2 B := (gw.trans g3).less le_l
        have r3 := g3.rep gw.own gw.dis rL
        cases q2 : gd ds[i] δ2 with
        | none => rw [q2] at eo; exact eo.elim
        | some δ3 =>
          rw [q2] at eo
          simp only at eo
          refine ⟨I', H', _, σ, F', I3, δ2, F2, B, ds[i], δ3, G3, nv.rep, q2, fun σ4 F4 G4 n4 => ?_⟩
          have n4' : ∀ j, j ∉ own → σ4[j]? = σ[j]? := fun j hj => (n4 j fun z => hj (hw j z)).trans (wc j hj)
          have l4 : σ4.length = σ.length := by
            have h1 := G4.st.len
            have h2 := fl_len G4.fl
            have h3 := sl.len
            omega
          refine ⟨(wipe_congr n4' l4), ?_⟩
          refine ⟨I3, δ3, F4, G4.st, ?_⟩
          cases q3 : tt δ3 with
          | stk => rw [q3] at eo; exact eo.elim
          | er x δ' => rw [q3] at eo; exact eo.elim
          | ok b δ5 =>
            rw [q3] at eo
            intro I5 H5 F5 g5
            have G5 : base I5 H5 δ5 σ4 F5 B := (G4.trans g5).less le_l
            have r5 := g5.rep G4.own G4.dis r3
            cases b with
            | false =>
              rw [if_neg (by simp)]
              simp only at eo
              cases q4 : wipeE own δ5 with
              | none => rw [q4] at eo; exact eo.elim
              | some δ6 =>
                rw [q4] at eo
                exact ⟨I5, δ6, wipeF own F5, acc, B, fun σ' h1 h2 => wipe_go G5 q4 (fun j hj => (h1 j hj).trans (n4' j hj).symm) (h2.trans l4.symm), r5, eo⟩
            | true =>
              rw [if_pos rfl]
              simp only at eo
              refine se_val (se_tof (X := X) (W := Wf) (f := te)) I5 H5 δ5 σ4 F5 _ G5.st ?_
              cases q4 : eV te δ5 with
              | stk => rw [q4] at eo; exact eo.elim
              | er x δ' => rw [q4] at eo; exact eo.elim
              | ok o δ6 =>
                rw [q4] at eo
                intro w I6 H6 F6 Bx g6 rx
                cases o with
                | nm _ => exact eo.elim
                | plc _ _ _ => exact eo.elim
                | tmp x =>
                  simp only at eo
                  cases q5 : wipeE own δ6 with
                  | none => rw [q5] at eo; exact eo.elim
                  | some δ7 =>
                    rw [q5] at eo
                    simp only at eo
                    by_cases hz : acc.length < sizeLine
                    · rw [if_pos hz] at eo
                      have G6 : base I6 H6 δ6 σ4 F6 (B.or Bx) := G5.trans g6
                      have r6 := g6.rep G5.own G5.dis r5
                      have dBx : Dis Bx B := (g6.keep G5.own G5.dis).2.2.1
                      cases r6 with
                      | lstO hA e1 rs hB nB =>
                        rename_i ws' B'
                        refine ⟨ws', e1, by rw [← rs.length]; exact hz, ?_⟩
                        have rx' : Rep X.K X.mg I6 H6 x w Bx := rx
                        have nm : NewM X.K X.mg I6 H6 (B.or Bx) (.lst true (acc ++ [x])) (.ref L) I6 (upd H6 L (.lst (ws' ++ [w]))) (B.or Bx) := by
                          refine ⟨Ev.of Sub.refl (fun a u h n => (upd_ne (show a ≠ L from fun z => n (.inl (by rw [z]; exact hA)))).trans h) (fun a h => .inl h) (fun a h => .inl h) G6.own.nt, G6.st.sub.write e1 (G6.own L (.inl hA)).2 (fun ps z => by cases z), fun a h => ?_, ?_⟩
                          · obtain ⟨⟨u, e, te⟩, n⟩ := G6.own a h
                            refine ⟨?_, n⟩
                            by_cases z : a = L
                            · subst z; exact ⟨_, upd_same, fun ps z => by cases z⟩
                            · exact ⟨u, by rw [upd_ne z]; exact e, te⟩
                          · refine .lstO (B := B'.or Bx) (.inl hA) upd_same (Reps.snoc (rs.frame Sub.refl fun a u h e => (upd_ne (show a ≠ L from fun z => nB (by rw [← z]; exact h))).trans e) (rx'.frame Sub.refl fun a u h e => (upd_ne (show a ≠ L from fun z => dBx a h (by rw [z]; exact hA))).trans e) fun a p q => dBx a q (hB a p)) (fun a h => h.elim (fun h => .inl (hB a h)) .inr) fun h => h.elim nB fun h => dBx L h hA
                        exact ⟨I6, δ7, wipeF own F6, acc ++ [x], B.or Bx, fun σ' h1 h2 => wipe_go (G6.take nm) q5 (fun j hj => (h1 j hj).trans (n4' j hj).symm) (h2.trans l4.symm), nm.rep, eo⟩
                    · rw [if_neg hz] at eo; exact eo.elim
      · -- the end
        rw [List.drop_length] at eo
        have gE : base I2 H2 δ2 σ F2 B := g2 σ (fun _ _ => rfl) rfl
        exact eo (.ref L) I2 H2 F2 B (go.trans0 gE.unlockL) rL
theorem de_lc {elt tg iter : Expr} {ifs : List Expr} {scope : Scope} {own : List (Str × Nat)} {ws : List Nat} {pos : Pos} {it : IF} {gd : D → Env → Option Env} {tt : BF} {te : EF} (hc : X.calm = true) (hN : X.N.Nodup) (hi : DI X W tg iter it) (ok : BlkOk X.N X.env.scope scope own)
    (hw : ∀ j ∈ ws, j ∈ own.map (·.2))
    (hg : ∀ (s : Shared) (H : Hp) (C : Addr) (cl : List (Str × Addr)) (fp : List Addr), DG (X.blk s H scope (compEnvC scope cl C X.env) fp) ws tg gd)
    (ht : ∀ (s : Shared) (H : Hp) (C : Addr) (cl : List (Str × Addr)) (fp : List Addr), DPs (X.blk s H scope (compEnvC scope cl C X.env) fp) Wf ifs tt)
    (he : ∀ (s : Shared) (H : Hp) (C : Addr) (cl : List (Str × Addr)) (fp : List Addr), DE (X.blk s H scope (compEnvC scope cl C X.env) fp) Wf elt te)
    (hs : ∀ x, foldedSetIterable iter X.env x = pure x := by intro _; rfl) : DE X W (.ListComp elt [⟨tg, iter, ifs, 0⟩] scope pos) (eLc (own.map (·.2)) it gd tt te) := by
  obtain ⟨wi, pi, qi⟩ := hi
  exact ⟨_, pe_lc (g := gOf X ws gd) (tt := bOf X Wf tt) (te := tOf X Wf te) hc hN pi ok (fun s H C cl fp => (hg s H C cl fp).tof) (fun s H C cl fp => (ht s H C cl fp).tof) (fun s H C cl fp => (he s H C cl fp).tof) hs, se_lc hw qi⟩
end
end DL

set_option linter.all false
set_option autoImplicit false
namespace DL
open PySem PySem.Spec L2
open PyProof.Rows hiding St

def two (r : R2) : List V → Hp → VK → Prop := fun xs H Q => match xs with
  | [x, y] => r x y H Q
  | _ => False
def g2L (g : D → D → Option D) : List D → Option D := fun ds => match ds with
  | [x, y] => g x y
  | _ => none
def g1L (g : D → Option D) : List D → Option D := fun ds => match ds with
  | [x] => g x
  | _ => none
abbrev eOp2 (g : D → D → Option D) (a b : EF) : EF := eRd (g2L g) (eCons a (eCons b eNil))
section
variable {X : Cx} {W : WX}
/-- two operands, read -/
def Snd2 (X : Cx) (r : R2) (g : D → D → Option D) : Prop :=
  ∀ I H x y d1 d2 d B1 B2 Q, SubH X.K I H → Rep X.K X.mg I H d1 x B1 → Own I H B1 → Rep X.K X.mg I H d2 y B2 → Own I H B2 → g d1 d2 = some d → (∀ v I' H' B, NewV X.K X.mg I H d v I' H' B → Q v H') → r x y H Q
theorem Snd2.snd {r : R2} {g : D → D → Option D} (h : Snd2 X r g) : Snd X (two r) (g2L g) := by
  intro I H ds vs d Q hs rd e hq
  cases rd with
  | nil => cases e
  | cons B1 r1 o1 rd =>
    cases rd with
    | nil => cases e
    | cons B2 r2 o2 rd =>
      cases rd with
      | nil => exact h I H _ _ _ _ d B1 B2 Q hs r1 o1 r2 o2 e hq
      | cons _ _ _ _ => cases e
theorem Snd2.or {r r' : R2} {g g' : D → D → Option D} (h : Snd2 X r g) (h' : Snd2 X r' g') : Snd2 X (fun x y H Q => r x y H Q ∨ r' x y H Q) (fun a b => match g a b with
    | some d => some d
    | none => g' a b) := by
  intro I H x y d1 d2 d B1 B2 Q hs r1 o1 r2 o2 e hq
  cases q : g d1 d2 with
  | some d' => simp only [q] at e; cases e; exact .inl (h I H x y d1 d2 d B1 B2 Q hs r1 o1 r2 o2 q hq)
  | none => simp only [q] at e; exact .inr (h' I H x y d1 d2 d B1 B2 Q hs r1 o1 r2 o2 e hq)
theorem se_op2 {r : R2} {g : D → D → Option D} {ta tb : TE} {fa fb : EF} (h : Snd2 X r g) (ha : SE X W ta fa) (hb : SE X W tb fb) : SE X W (tOp r ta tb) (eOp2 g fa fb) :=
  se_rd (r := two r) (t := tCons ta (tCons tb tNil)) h.snd (sa_cons ha (sa_cons hb sa_nil))
section
variable {a b : Expr} {fa fb : EF} {pos : Pos} {op : Operator} {r : R2} {g : D → D → Option D}
theorem de_bin (ho : OpR X (binaryOp op) r) (h : Snd2 X r g) (ha : DE X W a fa) (hb : DE X W b fb) : DE X W (.BinOp a op b pos) (eOp2 g fa fb) :=
  let ⟨_, p, q⟩ := ha; let ⟨_, p2, q2⟩ := hb; ⟨_, pe_op ho p p2, se_op2 h q q2⟩
theorem de_cmp {op : CmpOp} (ho : OpR X (compareOp op) r) (h : Snd2 X r g) (ha : DE X W a fa) (hb : DE X W b fb) (hm : behindInMarks op b = false := by with_unfolding_all rfl) : DE X W (.Compare a [op] [b] pos) (eOp2 g fa fb) :=
  let ⟨_, p, q⟩ := ha; let ⟨_, p2, q2⟩ := hb; ⟨_, pe_cmpR ho p p2 hm, se_op2 h q q2⟩
theorem db_cmp {op : CmpOp} (ho : OpR X (compareOp op) r) (h : Snd2 X r g) (ha : DE X W a fa) (hb : DE X W b fb) (hm : behindInMarks op b = false := by with_unfolding_all rfl) : DB X W (.Compare a [op] [b] pos) (bB (eOp2 g fa fb)) :=
  let ⟨_, p, q⟩ := ha; let ⟨_, p2, q2⟩ := hb; ⟨_, pt_cmpR ho p p2 hm, sb_bl (se_op2 h q q2)⟩
end
/-! ### ints -/
def gI (C : Int → Int → Prop) [∀ i j, Decidable (C i j)] (g : Int → Int → D) : D → D → Option D
  | .int i, .int j => if C i j then some (g i j) else none
  | _, _ => none
def gI0 (g : Int → Int → D) : D → D → Option D
  | .int i, .int j => some (g i j)
  | _, _ => none
theorem snd_I {C : Int → Int → Prop} [∀ i j, Decidable (C i j)] {f : Int → Int → V} {g : Int → Int → D} (hr : ∀ I H i j, Rep X.K X.mg I H (g i j) (f i j) no) : Snd2 X (rI C f) (gI C g) := by
  intro I H x y d1 d2 d B1 B2 Q hs r1 o1 r2 o2 e hq
  cases r1 <;> (try cases e)
  cases r2 <;> (try cases e)
  simp only [gI] at e
  split at e
  · rename_i c; cases e; exact ⟨_, _, rfl, rfl, c, hq _ I H no (NewV.same hs (hr I H _ _))⟩
  · cases e
theorem snd_I0 {f : Int → Int → V} {g : Int → Int → D} (hr : ∀ I H i j, Rep X.K X.mg I H (g i j) (f i j) no) : Snd2 X (rI0 f) (gI0 g) := by
  intro I H x y d1 d2 d B1 B2 Q hs r1 o1 r2 o2 e hq
  cases r1 <;> (try cases e)
  cases r2 <;> (try cases e)
  exact ⟨_, _, rfl, rfl, hq _ I H no (NewV.same hs (hr I H _ _))⟩
instance : ∀ i j, Decidable (CDivW i j) := fun i j => by unfold CDivW; infer_instance
instance : ∀ i j, Decidable (CMulW i j) := fun i j => by unfold CMulW; infer_instance
instance : ∀ i j, Decidable (CPow i j) := fun i j => by unfold CPow; infer_instance
abbrev gSub := gI0 fun i j => .int (i - j)
abbrev gFdiv := gI CDivW fun i j => .int (i / j)
abbrev gMod := gI (fun _ j => 0 < j) fun i j => .int (i % j)
abbrev gPow := gI CPow fun i j => .int (i ^ j.toNat)
abbrev gShl := gI CPow fun i j => .int (i * 2 ^ j.toNat)
abbrev gShr := gI (fun _ j => 0 ≤ j) fun i j => .int (i / 2 ^ j.toNat)
abbrev gBand := gI0 fun i j => .int (Builtin.bitAnd i j)
abbrev gBor := gI0 fun i j => .int (Builtin.bitOr i j)
abbrev gXor := gI0 fun i j => .int (Builtin.bitXor i j)
theorem snd_sub : Snd2 X (rI0 fun i j => .int (i - j)) gSub := snd_I0 fun _ _ _ _ => .int
theorem snd_fdiv : Snd2 X (rI CDivW fun i j => .int (i / j)) gFdiv := snd_I fun _ _ _ _ => .int
theorem snd_mod : Snd2 X (rI (fun _ j => 0 < j) fun i j => .int (i % j)) gMod := snd_I fun _ _ _ _ => .int
theorem snd_pow : Snd2 X (rI CPow fun i j => .int (i ^ j.toNat)) gPow := snd_I fun _ _ _ _ => .int
theorem snd_shl : Snd2 X (rI CPow fun i j => .int (i * 2 ^ j.toNat)) gShl := snd_I fun _ _ _ _ => .int
theorem snd_shr : Snd2 X (rI (fun _ j => 0 ≤ j) fun i j => .int (i / 2 ^ j.toNat)) gShr := snd_I fun _ _ _ _ => .int
theorem snd_and : Snd2 X (rI0 fun i j => .int (Builtin.bitAnd i j)) gBand := snd_I0 fun _ _ _ _ => .int
theorem snd_or : Snd2 X (rI0 fun i j => .int (Builtin.bitOr i j)) gBor := snd_I0 fun _ _ _ _ => .int
theorem snd_xor : Snd2 X (rI0 fun i j => .int (Builtin.bitXor i j)) gXor := snd_I0 fun _ _ _ _ => .int

/-! ### + : ints, texts, lists, tuples -/
def rCatS (K : PySem.W.Frag) : R2 := fun x y H Q => ∃ l b xs zs, x = .ref l ∧ y = .ref b ∧ SqL K H l xs ∧ SqL K H b zs ∧ xs.length + zs.length ≤ sizeLine ∧ ∀ p, H p = none → Q (.ref p) (upd H p (.lst (xs ++ zs)))
theorem op_catS : OpR X (binaryOp .Add) (rCatS X.K) := by
  intro pins s σ H x y v u Q I rx ry h
  obtain ⟨l, b, xs, zs, rfl, rfl, hl, hb, hz, q⟩ := h
  cases rx
  cases ry
  obtain ⟨its, r1, p1, _⟩ := I.list hl
  obtain ⟨its2, r2, p2, _⟩ := I.list hb
  obtain ⟨⟨cls, dd, data, sl⟩, ho, hc, n, hd⟩ := p1.isList
  obtain ⟨⟨cls2, dd2, data2, sl2⟩, ho2, hc2, n2, hd2⟩ := p2.isList
  simp only at hc hd hc2 hd2
  subst hc hd hc2 hd2
  have hsz : its.toArray.size + its2.toArray.size ≤ sizeLine := by
    rw [List.size_toArray, List.size_toArray, ← r1.length, ← r2.length]; exact hz
  refine concat_meets ⟨_, ho, rfl⟩ ⟨_, ho2, rfl⟩ noFill_list_add seq_list_add PySem.F.slot_list_add PySem.F.entry_list_add (PySem.F.args_list_add_2 _ _) (list_addW l b its.toArray its2.toArray n n2 dd dd2 sl sl2 hsz) ⟨ho, ho2, ?_⟩
  have ea : its.toArray ++ its2.toArray = (its ++ its2).toArray := by simp
  rw [ea]
  exact ⟨.ref _, _, I.lnew (t' := s.toks) (r1.append r2) (by rw [List.length_append]; omega), rfl, q _ I.fresh⟩
def gAddS : D → D → Option D
  | .str x, .str y => if x.length + y.length ≤ sizeLine then some (.str (x ++ y)) else none
  | _, _ => none
theorem snd_addS : Snd2 X (fun x y H Q => ∃ i j, x = .str i ∧ y = .str j ∧ i.length + j.length ≤ sizeLine ∧ Q (.str (i ++ j)) H) gAddS := by
  intro I H x y d1 d2 d B1 B2 Q hs r1 o1 r2 o2 e hq
  cases r1 <;> (try cases e)
  cases r2 <;> (try cases e)
  simp only [gAddS] at e
  split at e
  · rename_i c; cases e; exact ⟨_, _, rfl, rfl, c, hq _ I H no (NewV.same hs .str)⟩
  · cases e
theorem Reps.app {I H : Hp} {A B : FP} : ∀ {ds es : List D} {vs ws : List V}, Reps X.K X.mg I H ds vs no → Reps X.K X.mg I H es ws no → Reps X.K X.mg I H (ds ++ es) (vs ++ ws) no
  | _, _, _, _, .nil, r => r
  | _, _, _, _, .cons r0 rs x y z, r => .cons (r0.mono x) (Reps.app (A := A) (B := B) (rs.mono y) r) Le.refl Le.refl no_dis
/-- a list as one reads it, its items when they hold nothing -/
theorem rep_sqL {I H : Hp} {o : Bool} {ds : List D} {v : V} {B : FP} (hs : SubH X.K I H) (r : Rep X.K X.mg I H (.lst o ds) v B) : ∃ a vs, v = .ref a ∧ SqL X.K H a vs ∧ Reps X.K X.mg I H ds vs B := by
  cases r with
  | lstO hA h rs hB nB => exact ⟨_, _, rfl, SqL.of h, rs.mono hB⟩
  | lstF h rs => exact ⟨_, _, rfl, hs.sqL h, rs.mono no_le⟩
theorem newV_lst {I H : Hp} {p : Addr} {ds : List D} {vs : List V} (hs : SubH X.K I H) (hp : H p = none) (r : Reps X.K X.mg I H ds vs no) : ∃ B, NewV X.K X.mg I H (.lst true ds) (.ref p) I (upd H p (.lst vs)) B :=
  ⟨_, (newM_own hs own_no hp (.lstO (.inl rfl) upd_same (reps_new hp r) no_le fun z => z)).newV⟩
theorem newV_tup {I H : Hp} {p : Addr} {ds : List D} {vs : List V} (hs : SubH X.K I H) (hp : H p = none) (r : Reps X.K X.mg I H ds vs no) : ∃ I', NewV X.K X.mg I H (.tup ds) (.ref p) I' (upd H p (.tup vs)) no :=
  ⟨_, (newM_tup hs own_no r hp).newV⟩
def gAddL : D → D → Option D
  | .lst _ xs, .lst _ ys => if ices xs = true ∧ ices ys = true ∧ xs.length + ys.length ≤ sizeLine then some (.lst true (xs ++ ys)) else none
  | _, _ => none
theorem snd_addL : Snd2 X (rCatS X.K) gAddL := by
  intro I H x y d1 d2 d B1 B2 Q hs r1 o1 r2 o2 e hq
  cases d1 <;> (try cases e)
  cases d2 <;> (try cases e)
  simp only [gAddL] at e
  split at e
  · rename_i c; cases e
    obtain ⟨a, vs, rfl, h1, rs1⟩ := rep_sqL hs r1
    obtain ⟨b, ws, rfl, h2, rs2⟩ := rep_sqL hs r2
    refine ⟨a, b, vs, ws, rfl, rfl, h1, h2, by rw [← rs1.length, ← rs2.length]; exact c.2.2, fun p hp => ?_⟩
    obtain ⟨B, n⟩ := newV_lst hs hp (Reps.app (A := no) (B := no) (rs1.ice c.1) (rs2.ice c.2.1))
    exact hq _ _ _ _ n
  · cases e
abbrev gAddI := gI0 fun i j => .int (i + j)
theorem snd_addI : Snd2 X (rI0 fun i j => .int (i + j)) gAddI := snd_I0 fun _ _ _ _ => .int
/-- + -/
def gAdd : D → D → Option D
  | .int i, .int j => some (.int (i + j))
  | .str x, .str y => if x.length + y.length ≤ sizeLine then some (.str (x ++ y)) else none
  | .lst _ xs, .lst _ ys => if ices xs = true ∧ ices ys = true ∧ xs.length + ys.length ≤ sizeLine then some (.lst true (xs ++ ys)) else none
  | _, _ => none
def rAddA (X : Cx) : R2 := fun x y H Q => rI0 (fun i j => .int (i + j)) x y H Q ∨ (fun x y H Q => (∃ i j, x = V.str i ∧ y = V.str j ∧ i.length + j.length ≤ sizeLine ∧ Q (.str (i ++ j)) H) ∨ rCatS X.K x y H Q) x y H Q
theorem op_addA : OpR X (binaryOp .Add) (rAddA X) := op_add.or (op_add_str.or op_catS)
theorem snd_addA : Snd2 X (rAddA X) gAdd := by
  intro I H x y d1 d2 d B1 B2 Q hs r1 o1 r2 o2 e hq
  refine snd_addI.or (snd_addS.or snd_addL) I H x y d1 d2 d B1 B2 Q hs r1 o1 r2 o2 ?_ hq
  cases d1 <;> cases d2 <;> first
    | exact e
    | (rename_i x' y'; by_cases c : x'.length + y'.length ≤ sizeLine
       · simpa [gI0, gAddS, gAdd, c] using e
       · simp [gAdd, c] at e)
    | cases e
theorem de_add {a b : Expr} {fa fb : EF} {pos : Pos} (ha : DE X W a fa) (hb : DE X W b fb) : DE X W (.BinOp a .Add b pos) (eOp2 gAdd fa fb) := de_bin op_addA snd_addA ha hb
/-! ### * : ints, a list of one's own times an int -/
def gMul : D → D → Option D
  | .int i, .int j => if CMulW i j then some (.int (i * j)) else none
  | .lst true xs, .int k => if ices xs = true ∧ -(2 ^ 63) ≤ k ∧ k < 2 ^ 63 ∧ xs.length * k.toNat ≤ sizeLine then some (.lst true (List.replicate k.toNat xs).flatten) else none
  | _, _ => none
theorem Reps.rep {I H : Hp} {ds : List D} {vs : List V} (r : Reps X.K X.mg I H ds vs no) : ∀ k : Nat, Reps X.K X.mg I H (List.replicate k ds).flatten (List.replicate k vs).flatten no
  | 0 => .nil
  | k + 1 => by
    rw [List.replicate_succ, List.replicate_succ, List.flatten_cons, List.flatten_cons]
    exact Reps.app (A := no) (B := no) r (Reps.rep r k)
theorem snd_mulA : Snd2 X (fun x y H Q => rI CMulW (fun i j => .int (i * j)) x y H Q ∨ rRep x y H Q) gMul := by
  intro I H x y d1 d2 d B1 B2 Q hs r1 o1 r2 o2 e hq
  cases d1 <;> (try cases e)
  · cases d2 <;> (try cases e)
    cases r1; cases r2
    simp only [gMul] at e
    split at e
    · rename_i c; cases e; exact .inl ⟨_, _, rfl, rfl, c, hq _ I H no (NewV.same hs .int)⟩
    · cases e
  · rename_i o xs
    cases o <;> (try cases e)
    cases d2 <;> (try cases e)
    rename_i k
    cases r2
    simp only [gMul] at e
    split at e
    · rename_i c; cases e
      cases r1 with
      | lstO hA h rs hB nB =>
        refine .inr ⟨_, k, _, rfl, rfl, h, c.2.1, c.2.2.1, by rw [← rs.length]; exact c.2.2.2, fun p hp => ?_⟩
        obtain ⟨B, n⟩ := newV_lst hs hp ((rs.ice c.1).rep k.toNat)
        exact hq _ _ _ _ n
    · cases e
theorem de_mul {a b : Expr} {fa fb : EF} {pos : Pos} (ha : DE X W a fa) (hb : DE X W b fb) : DE X W (.BinOp a .Mult b pos) (eOp2 gMul fa fb) := de_bin (op_mulW.or op_rep) snd_mulA ha hb
section
variable {a b : Expr} {fa fb : EF} {pos : Pos}
theorem de_sub (ha : DE X W a fa) (hb : DE X W b fb) : DE X W (.BinOp a .Sub b pos) (eOp2 gSub fa fb) := de_bin op_sub snd_sub ha hb
theorem de_fdiv (ha : DE X W a fa) (hb : DE X W b fb) : DE X W (.BinOp a .FloorDiv b pos) (eOp2 gFdiv fa fb) := de_bin op_fdivW snd_fdiv ha hb
theorem de_mod (ha : DE X W a fa) (hb : DE X W b fb) : DE X W (.BinOp a .Mod b pos) (eOp2 gMod fa fb) := de_bin op_mod snd_mod ha hb
theorem de_pow (ha : DE X W a fa) (hb : DE X W b fb) : DE X W (.BinOp a .Pow b pos) (eOp2 gPow fa fb) := de_bin op_pow snd_pow ha hb
theorem de_shl (ha : DE X W a fa) (hb : DE X W b fb) : DE X W (.BinOp a .LShift b pos) (eOp2 gShl fa fb) := de_bin op_shl snd_shl ha hb
theorem de_shr (ha : DE X W a fa) (hb : DE X W b fb) : DE X W (.BinOp a .RShift b pos) (eOp2 gShr fa fb) := de_bin op_shr snd_shr ha hb
theorem de_band (ha : DE X W a fa) (hb : DE X W b fb) : DE X W (.BinOp a .BitAnd b pos) (eOp2 gBand fa fb) := de_bin op_and snd_and ha hb
theorem de_bor (ha : DE X W a fa) (hb : DE X W b fb) : DE X W (.BinOp a .BitOr b pos) (eOp2 gBor fa fb) := de_bin op_or snd_or ha hb
theorem de_xor (ha : DE X W a fa) (hb : DE X W b fb) : DE X W (.BinOp a .BitXor b pos) (eOp2 gXor fa fb) := de_bin op_xor snd_xor ha hb
end
/-! ### order -/
def gC (p : Int → Int → Bool) (q : Str → Str → Bool) : D → D → Option D
  | .int i, .int j => some (.bl (p i j))
  | .str x, .str y => some (.bl (q x y))
  | _, _ => none
theorem snd_C {p : Int → Int → Bool} {q : Str → Str → Bool} : Snd2 X (fun x y H Q => rI0 (fun i j => .bl (p i j)) x y H Q ∨ (∃ i j, x = .str i ∧ y = .str j ∧ Q (.bl (q i j)) H)) (gC p q) := by
  intro I H x y d1 d2 d B1 B2 Q hs r1 o1 r2 o2 e hq
  cases d1 <;> (try cases e)
  · cases d2 <;> (try cases e)
    cases r1; cases r2
    exact .inl ⟨_, _, rfl, rfl, hq _ I H no (NewV.same hs .bl)⟩
  · cases d2 <;> (try cases e)
    cases r1; cases r2
    exact .inr ⟨_, _, rfl, rfl, hq _ I H no (NewV.same hs .bl)⟩
abbrev gLt := gC (fun i j => decide (i < j)) (fun i j => decide (i.cps.toList < j.cps.toList))
abbrev gLe := gC (fun i j => decide (i ≤ j)) (fun i j => !decide (j.cps.toList < i.cps.toList))
abbrev gGt := gC (fun i j => decide (j < i)) (fun i j => decide (j.cps.toList < i.cps.toList))
abbrev gGe := gC (fun i j => decide (j ≤ i)) (fun i j => !decide (i.cps.toList < j.cps.toList))
abbrev rCmp (p : Int → Int → Bool) (q : Str → Str → Bool) : R2 := fun x y H Q => rI0 (fun i j => .bl (p i j)) x y H Q ∨ (∃ i j, x = .str i ∧ y = .str j ∧ Q (.bl (q i j)) H)
theorem opx_lt : OpR X (compareOp .Lt) (rCmp (fun i j => decide (i < j)) (fun i j => decide (i.cps.toList < j.cps.toList))) := op_lt.or op_lt_str
theorem opx_le : OpR X (compareOp .LtE) (rCmp (fun i j => decide (i ≤ j)) (fun i j => !decide (j.cps.toList < i.cps.toList))) := op_le.or op_le_str
theorem opx_gt : OpR X (compareOp .Gt) (rCmp (fun i j => decide (j < i)) (fun i j => decide (j.cps.toList < i.cps.toList))) := op_gt.or op_gt_str
theorem opx_ge : OpR X (compareOp .GtE) (rCmp (fun i j => decide (j ≤ i)) (fun i j => !decide (i.cps.toList < j.cps.toList))) := op_ge.or op_ge_str

/-! ### == : data -/
mutual
def toPy : D → Option PyData
  | .non => some .none
  | .bl b => some (.bool b)
  | .int i => some (.int i)
  | .str x => some (.str x)
  | .lst _ xs => match toPys xs with
    | some ys => some (.list ys)
    | none => none
  | .tup xs => match toPys xs with
    | some ys => some (.tuple ys)
    | none => none
  | _ => none
def toPys : List D → Option (List PyData)
  | [] => some []
  | d :: ds => match toPy d, toPys ds with
    | some y, some ys => some (y :: ys)
    | _, _ => none
end
mutual
theorem Rep.dp {I H : Hp} (hs : SubH X.K I H) : ∀ {d : D} {v : V} {A : FP} {y : PyData}, Rep X.K X.mg I H d v A → toPy d = some y → Dp X.K H v y
  | _, _, _, _, .non, e => by simp only [toPy, Option.some.injEq] at e; subst e; exact .non
  | _, _, _, _, .bl, e => by simp only [toPy, Option.some.injEq] at e; subst e; exact .bl _
  | _, _, _, _, .int, e => by simp only [toPy, Option.some.injEq] at e; subst e; exact .int _
  | _, _, _, _, .str, e => by simp only [toPy, Option.some.injEq] at e; subst e; exact .str _
  | _, _, _, _, .lstO (ds := ds) hA h rs hB nB, e => by
    simp only [toPy] at e
    cases q : toPys ds with
    | none => rw [q] at e; cases e
    | some ys => rw [q] at e; cases e; exact .lst (SqL.of h) (Reps.dp hs rs q)
  | _, _, _, _, .lstF (ds := ds) h rs, e => by
    simp only [toPy] at e
    cases q : toPys ds with
    | none => rw [q] at e; cases e
    | some ys => rw [q] at e; cases e; exact .lst (hs.sqL h) (Reps.dp hs rs q)
  | _, _, _, _, .tup (ds := ds) h rs, e => by
    simp only [toPy] at e
    cases q : toPys ds with
    | none => rw [q] at e; cases e
    | some ys => rw [q] at e; cases e; exact .tup (SqT.of (hs _ _ h)) (Reps.dp hs rs q)
  | _, _, _, _, .hole, e => by simp [toPy] at e
  | _, _, _, _, .ty, e => by simp [toPy] at e
  | _, _, _, _, .cls _, e => by simp [toPy] at e
  | _, _, _, _, .dicKO .., e => by simp [toPy] at e
  | _, _, _, _, .dicKF .., e => by simp [toPy] at e
  | _, _, _, _, .dicTO .., e => by simp [toPy] at e
  | _, _, _, _, .dicTF .., e => by simp [toPy] at e
  | _, _, _, _, .insO .., e => by simp [toPy] at e
  | _, _, _, _, .insF .., e => by simp [toPy] at e
theorem Reps.dp {I H : Hp} (hs : SubH X.K I H) : ∀ {ds : List D} {vs : List V} {A : FP} {ys : List PyData}, Reps X.K X.mg I H ds vs A → toPys ds = some ys → DpAll X.K H vs ys
  | _, _, _, _, .nil, e => by simp only [toPys, Option.some.injEq] at e; subst e; exact .nil
  | _, _, _, _, .cons (d := d) (ds := ds) r rs x y z, e => by
    simp only [toPys] at e
    cases q1 : toPy d with
    | none => rw [q1] at e; simp at e
    | some u =>
      cases q2 : toPys ds with
      | none => rw [q1, q2] at e; simp at e
      | some us => rw [q1, q2] at e; simp at e; subst e; exact .cons (Rep.dp hs r q1) (Reps.dp hs rs q2)
end
def gEq : D → D → Option D
  | .int i, .int j => some (.bl (decide (i = j)))
  | .str x, .str y => some (.bl (decide (x = y)))
  | .bl x, .bl y => some (.bl (decide (x = y)))
  | .non, .non => some (.bl true)
  | .int _, .non => some (.bl false)
  | .non, .int _ => some (.bl false)
  | .str _, .non => some (.bl false)
  | .non, .str _ => some (.bl false)
  | .int _, .str _ => some (.bl false)
  | .str _, .int _ => some (.bl false)
  | x, y => match toPy x, toPy y with
    | some d, some e => if SeqAt.shaped d = true ∧ SeqAt.shaped e = true then some (.bl (PyData.eqv d e)) else none
    | _, _ => none
def neB : Option D → Option D
  | some (.bl b) => some (.bl !b)
  | _ => none
def gNe : D → D → Option D := fun x y => neB (gEq x y)
theorem gEq_bl {x y d : D} (h : gEq x y = some d) : ∃ b, d = .bl b := by
  unfold gEq at h
  split at h <;> (try (cases h; exact ⟨_, rfl⟩))
  split at h
  · split at h
    · cases h; exact ⟨_, rfl⟩
    · cases h
  · cases h
abbrev rEqA (K : PySem.W.Frag) : R2 := fun x y H Q => rEq x y H Q ∨ rEqD K x y H Q
abbrev rNeA (K : PySem.W.Frag) : R2 := fun x y H Q => rNe x y H Q ∨ rNeD K x y H Q
theorem snd_eqne {f : Bool → Bool} (I H : Hp) (x y : V) (d1 d2 : D) (b : Bool) (B1 B2 : FP) (Q : VK) (hs : SubH X.K I H) (r1 : Rep X.K X.mg I H d1 x B1) (r2 : Rep X.K X.mg I H d2 y B2) (e : gEq d1 d2 = some (.bl b)) :
    (scal x y = true ∧ decide (x = y) = b) ∨ ∃ d e, Dp X.K H x d ∧ Dp X.K H y e ∧ SeqAt.shaped d = true ∧ SeqAt.shaped e = true ∧ PyData.eqv d e = b := by
  have gen : (match toPy d1, toPy d2 with
    | some d, some e => if SeqAt.shaped d = true ∧ SeqAt.shaped e = true then some (.bl (PyData.eqv d e)) else none
    | _, _ => none) = some (D.bl b) → ∃ d e, Dp X.K H x d ∧ Dp X.K H y e ∧ SeqAt.shaped d = true ∧ SeqAt.shaped e = true ∧ PyData.eqv d e = b := fun e => by
    cases q1 : toPy d1 with
    | none => rw [q1] at e; simp at e
    | some u =>
      cases q2 : toPy d2 with
      | none => rw [q1, q2] at e; simp at e
      | some w =>
        rw [q1, q2] at e
        simp only at e
        split at e
        · rename_i c; simp at e; exact ⟨u, w, r1.dp hs q1, r2.dp hs q2, c.1, c.2, e⟩
        · cases e
  unfold gEq at e
  split at e
  case h_11 => exact .inr (gen e)
  all_goals (cases r1; cases r2; simp at e; subst e; exact .inl ⟨rfl, by simp⟩)
theorem snd_eq : Snd2 X (rEqA X.K) gEq := by
  intro I H x y d1 d2 d B1 B2 Q hs r1 o1 r2 o2 e hq
  obtain ⟨b, rfl⟩ := gEq_bl e
  rcases snd_eqne (f := id) I H x y d1 d2 b B1 B2 Q hs r1 r2 e with ⟨h1, h2⟩ | ⟨u, w, h1, h2, h3, h4, h5⟩
  · exact .inl ⟨h1, by rw [h2]; exact hq _ I H no (NewV.same hs .bl)⟩
  · exact .inr ⟨u, w, h1, h2, h3, h4, by rw [h5]; exact hq _ I H no (NewV.same hs .bl)⟩
theorem snd_ne : Snd2 X (rNeA X.K) gNe := by
  intro I H x y d1 d2 d B1 B2 Q hs r1 o1 r2 o2 e hq
  unfold gNe at e
  cases q : gEq d1 d2 with
  | none => rw [q] at e; cases e
  | some d' =>
    obtain ⟨b, rfl⟩ := gEq_bl q
    rw [q] at e
    simp only [neB, Option.some.injEq] at e
    subst e
    rcases snd_eqne (f := id) I H x y d1 d2 b B1 B2 Q hs r1 r2 q with ⟨h1, h2⟩ | ⟨u, w, h1, h2, h3, h4, h5⟩
    · exact .inl ⟨h1, by rw [h2]; exact hq _ I H no (NewV.same hs .bl)⟩
    · exact .inr ⟨u, w, h1, h2, h3, h4, by rw [h5]; exact hq _ I H no (NewV.same hs .bl)⟩
theorem opx_eq (hu : X.A.units + 64 < cLine) : OpR X (compareOp .Eq) (rEqA X.K) := op_eq.or (op_eqD hu)
theorem opx_ne (hu : X.A.units + 64 < cLine) : OpR X (compareOp .NotEq) (rNeA X.K) := op_ne.or (op_neD hu)

/-! ### is None, True, False -/
def gIs : D → D → Option D
  | .bl a, .bl b => some (.bl (decide (a = b)))
  | .non, .non => some (.bl true)
  | .hole, .non => none
  | _, .non => some (.bl false)
  | _, _ => none
def gIsnt : D → D → Option D := fun x y => neB (gIs x y)
abbrev rIsA : R2 := fun x y H Q => (y = .non ∧ Q (.bl (decide (x = .non))) H) ∨ rIsB x y H Q
abbrev rIsntA : R2 := fun x y H Q => (y = .non ∧ Q (.bl (!decide (x = .non))) H) ∨ rNotB x y H Q
theorem is_cases {I H : Hp} {x y : V} {d1 d2 d : D} {B1 B2 : FP} (r1 : Rep X.K X.mg I H d1 x B1) (r2 : Rep X.K X.mg I H d2 y B2) (e : gIs d1 d2 = some d) :
    ∃ b, d = .bl b ∧ ((y = .non ∧ decide (x = .non) = b) ∨ ∃ a c, x = .bl a ∧ y = .bl c ∧ decide (a = c) = b) := by
  unfold gIs at e
  split at e
  · cases r1; cases r2; cases e; exact ⟨_, rfl, .inr ⟨_, _, rfl, rfl, rfl⟩⟩
  · cases r1; cases r2; cases e; exact ⟨_, rfl, .inl ⟨rfl, rfl⟩⟩
  · cases e
  · rename_i h1 h2
    cases r2; cases e
    refine ⟨_, rfl, .inl ⟨rfl, ?_⟩⟩
    cases r1 <;> simp_all
  · cases e
theorem snd_is : Snd2 X rIsA gIs := by
  intro I H x y d1 d2 d B1 B2 Q hs r1 o1 r2 o2 e hq
  obtain ⟨b, rfl, ⟨h1, h2⟩ | ⟨a, c, h1, h2, h3⟩⟩ := is_cases r1 r2 e
  · exact .inl ⟨h1, by rw [h2]; exact hq _ I H no (NewV.same hs .bl)⟩
  · exact .inr ⟨a, c, h1, h2, by rw [h3]; exact hq _ I H no (NewV.same hs .bl)⟩
theorem snd_isnt : Snd2 X rIsntA gIsnt := by
  intro I H x y d1 d2 d B1 B2 Q hs r1 o1 r2 o2 e hq
  unfold gIsnt at e
  cases q : gIs d1 d2 with
  | none => rw [q] at e; cases e
  | some d' =>
    obtain ⟨b, rfl, h⟩ := is_cases r1 r2 q
    rw [q] at e
    simp only [neB, Option.some.injEq] at e
    subst e
    rcases h with ⟨h1, h2⟩ | ⟨a, c, h1, h2, h3⟩
    · exact .inl ⟨h1, by rw [h2]; exact hq _ I H no (NewV.same hs .bl)⟩
    · exact .inr ⟨a, c, h1, h2, by rw [h3]; exact hq _ I H no (NewV.same hs .bl)⟩
theorem opx_is : OpR X (compareOp .Is) rIsA := op_isN.or op_isBl
theorem opx_isnt : OpR X (compareOp .IsNot) rIsntA := op_notN.or op_notBl
end
end DL

set_option linter.all false
set_option autoImplicit false
namespace DL
open PySem PySem.Spec L2
open PyProof.Rows hiding St

section
variable {X : Cx} {W : WX}
/-! ### a chain a op b op c -/
def eChain (g1 g2 : D → D → Option D) (fa fb fc : EF) : EF := fun δ => (eCons fa (eCons fb eNil) δ).bind fun os δ1 => match rdL os δ1 with
  | some [x, y] => if ice y = true then match g1 x y with
      | some (.bl false) => .ok (.tmp (.bl false)) δ1
      | some (.bl true) => (fc δ1).bind fun o δ2 => match rdO o δ2 with
        | some z => match g2 y z with
          | some d => .ok (.tmp d) δ2
          | none => .stk
        | none => .stk
      | _ => .stk
    else .stk
  | _ => .stk
theorem se_chain {r r' : R2} {g1 g2 : D → D → Option D} {ta tb tc : TE} {fa fb fc : EF} (h1 : Snd2 X r g1) (h2 : Snd2 X r' g2) (ha : SE X W ta fa) (hb : SE X W tb fb) (hc : SE X W tc fc) : SE X W (tChain r r' ta tb tc) (eChain g1 g2 fa fb fc) := by
  intro I H δ σ F Q s h
  have key := sa_cons ha (sa_cons hb (sa_nil (X := X) (W := W)))
  refine key I H δ σ F (fun xs H2 => match xs with
    | [x, y] => r x y H2 fun z H3 => ∃ k, z = .bl k ∧ (if k = true then tc σ H3 fun w' H4 => r' y w' H4 Q else Q (.bl false) H3)
    | _ => False) s ?_
  unfold eChain at h
  cases q : eCons fa (eCons fb eNil) δ with
  | stk => rw [q] at h; exact h.elim
  | er x δ' => rw [q] at h; exact h
  | ok os δ1 =>
    rw [q] at h
    intro vs I1 H1 F1 B go rs
    change EO X W I H δ σ F Q (match rdL os δ1 with
      | some [x, y] => if ice y = true then match g1 x y with
          | some (.bl false) => .ok (.tmp (.bl false)) δ1
          | some (.bl true) => (fc δ1).bind fun o δ2 => match rdO o δ2 with
            | some z => match g2 y z with
              | some d => .ok (.tmp d) δ2
              | none => .stk
            | none => .stk
          | _ => .stk
        else .stk
      | _ => .stk) at h
    split at h
    · rename_i x y e
      have rd := rdL_ok go.st go.own rs e
      cases rd with
      | cons B1 r1 o1 rd =>
        cases rd with
        | cons B2 r2 o2 rd =>
          cases rd
          split at h
          · rename_i hi
            have g0 := go.less (B2 := no) no_le
            have r2' := r2.ice hi
            split at h
            · rename_i e1
              exact h1 I1 H1 _ _ x y (.bl false) B1 B2 _ go.st.sub r1 o1 r2 o2 e1 fun v I' H' B' n => by
                cases n.rep
                refine ⟨false, rfl, ?_⟩
                rw [if_neg (by simp)]
                exact h _ I' H' F1 no (((g0.trans (Go.new g0.st n)).less no_le)) .bl
            · rename_i e1
              refine h1 I1 H1 _ _ x y (.bl true) B1 B2 _ go.st.sub r1 o1 r2 o2 e1 fun v I' H' B' n => ?_
              have g2' := (g0.trans (Go.new g0.st n)).less (B2 := no) no_le
              have hv : v = .bl true := by cases n.rep; rfl
              subst hv
              refine ⟨true, rfl, ?_⟩
              rw [if_pos rfl]
              refine hc I' H' δ1 σ F1 _ g2'.st ?_
              cases q2 : fc δ1 with
              | stk => rw [q2] at h; exact h.elim
              | er x δ' => rw [q2] at h; exact ErO.trans g2' h
              | ok o δ2 =>
                rw [q2] at h
                intro w I2 H2 F2 Bo g3 ro
                change EO X W I H δ σ F Q (match rdO o δ2 with
                  | some z => match g2 y z with
                    | some d => .ok (.tmp d) δ2
                    | none => .stk
                  | none => .stk) at h
                cases q3 : rdO o δ2 with
                | none => rw [q3] at h; exact h.elim
                | some z =>
                  rw [q3] at h
                  simp only at h
                  cases q4 : g2 y z with
                  | none => rw [q4] at h; exact h.elim
                  | some d =>
                    rw [q4] at h
                    obtain ⟨C, rz, oz, _⟩ := rd_ok g3.st g3.own ro q3
                    have ry : Rep X.K X.mg I2 H2 y _ no := r2'.frame (n.ev.inc.trans g3.ev.inc) fun _ _ z => z.elim
                    refine h2 I2 H2 _ _ y z d no C _ g3.st.sub ry own_no rz oz q4 fun u I3 H3 B3 n3 => ?_
                    exact h u I3 H3 F2 B3 ((g2'.trans (g3.trans (Go.new g3.st n3))).less fun a q => .inr (.inr q)) n3.rep
            · exact h.elim
          · exact h.elim
    · exact h.elim
section
variable {a b c : Expr} {fa fb fc : EF} {pos : Pos} {op op' : CmpOp} {r r' : R2} {g g' : D → D → Option D}
theorem de_chain (ho : OpR X (compareOp op) r) (ho' : OpR X (compareOp op') r') (h1 : Snd2 X r g) (h2 : Snd2 X r' g') (ha : DE X W a fa) (hb : DE X W b fb) (hc : DE X W c fc) (hm : lastMarks [op, op'] [b, c] = false := by with_unfolding_all rfl) :
    DE X W (.Compare a [op, op'] [b, c] pos) (eChain g g' fa fb fc) :=
  let ⟨_, p, q⟩ := ha; let ⟨_, p2, q2⟩ := hb; let ⟨_, p3, q3⟩ := hc; ⟨_, pe_chain ho ho' p p2 p3 hm, se_chain h1 h2 q q2 q3⟩
theorem db_chain (ho : OpR X (compareOp op) r) (ho' : OpR X (compareOp op') r') (h1 : Snd2 X r g) (h2 : Snd2 X r' g') (ha : DE X W a fa) (hb : DE X W b fb) (hc : DE X W c fc) (hm : lastMarks [op, op'] [b, c] = false := by with_unfolding_all rfl) :
    DB X W (.Compare a [op, op'] [b, c] pos) (bB (eChain g g' fa fb fc)) :=
  let ⟨_, p, q⟩ := ha; let ⟨_, p2, q2⟩ := hb; let ⟨_, p3, q3⟩ := hc; ⟨_, pt_chain ho ho' p p2 p3 hm, sb_bl (se_chain h1 h2 q q2 q3)⟩
end
/-! ### truth of a value -/
def tru : D → Option Bool
  | .bl b => some b
  | .int i => some (i != 0)
  | .non => some false
  | .str x => if x.length ≤ sizeLine then some (decide (x.length ≠ 0)) else none
  | .lst _ xs => some (!xs.isEmpty)
  | .tup xs => some (!xs.isEmpty)
  | _ => none
theorem reps_empty {I H : Hp} {ds : List D} {vs : List V} {B : FP} (r : Reps X.K X.mg I H ds vs B) : ds.isEmpty = vs.isEmpty := by cases r <;> rfl
theorem tru_rep {I H : Hp} {d : D} {v : V} {B : FP} {b : Bool} (hs : SubH X.K I H) (r : Rep X.K X.mg I H d v B) (e : tru d = some b) : TruV X.K v H b := by
  cases r <;> simp only [tru, reduceCtorEq, Option.some.injEq] at e
  case non => exact e.symm
  case bl => exact e.symm
  case int => exact e.symm
  case str x =>
    split at e
    · rename_i hl; cases e
      refine ⟨hl, ?_⟩
      by_cases h : x.length = 0 <;> simp [h, bne]
    · cases e
  case lstO h rs nB hA hB => subst e; exact .inl ⟨_, SqL.of h, by rw [reps_empty rs]⟩
  case lstF h rs => subst e; exact .inl ⟨_, hs.sqL h, by rw [reps_empty rs]⟩
  case tup h rs => subst e; exact .inr (.inl ⟨_, SqT.of (hs _ _ h), by rw [reps_empty rs]⟩)
def bT (f : EF) : BF := fun δ => (f δ).bind fun o δ1 => match rdO o δ1 with
  | some d => match tru d with
    | some b => .ok b δ1
    | none => .stk
  | none => .stk
theorem db_truth {a : Expr} {f : EF} (h : DE X W a f) (he : ∀ whole, isTrue a X.env whole = (do let v ← whole; standAt a.pos; holding [v] (truthy v)) := by intro _; rfl) : DB X W a (bT f) := by
  obtain ⟨t, p, q⟩ := h
  refine ⟨_, pt_truth p he, fun I H δ σ F Q s h => q I H δ σ F _ s ?_⟩
  unfold bT at h
  cases q1 : f δ with
  | stk => rw [q1] at h; exact h.elim
  | er x δ' => rw [q1] at h; exact h
  | ok o δ1 =>
    rw [q1] at h
    intro v I1 H1 F1 B go r
    change TO X W I H δ σ F Q (match rdO o δ1 with
      | some d => match tru d with
        | some b => .ok b δ1
        | none => .stk
      | none => .stk) at h
    cases q2 : rdO o δ1 with
    | none => rw [q2] at h; exact h.elim
    | some d =>
      rw [q2] at h; simp only at h
      cases q3 : tru d with
      | none => rw [q3] at h; exact h.elim
      | some b =>
        rw [q3] at h
        obtain ⟨C, rc, _, _⟩ := rd_ok go.st go.own r q2
        exact ⟨b, tru_rep go.st.sub rc q3, h I1 H1 F1 (go.less no_le)⟩

/-! ### built-in calls that read -/
def Snd1 (X : Cx) (r : List V → Hp → VK → Prop) (g : D → Option D) : Prop :=
  ∀ I H x d1 d B1 Q, SubH X.K I H → Rep X.K X.mg I H d1 x B1 → Own I H B1 → g d1 = some d → (∀ v I' H' B, NewV X.K X.mg I H d v I' H' B → Q v H') → r [x] H Q
theorem Snd1.snd {r : List V → Hp → VK → Prop} {g : D → Option D} (h : Snd1 X r g) : Snd X r (g1L g) := by
  intro I H ds vs d Q hs rd e hq
  cases rd with
  | nil => cases e
  | cons B1 r1 o1 rd =>
    cases rd with
    | nil => exact h I H _ _ d B1 Q hs r1 o1 e hq
    | cons _ _ _ _ => cases e
section
variable {id T : String} {x : Str} {p pos : Pos} {e : Expr} {es : List Expr} {fa : AF} {r : List V → Hp → VK → Prop} {g : List D → Option D}
theorem de_bi (hc : CallR X (.builtin id) r) (h : Snd X r g) (hg : Gl X x) (hm : X.mg x = none) (hv : bootBuiltins x = some (.builtin id)) (ha : DA X W (e :: es) fa) (hn : x ≠ "__name__" := by decide) (hdb : (x == ("__debug__" : Str)) = false := by decide)
    (he : starEach (e :: es) X.env = (false, eval e X.env) :: starEach es X.env := by rfl) (hpl : (backTo pos (starEach es X.env)).any (·.1) = false := by rfl) : DE X W (.Call (.Name x p) (e :: es) [] pos) (eRd g fa) :=
  let ⟨_, pa, qa⟩ := ha; ⟨_, pe_callB hc hg hm hv pa hn hdb he hpl, se_rd h qa⟩
theorem de_bty (hc : CallR X (.type T) r) (h : Snd X r g) (hg : Gl X x) (hm : X.mg x = none) (hv : bootBuiltins x = some (.type T)) (ha : DA X W (e :: es) fa) (hn : x ≠ "__name__" := by decide) (hdb : (x == ("__debug__" : Str)) = false := by decide)
    (he : starEach (e :: es) X.env = (false, eval e X.env) :: starEach es X.env := by rfl) (hpl : (backTo pos (starEach es X.env)).any (·.1) = false := by rfl) : DE X W (.Call (.Name x p) (e :: es) [] pos) (eRd g fa) :=
  let ⟨_, pa, qa⟩ := ha; ⟨_, pe_callTy hc hg hm hv pa hn hdb he hpl, se_rd h qa⟩
end
/-- len -/
def gLen : D → Option D
  | .str x => if x.length ≤ sizeLine then some (.int x.length) else none
  | .lst _ xs => some (.int xs.length)
  | .tup xs => some (.int xs.length)
  | _ => none
theorem snd_len : Snd X (fun xs H Q => ∃ x n, xs = [x] ∧ LenV X.K x H n ∧ Q (.int n) H) (g1L gLen) := Snd1.snd (by
  intro I H x d1 d B1 Q hs r1 o1 e hq
  cases r1 <;> simp only [gLen, reduceCtorEq, Option.some.injEq] at e
  case str y =>
    split at e
    · rename_i hl; cases e; exact ⟨_, _, rfl, ⟨hl, rfl⟩, hq _ I H no (NewV.same hs .int)⟩
    · cases e
  case lstO h rs nB hA hB => subst e; exact ⟨_, _, rfl, .inl ⟨_, SqL.of h, rfl⟩, by rw [← rs.length]; exact hq _ I H no (NewV.same hs .int)⟩
  case lstF h rs => subst e; exact ⟨_, _, rfl, .inl ⟨_, hs.sqL h, rfl⟩, by rw [← rs.length]; exact hq _ I H no (NewV.same hs .int)⟩
  case tup h rs => subst e; exact ⟨_, _, rfl, .inr ⟨_, SqT.of (hs _ _ h), rfl⟩, by rw [← rs.length]; exact hq _ I H no (NewV.same hs .int)⟩)
/-- all items ints; bools; texts -/
def intsD : List D → Option (List Int)
  | [] => some []
  | .int i :: ds => match intsD ds with
    | some is => some (i :: is)
    | none => none
  | _ :: _ => none
def blsD : List D → Option (List Bool)
  | [] => some []
  | .bl i :: ds => match blsD ds with
    | some is => some (i :: is)
    | none => none
  | _ :: _ => none
def strsD : List D → Option (List Str)
  | [] => some []
  | .str i :: ds => match strsD ds with
    | some is => some (i :: is)
    | none => none
  | _ :: _ => none
theorem intsD_ok {I H : Hp} : ∀ {ds : List D} {vs : List V} {B : FP} {is : List Int}, Reps X.K X.mg I H ds vs B → intsD ds = some is → vs = is.map V.int
  | _, _, _, _, .nil, e => by simp only [intsD, Option.some.injEq] at e; subst e; rfl
  | _, _, _, _, .cons (d := d) (ds := ds) r rs x y z, e => by
    cases d <;> simp only [intsD, reduceCtorEq] at e
    cases q : intsD ds with
    | none => rw [q] at e; cases e
    | some js => rw [q] at e; cases e; cases r; rw [intsD_ok rs q]; rfl
theorem blsD_ok {I H : Hp} : ∀ {ds : List D} {vs : List V} {B : FP} {is : List Bool}, Reps X.K X.mg I H ds vs B → blsD ds = some is → vs = is.map V.bl
  | _, _, _, _, .nil, e => by simp only [blsD, Option.some.injEq] at e; subst e; rfl
  | _, _, _, _, .cons (d := d) (ds := ds) r rs x y z, e => by
    cases d <;> simp only [blsD, reduceCtorEq] at e
    cases q : blsD ds with
    | none => rw [q] at e; cases e
    | some js => rw [q] at e; cases e; cases r; rw [blsD_ok rs q]; rfl
theorem strsD_ok {I H : Hp} : ∀ {ds : List D} {vs : List V} {B : FP} {is : List Str}, Reps X.K X.mg I H ds vs B → strsD ds = some is → vs = is.map V.str
  | _, _, _, _, .nil, e => by simp only [strsD, Option.some.injEq] at e; subst e; rfl
  | _, _, _, _, .cons (d := d) (ds := ds) r rs x y z, e => by
    cases d <;> simp only [strsD, reduceCtorEq] at e
    cases q : strsD ds with
    | none => rw [q] at e; cases e
    | some js => rw [q] at e; cases e; cases r; rw [strsD_ok rs q]; rfl
def gSum : D → Option D
  | .lst _ ds => match intsD ds with
    | some is => some (.int is.sum)
    | none => none
  | _ => none
theorem snd_sum : Snd X (rSum X.K) (g1L gSum) := Snd1.snd (by
  intro I H x d1 d B1 Q hs r1 o1 e hq
  cases d1 <;> simp only [gSum, reduceCtorEq] at e
  rename_i o ds
  obtain ⟨a, vs, rfl, h1, rs⟩ := rep_sqL hs r1
  cases q : intsD ds with
  | none => rw [q] at e; cases e
  | some is => rw [q] at e; cases e; exact ⟨a, is, rfl, (intsD_ok rs q) ▸ h1, hq _ I H no (NewV.same hs .int)⟩)
def gAll : D → Option D
  | .lst _ ds => match blsD ds with
    | some is => some (.bl (is.all id))
    | none => none
  | _ => none
def gAny : D → Option D
  | .lst _ ds => match blsD ds with
    | some is => some (.bl (is.any id))
    | none => none
  | _ => none
theorem snd_all : Snd X (rAll X.K) (g1L gAll) := Snd1.snd (by
  intro I H x d1 d B1 Q hs r1 o1 e hq
  cases d1 <;> simp only [gAll, reduceCtorEq] at e
  rename_i o ds
  obtain ⟨a, vs, rfl, h1, rs⟩ := rep_sqL hs r1
  cases q : blsD ds with
  | none => rw [q] at e; cases e
  | some is => rw [q] at e; cases e; exact ⟨a, is, rfl, (blsD_ok rs q) ▸ h1, hq _ I H no (NewV.same hs .bl)⟩)
theorem snd_any : Snd X (rAny X.K) (g1L gAny) := Snd1.snd (by
  intro I H x d1 d B1 Q hs r1 o1 e hq
  cases d1 <;> simp only [gAny, reduceCtorEq] at e
  rename_i o ds
  obtain ⟨a, vs, rfl, h1, rs⟩ := rep_sqL hs r1
  cases q : blsD ds with
  | none => rw [q] at e; cases e
  | some is => rw [q] at e; cases e; exact ⟨a, is, rfl, (blsD_ok rs q) ▸ h1, hq _ I H no (NewV.same hs .bl)⟩)
/-- max, min of two ints, of a list of ints -/
def maxL : List Int → Option Int
  | [] => none
  | x :: xs => some (xs.foldl (fun m y => if y > m then y else m) x)
def minL : List Int → Option Int
  | [] => none
  | x :: xs => some (xs.foldl (fun m y => if y < m then y else m) x)
theorem maxL_ok : ∀ (xs : List Int) (x : Int), xs.foldl (fun m y => if y > m then y else m) x ∈ x :: xs ∧ ∀ y ∈ x :: xs, y ≤ xs.foldl (fun m y => if y > m then y else m) x
  | [], x => by simp
  | z :: xs, x => by
    obtain ⟨h1, h2⟩ := maxL_ok xs (if z > x then z else x)
    refine ⟨?_, fun y hy => ?_⟩
    · simp only [List.foldl_cons]
      rcases List.mem_cons.mp h1 with h | h
      · rw [h]; split <;> simp
      · exact List.mem_cons_of_mem _ (List.mem_cons_of_mem _ h)
    · simp only [List.foldl_cons]
      rcases List.mem_cons.mp hy with rfl | hy
      · refine Int.le_trans ?_ (h2 _ List.mem_cons_self); split <;> omega
      · rcases List.mem_cons.mp hy with rfl | hy
        · refine Int.le_trans ?_ (h2 _ List.mem_cons_self); split <;> omega
        · exact h2 y (List.mem_cons_of_mem _ hy)
theorem minL_ok : ∀ (xs : List Int) (x : Int), xs.foldl (fun m y => if y < m then y else m) x ∈ x :: xs ∧ ∀ y ∈ x :: xs, xs.foldl (fun m y => if y < m then y else m) x ≤ y
  | [], x => by simp
  | z :: xs, x => by
    obtain ⟨h1, h2⟩ := minL_ok xs (if z < x then z else x)
    refine ⟨?_, fun y hy => ?_⟩
    · simp only [List.foldl_cons]
      rcases List.mem_cons.mp h1 with h | h
      · rw [h]; split <;> simp
      · exact List.mem_cons_of_mem _ (List.mem_cons_of_mem _ h)
    · simp only [List.foldl_cons]
      rcases List.mem_cons.mp hy with rfl | hy
      · refine Int.le_trans (h2 _ List.mem_cons_self) ?_; split <;> omega
      · rcases List.mem_cons.mp hy with rfl | hy
        · refine Int.le_trans (h2 _ List.mem_cons_self) ?_; split <;> omega
        · exact h2 y (List.mem_cons_of_mem _ hy)
def gMaxL : D → Option D
  | .lst _ ds => match intsD ds with
    | some is => match maxL is with
      | some m => some (.int m)
      | none => none
    | none => none
  | _ => none
def gMinL : D → Option D
  | .lst _ ds => match intsD ds with
    | some is => match minL is with
      | some m => some (.int m)
      | none => none
    | none => none
  | _ => none
theorem snd_maxL : Snd X (rMax X.K) (g1L gMaxL) := Snd1.snd (by
  intro I H x d1 d B1 Q hs r1 o1 e hq
  cases d1 <;> simp only [gMaxL, reduceCtorEq] at e
  rename_i o ds
  obtain ⟨a, vs, rfl, h1, rs⟩ := rep_sqL hs r1
  cases q : intsD ds with
  | none => rw [q] at e; cases e
  | some is =>
    rw [q] at e
    cases is with
    | nil => cases e
    | cons i is =>
      simp only [maxL, Option.some.injEq] at e; subst e
      refine ⟨a, i :: is, rfl, (intsD_ok rs q) ▸ h1, by simp, fun m hm hle => ?_⟩
      obtain ⟨k1, k2⟩ := maxL_ok is i
      have : m = is.foldl (fun m y => if y > m then y else m) i := Int.le_antisymm (k2 m hm) (hle _ k1)
      rw [this]; exact hq _ I H no (NewV.same hs .int))
theorem snd_minL : Snd X (rMin X.K) (g1L gMinL) := Snd1.snd (by
  intro I H x d1 d B1 Q hs r1 o1 e hq
  cases d1 <;> simp only [gMinL, reduceCtorEq] at e
  rename_i o ds
  obtain ⟨a, vs, rfl, h1, rs⟩ := rep_sqL hs r1
  cases q : intsD ds with
  | none => rw [q] at e; cases e
  | some is =>
    rw [q] at e
    cases is with
    | nil => cases e
    | cons i is =>
      simp only [minL, Option.some.injEq] at e; subst e
      refine ⟨a, i :: is, rfl, (intsD_ok rs q) ▸ h1, by simp, fun m hm hle => ?_⟩
      obtain ⟨k1, k2⟩ := minL_ok is i
      have : m = is.foldl (fun m y => if y < m then y else m) i := Int.le_antisymm (hle _ k1) (k2 m hm)
      rw [this]; exact hq _ I H no (NewV.same hs .int))
def gMax2 : D → D → Option D
  | .int i, .int j => some (.int (if j > i then j else i))
  | _, _ => none
def gMin2 : D → D → Option D
  | .int i, .int j => some (.int (if j < i then j else i))
  | _, _ => none
theorem snd_max2 : Snd X (fun xs H Q => ∃ i j, xs = [.int i, .int j] ∧ Q (.int (if j > i then j else i)) H) (g2L gMax2) := by
  intro I H ds vs d Q hs rd e hq
  cases rd with
  | nil => cases e
  | cons B1 r1 o1 rd => cases rd with
    | nil => cases e
    | cons B2 r2 o2 rd => cases rd with
      | nil =>
        cases r1 <;> (try cases e)
        cases r2 <;> (try cases e)
        exact ⟨_, _, rfl, hq _ I H no (NewV.same hs .int)⟩
      | cons _ _ _ _ => cases e
theorem snd_min2 : Snd X (fun xs H Q => ∃ i j, xs = [.int i, .int j] ∧ Q (.int (if j < i then j else i)) H) (g2L gMin2) := by
  intro I H ds vs d Q hs rd e hq
  cases rd with
  | nil => cases e
  | cons B1 r1 o1 rd => cases rd with
    | nil => cases e
    | cons B2 r2 o2 rd => cases rd with
      | nil =>
        cases r1 <;> (try cases e)
        cases r2 <;> (try cases e)
        exact ⟨_, _, rfl, hq _ I H no (NewV.same hs .int)⟩
      | cons _ _ _ _ => cases e
def gAbs : D → Option D
  | .int i => some (.int (if i < 0 then -i else i))
  | _ => none
theorem snd_abs : Snd X (fun xs H Q => ∃ i, xs = [.int i] ∧ Q (.int (if i < 0 then -i else i)) H) (g1L gAbs) := Snd1.snd (by
  intro I H x d1 d B1 Q hs r1 o1 e hq
  cases r1 <;> simp only [gAbs, reduceCtorEq, Option.some.injEq] at e
  subst e; exact ⟨_, rfl, hq _ I H no (NewV.same hs .int)⟩)
def gStr : D → Option D
  | .int i => if i.natAbs.log2 < 1920 then some (.str (toString i)) else none
  | _ => none
theorem snd_str : Snd X (fun xs H Q => ∃ i, xs = [.int i] ∧ i.natAbs.log2 < 1920 ∧ Q (.str (toString i)) H) (g1L gStr) := Snd1.snd (by
  intro I H x d1 d B1 Q hs r1 o1 e hq
  cases r1 <;> simp only [gStr, reduceCtorEq] at e
  split at e
  · rename_i c; cases e; exact ⟨_, rfl, c, hq _ I H no (NewV.same hs .str)⟩
  · cases e)
/-! ### isinstance of built-in types -/
def tyD : D → Option String
  | .non => some "NoneType"
  | .bl _ => some "bool"
  | .int _ => some "int"
  | .str _ => some "str"
  | .lst _ _ => some "list"
  | .tup _ => some "tuple"
  | .dic _ _ _ => some "dict"
  | _ => none
theorem tyD_rep {I H : Hp} {d : D} {v : V} {B : FP} {T : String} (hs : SubH X.K I H) (r : Rep X.K X.mg I H d v B) (e : tyD d = some T) : TyX X.K H v (.type T) := by
  cases r <;> simp only [tyD, reduceCtorEq, Option.some.injEq] at e <;> subst e
  case non => exact .base .non
  case bl => exact .base (.bl _)
  case int => exact .base (.int _)
  case str => exact .base (.str _)
  case lstO h rs nB hA hB => exact .base (.lst h)
  case lstF h rs =>
    rcases h with (h | ⟨o, h⟩) | ⟨o, its, n, h1, h2, _⟩
    · exact .base (.lst (hs _ _ h))
    · exact .base (.frz (hs _ _ h))
    · exact .kList h1 h2
  case tup h rs => exact .base (.tup (hs _ _ h))
  case dicKO h hk nd rs nB hA hB => exact .base (.dK h)
  case dicKF h hk nd rs => exact .base (.dK (hs _ _ h))
  case dicTO h hk nd rs nB hA hB => exact .base (.dT h)
  case dicTF h hk nd rs => exact .base (.dT (hs _ _ h))
def isiB (t T : String) : Bool := t == T || (t == "bool" && T == "int")
def tyList : List String := ["NoneType", "bool", "int", "str", "list", "tuple", "dict"]
theorem isi_all : (tyList.all fun t => tyList.all fun T => T == "NoneType" || decide (kitB t T = some (isiB t T))) = true := by decide +kernel
theorem tyD_mem {d : D} {T : String} (e : tyD d = some T) : T ∈ tyList := by
  cases d <;> simp only [tyD, reduceCtorEq, Option.some.injEq] at e <;> subst e <;> decide
def gIsi : D → D → Option D
  | d, .ty T => match tyD d with
    | some t => if T ∈ tyList ∧ T ≠ "NoneType" then some (.bl (isiB t T)) else none
    | none => none
  | _, _ => none
theorem snd_isi : Snd X (rIsi X.K) (g2L gIsi) := by
  intro I H ds vs d Q hs rd e hq
  cases rd with
  | nil => cases e
  | cons B1 r1 o1 rd => cases rd with
    | nil => cases e
    | cons B2 r2 o2 rd => cases rd with
      | cons _ _ _ _ => cases e
      | nil =>
        rename_i d1 v1 d2 v2
        cases d2 <;> simp only [g2L, gIsi, reduceCtorEq] at e
        rename_i T
        cases r2
        cases q : tyD d1 with
        | none => rw [q] at e; cases e
        | some t =>
          rw [q] at e
          simp only at e
          split at e
          · rename_i c; cases e
            have h := isi_all
            simp only [List.all_eq_true, Bool.or_eq_true, beq_iff_eq, decide_eq_true_eq] at h
            rcases h t (tyD_mem q) T c.1 with z | z
            · exact absurd z c.2
            · exact ⟨_, _, _, _, _, rfl, .ty T, tyD_rep hs r1 q, kit_ty z, hq _ I H no (NewV.same hs .bl)⟩
          · cases e
theorem de_bltn {x : Str} {n : String} {pos : Pos} (hg : Gl X x) (hm : X.mg x = none) (hv : bootBuiltins x = some (.type n)) (hn : x ≠ "__name__" := by decide) (hd : (x == ("__debug__" : Str)) = false := by decide) : DE X W (.Name x pos) (eC (.ty n)) :=
  ⟨_, pe_bltn (v := .ty n) hg hm hv rfl hn hd, se_c fun _ _ => .ty⟩
/-! ### constants -/
theorem de_bl {b : Bool} {j : Nat} {pos : Pos} : DE X W (.Constant (.bool b) j pos) (eC (.bl b)) := ⟨_, pe_bl, se_c fun _ _ => .bl⟩
theorem de_non {j : Nat} {pos : Pos} : DE X W (.Constant .none j pos) (eC .non) := ⟨_, pe_non, se_c fun _ _ => .non⟩
theorem de_str {x : Str} {j : Nat} {pos : Pos} : DE X W (.Constant (.str x) j pos) (eC (.str x)) := ⟨_, pe_str, se_c fun _ _ => .str⟩
theorem de_glob_int {x : Str} {i : Int} {t : Tok} {pos : Pos} (hg : Gl X x) (hm : X.mg x = some (.int i t)) (hd : (x == ("__debug__" : Str)) = false := by decide) : DE X W (.Name x pos) (eC (.int i)) := ⟨_, pe_glob (v := .int i) hg hm ⟨t, rfl⟩ hd, se_c fun _ _ => .int⟩
theorem de_glob_str {x : Str} {i : Str} {t : Tok} {pos : Pos} (hg : Gl X x) (hm : X.mg x = some (.str i t)) (hd : (x == ("__debug__" : Str)) = false := by decide) : DE X W (.Name x pos) (eC (.str i)) := ⟨_, pe_glob (v := .str i) hg hm ⟨t, rfl⟩ hd, se_c fun _ _ => .str⟩
/-- -a -/
def eNeg (f : EF) : EF := eRd (g1L fun d => match d with
  | .int i => some (.int (-i))
  | _ => none) (eCons f eNil)
theorem de_neg {a : Expr} {fa : EF} {pos : Pos} (ha : DE X W a fa) : DE X W (.UnaryOp .USub a pos) (eNeg fa) := by
  obtain ⟨t, p, q⟩ := ha
  refine ⟨_, pe_un un_neg p, se_rd (X := X) (W := W) (r := fun vs H Q => match vs with
    | [x] => rU (fun i => .int (-i)) x H Q
    | _ => False) (t := tCons t tNil) (Snd1.snd ?_) (sa_cons q sa_nil)⟩
  intro I H x d1 d B1 Q hs r1 o1 e hq
  cases r1 <;> simp only [reduceCtorEq, Option.some.injEq] at e
  subst e; exact ⟨_, rfl, hq _ I H no (NewV.same hs .int)⟩

/-! ### in -/
def flatD : D → Bool
  | .non => true
  | .bl _ => true
  | .int _ => true
  | .str _ => true
  | _ => false
def eqD : D → D → Bool
  | .non, .non => true
  | .bl a, .bl b => a == b
  | .bl a, .int b => (if a then 1 else 0) == b
  | .int a, .bl b => a == (if b then 1 else 0)
  | .int a, .int b => a == b
  | .str a, .str b => a == b
  | _, _ => false
theorem flat_rep {I H : Hp} {d : D} {v : V} {B : FP} (r : Rep X.K X.mg I H d v B) (e : flatD d = true) : flatV v = true := by cases r <;> first | rfl | cases e
theorem eqD_rep {I H : Hp} {d e : D} {v w : V} {B C : FP} (r : Rep X.K X.mg I H d v B) (s : Rep X.K X.mg I H e w C) (hd : flatD d = true) (he : flatD e = true) : eqD d e = eqV v w := by
  cases r <;> (try cases hd) <;> cases s <;> first | rfl | cases he
theorem flats_rep {I H : Hp} : ∀ {ds : List D} {vs : List V} {B : FP}, Reps X.K X.mg I H ds vs B → ds.all flatD = true → vs.all flatV = true
  | _, _, _, .nil, _ => rfl
  | _, _, _, .cons r rs _ _ _, e => by
    simp only [List.all_cons, Bool.and_eq_true] at e ⊢
    exact ⟨flat_rep r e.1, flats_rep rs e.2⟩
theorem inD_rep {I H : Hp} {d : D} {v : V} {C : FP} (r : Rep X.K X.mg I H d v C) (hd : flatD d = true) : ∀ {ds : List D} {vs : List V} {B : FP}, Reps X.K X.mg I H ds vs B → ds.all flatD = true → (ds.any fun e => eqD e d) = inV v vs
  | _, _, _, .nil, _ => rfl
  | _, _, _, .cons r0 rs _ _ _, e => by
    simp only [List.all_cons, Bool.and_eq_true] at e
    have h1 := eqD_rep r0 r e.1 hd
    have h2 := inD_rep r hd rs e.2
    unfold inV at h2 ⊢
    simp only [List.any_cons]
    rw [h1, h2]
def occS (x y : Str) : Bool := !(Builtin.Str.occurrences y x 0 y.length 1).isEmpty
/-- a in b: texts, lists, tuples of flat items -/
def gIn : D → D → Option D
  | .str x, .str y => some (.bl (occS x y))
  | d, .lst _ ds => if flatD d = true ∧ ds.all flatD = true then some (.bl (ds.any fun e => eqD e d)) else none
  | d, .tup ds => if flatD d = true ∧ ds.all flatD = true then some (.bl (ds.any fun e => eqD e d)) else none
  | _, _ => none
def gNotIn : D → D → Option D := fun x y => neB (gIn x y)
abbrev rInA (K : PySem.W.Frag) : R2 := fun x y H Q => (∃ i j, x = .str i ∧ y = .str j ∧ Q (.bl (!(Builtin.Str.occurrences j i 0 j.length 1).isEmpty)) H) ∨ rIn K false x y H Q
abbrev rNotInA (K : PySem.W.Frag) : R2 := fun x y H Q => (∃ i j, x = .str i ∧ y = .str j ∧ Q (.bl (!(!(Builtin.Str.occurrences j i 0 j.length 1).isEmpty))) H) ∨ rIn K true x y H Q
theorem opx_in : OpR X (compareOp .In) (rInA X.K) := op_in_str.or op_in_seq
theorem opx_notIn : OpR X (compareOp .NotIn) (rNotInA X.K) := op_notIn_str.or op_notIn_seq
theorem in_cases {I H : Hp} {x y : V} {d1 d2 d : D} {B1 B2 : FP} (hs : SubH X.K I H) (r1 : Rep X.K X.mg I H d1 x B1) (r2 : Rep X.K X.mg I H d2 y B2) (e : gIn d1 d2 = some d) :
    ∃ b, d = .bl b ∧ ((∃ i j, x = .str i ∧ y = .str j ∧ (!(Builtin.Str.occurrences j i 0 j.length 1).isEmpty) = b) ∨ ∃ p xs, y = .ref p ∧ (SqL X.K H p xs ∨ SqT X.K H p xs) ∧ flatV x = true ∧ xs.all flatV = true ∧ inV x xs = b) := by
  unfold gIn at e
  split at e
  · cases r1; cases r2; cases e; exact ⟨_, rfl, .inl ⟨_, _, rfl, rfl, rfl⟩⟩
  · split at e
    · rename_i c; cases e
      obtain ⟨a, vs, rfl, h1, rs⟩ := rep_sqL hs r2
      exact ⟨_, rfl, .inr ⟨a, vs, rfl, .inl h1, flat_rep r1 c.1, flats_rep rs c.2, (inD_rep r1 c.1 rs c.2).symm⟩⟩
    · cases e
  · split at e
    · rename_i c; cases e
      cases r2 with
      | tup h rs => exact ⟨_, rfl, .inr ⟨_, _, rfl, .inr (SqT.of (hs _ _ h)), flat_rep r1 c.1, flats_rep rs c.2, (inD_rep r1 c.1 rs c.2).symm⟩⟩
    · cases e
  · cases e
theorem snd_in : Snd2 X (rInA X.K) gIn := by
  intro I H x y d1 d2 d B1 B2 Q hs r1 o1 r2 o2 e hq
  obtain ⟨b, rfl, ⟨i, j, h1, h2, h3⟩ | ⟨p, xs, h1, h2, h3, h4, h5⟩⟩ := in_cases hs r1 r2 e
  · exact .inl ⟨i, j, h1, h2, by rw [h3]; exact hq _ I H no (NewV.same hs .bl)⟩
  · exact .inr ⟨p, xs, h1, h2, h3, h4, by rw [if_neg (by simp), h5]; exact hq _ I H no (NewV.same hs .bl)⟩
theorem snd_notIn : Snd2 X (rNotInA X.K) gNotIn := by
  intro I H x y d1 d2 d B1 B2 Q hs r1 o1 r2 o2 e hq
  unfold gNotIn at e
  cases q : gIn d1 d2 with
  | none => rw [q] at e; cases e
  | some d' =>
    obtain ⟨b, rfl, h⟩ := in_cases hs r1 r2 q
    rw [q] at e
    simp only [neB, Option.some.injEq] at e
    subst e
    rcases h with ⟨i, j, h1, h2, h3⟩ | ⟨p, xs, h1, h2, h3, h4, h5⟩
    · exact .inl ⟨i, j, h1, h2, by rw [h3]; exact hq _ I H no (NewV.same hs .bl)⟩
    · exact .inr ⟨p, xs, h1, h2, h3, h4, by rw [if_pos rfl, h5]; exact hq _ I H no (NewV.same hs .bl)⟩
end
end DL

set_option linter.all false
set_option autoImplicit false
namespace DL
open PySem PySem.Spec L2
open PyProof.Rows hiding St

section
variable {X : Cx} {W : WX} {I H I1 H1 I2 H2 : Hp} {δ δ1 δ2 : Env} {σ σ1 σ2 : St} {F F1 F2 : FF} {A B B1 B2 C : FP} {d x : D} {v w : V} {i j : Nat} {sl : Sl} {ds : List D} {vs : List V}

/-! ### items of dicts -/
/-- a key -/
def keysOf : List D → Option (List Key)
  | [] => some []
  | .int i :: ds => match keysOf ds with
    | some ks => some (.inl i :: ks)
    | none => none
  | .str x :: ds => match keysOf ds with
    | some ks => some (.inr x :: ks)
    | none => none
  | _ :: _ => none
def keyD : D → Option KD
  | .int i => some (.i i)
  | .str x => some (.s x)
  | .tup ds => match keysOf ds with
    | some ks => some (.t ks)
    | none => none
  | _ => none
theorem keysOf_rep : ∀ {ds : List D} {vs : List V} {A : FP} {ks : List Key}, Reps X.K X.mg I H ds vs A → keysOf ds = some ks → vs = ks.map kV
  | _, _, _, _, .nil, e => by simp only [keysOf, Option.some.injEq] at e; subst e; rfl
  | _, _, _, _, .cons (d := d) (ds := ds) r rs x y z, e => by
    cases d <;> simp only [keysOf, reduceCtorEq] at e
    · cases q : keysOf ds with
      | none => rw [q] at e; cases e
      | some js => rw [q] at e; cases e; cases r; rw [keysOf_rep rs q]; rfl
    · cases q : keysOf ds with
      | none => rw [q] at e; cases e
      | some js => rw [q] at e; cases e; cases r; rw [keysOf_rep rs q]; rfl
/-- a key by its kind -/
theorem keyD_rep {k : KD} (hs : SubH X.K I H) (r : Rep X.K X.mg I H d v A) (e : keyD d = some k) : (∃ q : Key, k = kdK q ∧ v = kV q) ∨ ∃ (ks : List Key) (b : Addr), k = .t ks ∧ v = .ref b ∧ H b = some (.tup (ks.map kV)) := by
  cases r <;> simp only [keyD, reduceCtorEq, Option.some.injEq] at e
  case int i => exact .inl ⟨.inl i, e.symm, rfl⟩
  case str x => exact .inl ⟨.inr x, e.symm, rfl⟩
  case tup h rs =>
    split at e
    · rename_i ks q
      cases e
      exact .inr ⟨ks, _, rfl, rfl, by rw [← keysOf_rep rs q]; exact hs _ _ h⟩
    · cases e
theorem kdK_inj {a b : Key} (h : kdK a = kdK b) : a = b := by
  cases a <;> cases b <;> simp [kdK] at h <;> simp [h]
/-- where a key stands -/
def ixK (ks : List KD) (k : KD) : Option Nat := ks.findIdx? fun q => decide (q = k)
theorem ixK_valK {kvs : List (Key × V)} {k : Key} {j : Nat} (e : ixK (kvs.map fun p => kdK p.1) (kdK k) = some j) : valV kvs k = (kvs.map (·.2))[j]? ∧ j < kvs.length := by
  unfold ixK at e
  induction kvs generalizing j with
  | nil => simp at e
  | cons p kvs ih =>
    rw [List.map_cons, List.findIdx?_cons] at e
    by_cases h : p.1 = k
    · subst h
      simp at e; subst e
      rw [valV_pos rfl]; simp
    · have h' : ¬ kdK p.1 = kdK k := fun z => h (kdK_inj z)
      rw [valV_neg h]
      simp only [h', decide_false, Bool.false_eq_true, if_false] at e
      cases q : List.findIdx? (fun q => decide (q = kdK k)) (kvs.map fun p => kdK p.1) with
      | none => rw [q] at e; simp at e
      | some j' =>
        rw [q] at e; simp at e; subst e
        obtain ⟨h1, h2⟩ := ih q
        exact ⟨by simp [h1], by simp; omega⟩
theorem ixK_valT {kvs : List (List Key × V)} {k : List Key} {j : Nat} (e : ixK (kvs.map fun p => KD.t p.1) (.t k) = some j) : valV kvs k = (kvs.map (·.2))[j]? ∧ j < kvs.length := by
  unfold ixK at e
  induction kvs generalizing j with
  | nil => simp at e
  | cons p kvs ih =>
    rw [List.map_cons, List.findIdx?_cons] at e
    by_cases h : p.1 = k
    · subst h
      simp at e; subst e
      rw [valV_pos rfl]; simp
    · have h' : ¬ KD.t p.1 = KD.t k := fun z => h (KD.t.inj z)
      rw [valV_neg h]
      simp only [h', decide_false, Bool.false_eq_true, if_false] at e
      cases q : List.findIdx? (fun q => decide (q = KD.t k)) (kvs.map fun p => KD.t p.1) with
      | none => rw [q] at e; simp at e
      | some j' =>
        rw [q] at e; simp at e; subst e
        obtain ⟨h1, h2⟩ := ih q
        exact ⟨by simp [h1], by simp; omega⟩
theorem ixK_noneK {kvs : List (Key × V)} {k : Key} (e : ixK (kvs.map fun p => kdK p.1) (kdK k) = none) : valV kvs k = none := by
  unfold ixK at e
  rw [List.findIdx?_eq_none_iff] at e
  unfold valV
  have : kvs.find? (fun kv => decide (kv.1 = k)) = none := List.find?_eq_none.mpr fun p hp => by
    have := e (kdK p.1) (List.mem_map_of_mem hp)
    simp at this ⊢
    exact fun z => this (by rw [z])
  rw [this]; rfl
theorem ixK_noneT {kvs : List (List Key × V)} {k : List Key} (e : ixK (kvs.map fun p => KD.t p.1) (.t k) = none) : valV kvs k = none := by
  unfold ixK at e
  rw [List.findIdx?_eq_none_iff] at e
  unfold valV
  have : kvs.find? (fun kv => decide (kv.1 = k)) = none := List.find?_eq_none.mpr fun p hp => by
    have := e (.t p.1) (List.mem_map_of_mem (f := fun p => KD.t p.1) hp)
    simp at this ⊢
    exact this
  rw [this]; rfl
theorem kdK_ne {q : Key} {k : List Key} : kdK q ≠ .t k := by cases q <;> simp [kdK]
/-- an own dict: one value by itself -/
theorem Rep.lensD {a : Addr} {k : Nat} {ks : List KD} (r : Rep X.K X.mg I H (.dic true ks ds) (.ref a) A) (e : ds[k]? = some d) :
    ∃ w, ((∃ kvs : List (Key × V), H a = some (.dK kvs) ∧ kvs.map (fun p => kdK p.1) = ks ∧ (kvs.map (·.2))[k]? = some w) ∨ ∃ kvs : List (List Key × V), H a = some (.dT kvs) ∧ kvs.map (fun p => KD.t p.1) = ks ∧ (kvs.map (·.2))[k]? = some w) ∧
      Lens X.K X.mg I H (fun x => .dic true ks (ds.set k x)) d (.ref a) w A := by
  cases r with
  | dicKO hA h hk0 nd rs hB nB =>
    obtain ⟨w, B, C, h1, h2, h3, h4, h5, h6⟩ := rs.lens e
    refine ⟨w, .inl ⟨_, h, hk0, h1⟩, B, FP.or (fun x => x = a) C, h2, h3.trans hB, fun x q => q.elim (fun z => z ▸ hA) fun z => hB x (h4 x z), fun x q b => q.elim (fun z => nB (z ▸ h3 x b)) fun z => h5 x z b, fun I' H' d' B' hs hk r' dd => ?_⟩
    exact .dicKO (.inl (.inl rfl)) (hk _ _ (.inl rfl) h) hk0 nd (h6 I' H' d' B' hs (fun x o q => hk x o (.inr q)) r' (dd.mono le_r Le.refl)) (fun x q => q.elim (fun z => .inl (.inr z)) .inr) fun q => q.elim (fun z => nB (h4 _ z)) fun z => dd a (.inl rfl) z
  | dicTO hA h hk0 nd rs hB nB =>
    obtain ⟨w, B, C, h1, h2, h3, h4, h5, h6⟩ := rs.lens e
    refine ⟨w, .inr ⟨_, h, hk0, h1⟩, B, FP.or (fun x => x = a) C, h2, h3.trans hB, fun x q => q.elim (fun z => z ▸ hA) fun z => hB x (h4 x z), fun x q b => q.elim (fun z => nB (z ▸ h3 x b)) fun z => h5 x z b, fun I' H' d' B' hs hk r' dd => ?_⟩
    exact .dicTO (.inl (.inl rfl)) (hk _ _ (.inl rfl) h) hk0 nd (h6 I' H' d' B' hs (fun x o q => hk x o (.inr q)) r' (dd.mono le_r Le.refl)) (fun x q => q.elim (fun z => .inl (.inr z)) .inr) fun q => q.elim (fun z => nB (h4 _ z)) fun z => dd a (.inl rfl) z

/-! ### x[i] -/
def rIxD (H : Hp) (x y : V) (Q : VK) : Prop := ∃ a v, x = .ref a ∧ DGet H a y (some v) ∧ Q v H
theorem ix_dict (hu : X.A.units + 1 < cLine) : IxR X (fun x y H Q => rIxD H x y Q) := by
  intro value slice pins s σ H x y v u Q I rx ry h hs
  obtain ⟨a, z, rfl, g, q⟩ := h
  obtain rfl : v = Value.ref a := rx
  exact tail_any (dict_typeIs I g) PySem.F.slot_dict_getitem.lookup (d_getItem hu I g ry fun w' s3 I3 rw' => ⟨z, H, I3, rw', q⟩) hs
abbrev rIxA (K : PySem.W.Frag) : R2 := fun x y H Q => rIx K x y H Q ∨ rIxD H x y Q
theorem ix_all (hu : X.A.units + 1 < cLine) : IxR X (rIxA X.K) := ix_seq.or (ix_dict hu)
/-- the place in the items, for a list, a tuple, a dict -/
def ixD : D → D → Option Nat
  | .lst _ ds, .int i => ixN ds.length i
  | .tup ds, .int i => ixN ds.length i
  | .dic _ ks ds, k => match keyD k with
    | some q => match ixK ks q with
      | some j => if j < ds.length then some j else none
      | none => none
    | none => none
  | _, _ => none
/-- the place of one item -/
def putAt (x : D) (j : Nat) (e : D) : D := x.setK (x.kids.set j e)
def isOwn : D → Bool
  | .lst o _ => o
  | .tup _ => true
  | .dic o _ _ => o
  | .ins o _ _ _ => o
  | _ => false
/-- an item of an operand -/
def pick (o : Opd) (x : D) (j : Nat) (δ : Env) : R Opd := match x.kids[j]? with
  | some d => if ice d = true then .ok (.tmp d) δ else match isOwn x, o with
    | true, .tmp _ => .ok (.tmp d) δ
    | true, .nm i => .ok (.plc i (putAt x j) d) δ
    | true, .plc i g _ => .ok (.plc i (fun e => g (putAt x j e)) d) δ
    | false, _ => .stk
  | none => .stk
def ixO (o : Opd) (x y : D) (δ : Env) : R Opd := match x, y with
  | .str z, .int i => if z.length ≤ sizeLine then match atI z.cps.toList i with
      | some c => .ok (.tmp (.str ⟨#[c]⟩)) δ
      | none => .stk
    else .stk
  | x, y => match ixD x y with
    | some j => pick o x j δ
    | none => .stk
theorem atI_of {α : Type} {xs : List α} {k : Int} {j : Nat} {z : α} (h : ixN xs.length k = some j) (e : xs[j]? = some z) : atI xs k = some z := by unfold atI; rw [h]; exact e
/-- an item: its value, what is read, how it lies -/
theorem ix_node {y : D} {u : V} (hs : SubH X.K I H) (r : Rep X.K X.mg I H x v A) (ry : Rep X.K X.mg I H y u C) (e : ixD x y = some j) (ed : x.kids[j]? = some d) :
    ∃ w, (∀ Q : VK, Q w H → rIxA X.K v u H Q) ∧ Rep X.K X.mg I H d w A ∧ (isOwn x = true → Lens X.K X.mg I H (putAt x j) d v w A) := by
  cases x <;> (try (simp [ixD] at e; done))
  case lst o ds =>
    cases y <;> simp only [ixD, reduceCtorEq] at e
    rename_i k
    cases ry
    cases o with
    | true =>
      have r0 := r
      cases r with
      | lstO hA h rs hB nB =>
        obtain ⟨vs, w, h1, h2, l⟩ := r0.lensL ed
        rw [h] at h1; cases h1
        have l' := l
        obtain ⟨B', C', rd, le, _⟩ := l'
        exact ⟨w, fun Q q => .inl (.inl ⟨_, _, k, w, rfl, rfl, SqL.of h, atI_of (by rw [← rs.length]; exact e) h2, q⟩), rd.mono le, fun _ => l⟩
    | false =>
      cases r with
      | lstF h rs =>
        obtain ⟨w, e1, rw_⟩ := rs.get ed
        exact ⟨w, fun Q q => .inl (.inl ⟨_, _, k, w, rfl, rfl, hs.sqL h, atI_of (by rw [← rs.length]; exact e) e1, q⟩), rw_.mono no_le, fun z => nomatch z⟩
  case tup ds =>
    cases y <;> simp only [ixD, reduceCtorEq] at e
    rename_i k
    cases ry
    have r0 := r
    cases r with
    | tup h rs =>
      obtain ⟨vs, w, h1, hl, h2, l⟩ := r0.lensT ed
      rw [h] at h1; cases h1
      have l' := l
      obtain ⟨B', C', rd, le, _⟩ := l'
      exact ⟨w, fun Q q => .inl (.inr (.inl ⟨_, _, k, w, rfl, rfl, SqT.of (hs _ _ h), atI_of (by rw [hl]; exact e) h2, q⟩)), rd.mono le, fun _ => l⟩
  case dic o ks ds =>
    simp only [ixD] at e
    split at e
    · rename_i q hq
      split at e
      · rename_i j' hj
        split at e
        · cases e
          have kk := keyD_rep hs ry hq
          cases o with
          | true =>
            have ra : ∃ a, v = .ref a := by cases r <;> exact ⟨_, rfl⟩
            obtain ⟨a, rfl⟩ := ra
            obtain ⟨w, hw, l⟩ := r.lensD ed
            have l' := l
            obtain ⟨B', C', rd, le, _⟩ := l'
            refine ⟨w, fun Q q' => .inr ⟨a, w, rfl, ?_, q'⟩, rd.mono le, fun _ => l⟩
            rcases hw with ⟨kvs, h1, h2, h3⟩ | ⟨kvs, h1, h2, h3⟩
            · rcases kk with ⟨k, rfl, rfl⟩ | ⟨k, b, rfl, rfl, hb⟩
              · subst h2
                have := (ixK_valK hj).1
                rw [h3] at this
                exact .inl ⟨kvs, k, .inl h1, rfl, this.symm⟩
              · subst h2
                exfalso
                unfold ixK at hj
                rw [List.findIdx?_eq_some_iff_getElem] at hj
                obtain ⟨hlt, hp, _⟩ := hj
                simp at hp
                exact kdK_ne hp
            · rcases kk with ⟨k, rfl, rfl⟩ | ⟨k, b, rfl, rfl, hb⟩
              · subst h2
                exfalso
                unfold ixK at hj
                rw [List.findIdx?_eq_some_iff_getElem] at hj
                obtain ⟨hlt, hp, _⟩ := hj
                simp at hp
                exact kdK_ne hp.symm
              · subst h2
                have := (ixK_valT hj).1
                rw [h3] at this
                exact .inr ⟨kvs, k, b, .inl h1, rfl, hb, this.symm⟩
          | false =>
            cases r with
            | dicKF h hk nd rs =>
              obtain ⟨w, e1, rw_⟩ := rs.get ed
              refine ⟨w, fun Q q' => .inr ⟨_, w, rfl, ?_, q'⟩, rw_.mono no_le, fun z => nomatch z⟩
              subst hk
              rcases kk with ⟨k, rfl, rfl⟩ | ⟨k, b, rfl, rfl, hb⟩
              · have := (ixK_valK hj).1
                rw [e1] at this
                exact .inl ⟨_, k, .inl (hs _ _ h), rfl, this.symm⟩
              · exfalso
                unfold ixK at hj
                rw [List.findIdx?_eq_some_iff_getElem] at hj
                obtain ⟨hlt, hp, _⟩ := hj
                simp at hp
                exact kdK_ne hp
            | dicTF h hk nd rs =>
              obtain ⟨w, e1, rw_⟩ := rs.get ed
              refine ⟨w, fun Q q' => .inr ⟨_, w, rfl, ?_, q'⟩, rw_.mono no_le, fun z => nomatch z⟩
              subst hk
              rcases kk with ⟨k, rfl, rfl⟩ | ⟨k, b, rfl, rfl, hb⟩
              · exfalso
                unfold ixK at hj
                rw [List.findIdx?_eq_some_iff_getElem] at hj
                obtain ⟨hlt, hp, _⟩ := hj
                simp at hp
                exact kdK_ne hp.symm
              · have := (ixK_valT hj).1
                rw [e1] at this
                exact .inr ⟨_, k, b, .inl (hs _ _ h), rfl, hb, this.symm⟩
        · cases e
      · cases e
    · cases e
theorem putAt_self (ed : x.kids[j]? = some d) : putAt x j d = x := by
  unfold putAt
  rw [show x.kids.set j d = x.kids from by
    refine List.ext_getElem? fun k => ?_
    by_cases z : k = j
    · subst z; rw [List.getElem?_set_self (List.getElem?_eq_some_iff.mp ed).1, ed]
    · rw [List.getElem?_set_ne (Ne.symm z)]]
  cases x <;> rfl
/-- an item of an operand, handed on -/
theorem pick_ok {o : Opd} {Q : VK} {P : V → Prop} (go : Go X.K X.mg I H δ σ F I1 H1 δ1 σ F1 B) (r : ORep X.K X.mg I1 H1 δ1 σ F1 o v B1) (hB : Le B1 B) (hx : rdO o δ1 = some x)
    (node : ∀ A d, Rep X.K X.mg I1 H1 x v A → x.kids[j]? = some d → ∃ w, P w ∧ Rep X.K X.mg I1 H1 d w A ∧ (isOwn x = true → Lens X.K X.mg I1 H1 (putAt x j) d v w A))
    (h : EO X W I H δ σ F Q (pick o x j δ1)) : ∃ w, P w ∧ Q w H1 := by
  unfold pick at h
  cases ed : x.kids[j]? with
  | none => rw [ed] at h; exact h.elim
  | some d =>
    rw [ed] at h
    simp only at h
    have rdr := rd_ok go.st (go.own.mono hB) r hx
    by_cases hi : ice d = true
    · rw [if_pos hi] at h
      obtain ⟨C, rc, _, _⟩ := rdr
      obtain ⟨w, pw, rw_, _⟩ := node C d rc ed
      exact ⟨w, pw, h w I1 H1 F1 no (go.less no_le) (rw_.ice hi)⟩
    · rw [if_neg hi] at h
      cases o with
      | tmp d' =>
        split at h
        · simp only [rdO, Option.some.injEq] at hx
          subst hx
          obtain ⟨w, pw, rw_, _⟩ := node B1 d r ed
          exact ⟨w, pw, h w I1 H1 F1 B1 (go.less hB) rw_⟩
        · cases ‹Opd.tmp d' = Opd.nm _›
        · cases ‹Opd.tmp d' = Opd.plc _ _ _›
        · exact h.elim
      | nm i =>
        split at h
        · cases ‹Opd.nm i = Opd.tmp _›
        · rename_i hown he
          cases he
          simp only [rdO] at hx
          cases q : δ1[i]? with
          | none => rw [q] at hx; cases hx
          | some s0 =>
            rw [q] at hx
            have hd : s0.d = x := by
              simp only at hx
              split at hx
              · cases hx
              · cases hx; rfl
            rcases go.st.rep i s0 q with z | ⟨v', h1, h2⟩
            · rw [z] at hd; subst hd; simp [isOwn] at hown
            · rw [r.1] at h1; cases h1
              rw [hd] at h2
              obtain ⟨w, pw, _, l⟩ := node (F1 i) d h2 ed
              refine ⟨w, pw, h w I1 H1 F1 no (go.less no_le) ⟨rfl, s0, v, q, ?_, r.1, l hown⟩⟩
              rw [hd, putAt_self ed]
        · cases ‹Opd.nm i = Opd.plc _ _ _›
        · exact h.elim
      | plc i g d' =>
        split at h
        · cases ‹Opd.plc i g d' = Opd.tmp _›
        · cases ‹Opd.plc i g d' = Opd.nm _›
        · rename_i hown he
          cases he
          simp only [rdO, Option.some.injEq] at hx
          subst hx
          obtain ⟨_, s0, v0, e0, ed0, es, l⟩ := r
          have l2 : Lens X.K X.mg I1 H1 (fun e => g (putAt d' j e)) d v0 (v0) (F1 i) → True := fun _ => trivial
          obtain ⟨A0, C0, rA, _⟩ := id l
          obtain ⟨w, pw, _, _⟩ := node A0 d rA ed
          have lc : ∃ w, P w ∧ Lens X.K X.mg I1 H1 (fun e => g (putAt d' j e)) d v0 w (F1 i) := by
            obtain ⟨B', C', r', x1, y1, z1, c1⟩ := l
            obtain ⟨w, pw, _, l'⟩ := node B' d r' ed
            refine ⟨w, pw, ?_⟩
            obtain ⟨B2, C2, r2, x2, y2, z2, c2⟩ := l' hown
            refine ⟨B2, C'.or C2, r2, x2.trans x1, fun a q => q.elim (y1 a) fun q => x1 a (y2 a q), fun a q b => q.elim (fun q => z1 a q (x2 a b)) fun q => z2 a q b, fun I' H' d'' B' hs hk r' dd => ?_⟩
            have q := c2 I' H' d'' B' hs (fun a o u => hk a o (.inr u)) r' (dd.mono le_r Le.refl)
            refine (c1 I' H' _ _ hs (fun a o u => hk a o (.inl u)) q fun a u b => b.elim (fun b => z1 a u (y2 a b)) fun b => dd a (.inl u) b).mono fun a u => ?_
            exact u.elim (fun u => .inl (.inl u)) fun u => u.elim (fun u => .inl (.inr u)) .inr
          obtain ⟨w, pw, lw⟩ := lc
          refine ⟨w, pw, h w I1 H1 F1 no (go.less no_le) ⟨rfl, s0, v0, e0, ?_, es, lw⟩⟩
          rw [ed0]
          show g d' = g (putAt d' j d)
          rw [putAt_self ed]
        · exact h.elim
def eIx (fa fb : EF) : EF := fun δ => (eCons fa (eCons fb eNil) δ).bind fun os δ1 => match os with
  | [o1, o2] => match rdO o1 δ1, rdO o2 δ1 with
    | some x, some y => ixO o1 x y δ1
    | _, _ => .stk
  | _ => .stk
theorem se_ix {ta tb : TE} {fa fb : EF} (ha : SE X W ta fa) (hb : SE X W tb fb) : SE X W (tOp (rIxA X.K) ta tb) (eIx fa fb) := by
  intro I H δ σ F Q s h
  refine sa_cons ha (sa_cons hb (sa_nil (X := X) (W := W))) I H δ σ F (fun vs H1 => two (rIxA X.K) vs H1 Q) s ?_
  unfold eIx at h
  cases q : eCons fa (eCons fb eNil) δ with
  | stk => rw [q] at h; exact h.elim
  | er x δ' => rw [q] at h; exact h
  | ok os δ1 =>
    rw [q] at h
    intro vs I1 H1 F1 B go rs
    cases rs with
    | nil => exact h.elim
    | cons r1 rs l1 l2 z1 => cases rs with
      | nil => exact h.elim
      | cons r2 rs l3 l4 z2 => cases rs with
        | cons _ _ _ _ _ => exact h.elim
        | nil =>
          rename_i o1 v1 B1 C1 o2 v2 B2 C2
          change EO X W I H δ σ F Q (match rdO o1 δ1, rdO o2 δ1 with
            | some x, some y => ixO o1 x y δ1
            | _, _ => .stk) at h
          cases q1 : rdO o1 δ1 with
          | none => rw [q1] at h; exact h.elim
          | some x =>
            cases q2 : rdO o2 δ1 with
            | none => rw [q1, q2] at h; exact h.elim
            | some y =>
              rw [q1, q2] at h
              simp only at h
              obtain ⟨Cy, ry, _, _⟩ := rd_ok go.st (go.own.mono (l3.trans l2)) r2 q2
              obtain ⟨Cx, rx, _, _⟩ := rd_ok go.st (go.own.mono l1) r1 q1
              have gen : EO X W I H δ σ F Q (match ixD x y with
                  | some j => pick o1 x j δ1
                  | none => .stk) → rIxA X.K v1 v2 H1 Q := fun h => by
                cases q3 : ixD x y with
                | none => rw [q3] at h; exact h.elim
                | some j =>
                  rw [q3] at h
                  obtain ⟨w, pw, qw⟩ := pick_ok (P := fun w => ∀ Q : VK, Q w H1 → rIxA X.K v1 v2 H1 Q) go r1 l1 q1 (fun A d rA ed => ix_node go.st.sub rA ry q3 ed) h
                  exact pw Q qw
              show rIxA X.K v1 v2 H1 Q
              unfold ixO at h
              split at h
              · rename_i z k
                cases rx; cases ry
                split at h
                · rename_i hz
                  split at h
                  · rename_i c hc
                    exact .inl (.inr (.inr ⟨_, _, c, rfl, rfl, hz, hc, h _ I1 H1 F1 no (go.less no_le) .str⟩))
                  · exact h.elim
                · exact h.elim
              · exact gen h
theorem de_ix {a b : Expr} {fa fb : EF} {pos : Pos} (hu : X.A.units + 1 < cLine) (ha : DE X W a fa) (hb : DE X W b fb) (hs : PlainIx b := by exact fun _ _ => rfl) : DE X W (.Subscript a b pos) (eIx fa fb) :=
  let ⟨_, p, q⟩ := ha; let ⟨_, p2, q2⟩ := hb; ⟨_, pe_ix (ix_all hu) p p2 hs, se_ix q q2⟩
end
end DL

set_option linter.all false
set_option autoImplicit false
namespace DL
open PySem PySem.Spec L2
open PyProof.Rows hiding St

section
variable {X : Cx} {W : WX} {I H I1 H1 I2 H2 : Hp} {δ δ1 δ2 : Env} {σ σ1 σ2 : St} {F F1 F2 : FF} {A B B1 B2 C : FP} {d x : D} {v w : V} {i j : Nat} {sl : Sl} {ds : List D} {vs : List V}

/-! ### what changes its arguments -/
/-- a slot is emptied into a temporary -/
theorem go_out (s : Stt X.K X.mg I H δ σ F) (e : δ[i]? = some sl) (nl : sl.lk = false) : Go X.K X.mg I H δ σ F I H (δ.set i ⟨sl.io, false, .hole⟩) σ (F.set i no) (F i) := by
  have g := (Go.refl s).put (d := .hole) (B := no) (σ2 := σ) e nl (.inl rfl) own_no (fun _ _ => dis_no) no_le (fun _ _ => rfl) rfl (fun _ => rfl)
  refine ⟨g.st, g.ev.mono Le.refl fun a w => ?_, s.own i, fun j => ?_, g.lk, g.io, g.fl⟩
  · rcases w with w | w
    · exact .inl (.inl w)
    · exact .inr (.inl ⟨i, sl, e, nl, w⟩)
  · by_cases q2 : j = i
    · subst q2; rw [FF.set_same]; exact no_dis
    · rw [FF.set_ne q2]; exact s.dis j i q2
/-- an object of a slot is changed: the slot holds A' behind it, B' is given out; both out of the slot's own and B -/
theorem go_upd {a : Addr} {o : HO} {I0 H0 : Hp} {δ0 : Env} {σ0 : St} {F0 : FF} {A' B' : FP} (g : Go X.K X.mg I0 H0 δ0 σ0 F0 I H δ σ F B) (e : δ[i]? = some sl) (nl : sl.lk = false) (es : σ[i]? = some (some v)) (ha : F i a)
    (lA : Le A' ((F i).or B)) (lB : Le B' ((F i).or B)) (dAB : Dis A' B') (r : Rep X.K X.mg I (upd H a o) d v A') (nt : NTb o := by intro ps z; cases z) : Go X.K X.mg I0 H0 δ0 σ0 F0 I (upd H a o) (δ.set i ⟨sl.io, false, d⟩) σ (F.set i A') B' := by
  have hi : i < δ.length := (List.getElem?_eq_some_iff.mp e).1
  have s := g.st
  have st : ∀ b u, b ≠ a → H b = some u → upd H a o b = some u := fun b u n h => by rw [upd_ne n]; exact h
  have th : ∀ b, (∃ u, H b = some u ∧ NTb u) → ∃ u, upd H a o b = some u ∧ NTb u := fun b ⟨u, h, t⟩ => by
    by_cases z : b = a
    · subst z; exact ⟨o, upd_same, nt⟩
    · exact ⟨u, st b u z h, t⟩
  have ow : ∀ b, (F i).or B b → (∃ u, upd H a o b = some u ∧ NTb u) ∧ I b = none := fun b h => h.elim (fun h => ⟨th b (s.own i b h).1, (s.own i b h).2⟩) fun h => ⟨th b (g.own b h).1, (g.own b h).2⟩
  have od : ∀ j, j ≠ i → Dis (F j) ((F i).or B) := fun j n b x y => y.elim (fun y => s.dis j i n b x y) fun y => g.dis j b x y
  have ev : Ev I H ((U δ F).or B) I (upd H a o) ((U (δ.set i ⟨sl.io, false, d⟩) (F.set i A')).or B') := by
    refine Ev.of Sub.refl (fun b u h n => st b u (fun z => n (.inl ⟨i, sl, e, nl, z ▸ ha⟩)) h) (fun b h => ?_) (fun b h => .inl h) fun b h => h.elim (fun ⟨j, s1, e1, l1, z⟩ => (s.own j).nt b z) fun z => g.own.nt b z
    have fin : (F i).or B b → (U δ F).or B b ∨ H b = none := fun z => .inl (z.elim (fun z => .inl ⟨i, sl, e, nl, z⟩) .inr)
    rcases h with ⟨j, s1, e1, l1, z⟩ | h
    · by_cases q : j = i
      · subst q; rw [FF.set_same] at z; exact fin (lA b z)
      · rw [FF.set_ne q] at z; rw [List.getElem?_set_ne (Ne.symm q)] at e1
        exact .inl (.inl ⟨j, s1, e1, l1, z⟩)
    · exact fin (lB b h)
  refine ⟨⟨(s.own i a ha).1.elim fun u z => s.sub.write z.1 (s.own i a ha).2 z.2, fun j b h => ?_, fun j k n => ?_, fun j s1 e1 => ?_, fun j h => ?_, by simpa using s.len⟩, g.ev.trans ev, fun b h => ow b (lB b h), fun j => ?_, fun j s1 e1 l1 => ?_, fun j s1 e1 l1 => g.io j s1 e1 l1, ?_⟩
  · by_cases q : j = i
    · subst q; rw [FF.set_same] at h; exact ow b (lA b h)
    · rw [FF.set_ne q] at h
      exact ⟨th b (s.own j b h).1, (s.own j b h).2⟩
  · by_cases q : j = i
    · subst q; rw [FF.set_same, FF.set_ne (Ne.symm n)]
      exact fun b x y => od k (Ne.symm n) b y (lA b x)
    · rw [FF.set_ne q]
      by_cases q2 : k = i
      · subst q2; rw [FF.set_same]; exact fun b x y => od j q b x (lA b y)
      · rw [FF.set_ne q2]; exact s.dis j k n
  · by_cases q : j = i
    · subst q
      rw [List.getElem?_set_self hi] at e1; cases e1
      rw [FF.set_same]
      exact .inr ⟨v, es, r⟩
    · rw [List.getElem?_set_ne (Ne.symm q)] at e1
      rw [FF.set_ne q]
      rcases s.rep j s1 e1 with h | ⟨w, h1, h2⟩
      · exact .inl h
      · exact .inr ⟨w, h1, h2.frame Sub.refl fun b u hb h => st b u (fun z => s.dis j i q b hb (z ▸ ha)) h⟩
  · rw [List.length_set] at h
    rw [FF.set_ne (by omega)]; exact s.emp j h
  · by_cases q : j = i
    · subst q; rw [FF.set_same]; exact dAB
    · rw [FF.set_ne q]; exact fun b x y => od j q b x (lB b y)
  · obtain ⟨a1, a2, a3⟩ := g.lk j s1 e1 l1
    have q : j ≠ i := fun q => by subst q; rw [e] at a1; cases a1; rw [nl] at l1; cases l1
    exact ⟨by rw [List.getElem?_set_ne (Ne.symm q)]; exact a1, by rw [FF.set_ne q]; exact a2, a3⟩
  · rw [← g.fl, List.map_set]
    refine List.ext_getElem? fun j => ?_
    by_cases q : j = i
    · subst q
      rw [List.getElem?_set_self (by simpa using hi), List.getElem?_map, e]
      simp [Sl.fl, nl]
    · rw [List.getElem?_set_ne (Ne.symm q)]
/-- a rule by values that changes its arguments as G tells -/
def SndC (X : Cx) (r : List V → Hp → VK → Prop) (G : DFn) : Prop := ∀ vs H Q E, spD X.K X.mg vs.length G vs H Q E → r vs H Q
theorem se_callR {t : TA} {fa : AF} {r : List V → Hp → VK → Prop} {G : DFn} (hr : SndC X r G) (h2 : SA X W t fa) : SE X W (fun σ H Q => t σ H fun vs H1 => r vs H1 Q) (eCall G [] fa) := by
  intro I H δ σ F Q s h
  refine h2 I H δ σ F _ s ?_
  unfold eCall at h
  cases q : fa δ with
  | stk => rw [q] at h; exact h.elim
  | er x δ' => rw [q] at h; exact h
  | ok os δ1 =>
    rw [q] at h
    intro vs I1 H1 F1 B go rs
    have key := call_go (W := W) (n := vs.length) (dvs := []) dfl_nil (by simp) go rs h
    rw [List.append_nil] at key
    exact hr vs H1 Q _ key
/-- arguments that are not locked -/
def uE (ds : List D) : Env := ds.map fun d => ⟨true, false, d⟩
def liftG (m : List D → Option (D × List D)) : DFn := fun as => if (as.all fun a => !a.lk) = true then match m (as.map (·.d)) with
    | some (r, ds) => if ds.length = as.length then .ok r ds else .stk
    | none => .stk
  else .stk
def SndU (X : Cx) (r : List V → Hp → VK → Prop) (m : List D → Option (D × List D)) : Prop :=
  ∀ ds vs I H F Q res ds', Stt X.K X.mg I H (uE ds) (vs.map some) F → m ds = some (res, ds') → ds'.length = ds.length →
    (∀ v I' H' F' B, Go X.K X.mg I H (uE ds) (vs.map some) F I' H' (uE ds') (vs.map some) F' B → Rep X.K X.mg I' H' res v B → Q v H') → r vs H Q
theorem uE_aE : ∀ {as : List Arg}, (as.all fun a => !a.lk) = true → aE as = uE (as.map (·.d))
  | [], _ => rfl
  | a :: as, h => by
    simp only [List.all_cons, Bool.and_eq_true, Bool.not_eq_true'] at h
    have := uE_aE (as := as) h.2
    simp only [aE, uE] at this ⊢
    simp only [List.map_cons, this, h.1]
theorem uE_dE : ∀ {as : List Arg} {ds : List D}, (as.all fun a => !a.lk) = true → ds.length = as.length → dE as ds = uE ds
  | [], [], _, _ => rfl
  | a :: as, d :: ds, h, hl => by
    simp only [List.all_cons, Bool.and_eq_true, Bool.not_eq_true'] at h
    have := uE_dE (as := as) (ds := ds) h.2 (by simpa using hl)
    simp only [uE] at this ⊢
    simp only [dE, List.map_cons, this, h.1]
theorem SndU.snd {r : List V → Hp → VK → Prop} {m : List D → Option (D × List D)} (h : SndU X r m) : SndC X r (liftG m) := by
  intro vs H Q E hs
  obtain ⟨hl, as, I, F, s, k⟩ := hs
  unfold liftG at k
  split at k
  · rename_i r' ds' q
    split at q
    · rename_i hu
      split at q
      · rename_i res ds hm
        split at q
        · rename_i hlen
          cases q
          rw [uE_aE hu] at s k
          refine h _ vs I H F Q _ _ s hm (by simpa using hlen) fun v I' H' F' B g rr => k v I' H' F' B ?_ rr
          rw [uE_dE hu hlen]; exact g
        · cases q
      · cases q
    · cases q
  · rename_i q
    split at q
    · split at q
      · split at q <;> cases q
      · cases q
    · cases q
  · exact k.elim
theorem u_rep {k : Nat} (s : Stt X.K X.mg I H (uE ds) (vs.map some) F) (e : ds[k]? = some d) : ∃ v, vs[k]? = some v ∧ Rep X.K X.mg I H d v (F k) := by
  have hl : ds.length = vs.length := by have := s.len; simpa [uE] using this
  have hk := (List.getElem?_eq_some_iff.mp e).1
  have e' : (uE ds)[k]? = some ⟨true, false, d⟩ := by simp [uE, e]
  rcases s.rep k _ e' with h | ⟨v, h1, h2⟩
  · have h' : d = .hole := h
    subst h'
    exact ⟨_, List.getElem?_eq_getElem (by omega), .hole⟩
  · refine ⟨v, ?_, h2⟩
    rw [List.getElem?_map] at h1
    cases q : vs[k]? with
    | none => rw [q] at h1; cases h1
    | some w => rw [q] at h1; cases h1; rfl
theorem u_len (s : Stt X.K X.mg I H (uE ds) (vs.map some) F) : vs.length = ds.length := by have := s.len; simpa [uE] using this.symm
def rMt (r : V → List V → Hp → VK → Prop) : List V → Hp → VK → Prop := fun vs H Q => match vs with
  | x :: xs => r x xs H Q
  | [] => False
theorem vs1 {vs : List V} (h : vs.length = 1) : ∃ a, vs = [a] := by
  match vs, h with
  | [a], _ => exact ⟨a, rfl⟩
theorem vs2 {vs : List V} (h : vs.length = 2) : ∃ a b, vs = [a, b] := by
  match vs, h with
  | [a, b], _ => exact ⟨a, b, rfl⟩
theorem vs3 {vs : List V} (h : vs.length = 3) : ∃ a b c, vs = [a, b, c] := by
  match vs, h with
  | [a, b, c], _ => exact ⟨a, b, c, rfl⟩
theorem Reps.updF {a : Addr} {o : HO} (r : Reps X.K X.mg I H ds vs B) (n : ¬ B a) : Reps X.K X.mg I (upd H a o) ds vs B :=
  r.frame Sub.refl fun b u h e => (upd_ne (show b ≠ a from fun z => n (z ▸ h))).trans e
theorem Rep.updF {a : Addr} {o : HO} (r : Rep X.K X.mg I H d v B) (n : ¬ B a) : Rep X.K X.mg I (upd H a o) d v B :=
  r.frame Sub.refl fun b u h e => (upd_ne (show b ≠ a from fun z => n (z ▸ h))).trans e
/-- x.append(y) -/
def mAppend : List D → Option (D × List D)
  | [.lst true xs, d] => if xs.length < sizeLine then some (.non, [.lst true (xs ++ [d]), .hole]) else none
  | _ => none
theorem snd_append : SndU X (rMt rAppend) mAppend := by
  intro ds vs I H F Q res ds' s e hlen hq
  unfold mAppend at e
  split at e
  · rename_i xs d
    split at e
    · rename_i hz
      cases e
      obtain ⟨v0, v1, rfl⟩ := vs2 (u_len s)
      obtain ⟨_, e0, r0⟩ := u_rep s (k := 0) rfl
      obtain ⟨_, e1, r1⟩ := u_rep s (k := 1) rfl
      cases e0; cases e1
      cases r0 with
      | lstO hA h rs hB nB =>
        rename_i a ws B0
        have g1 := go_out (i := 1) s rfl rfl
        have n1 : ¬ F 1 a := fun z => s.dis 0 1 (by decide) a hA z
        have g2 := go_upd (i := 0) (a := a) (o := .lst (ws ++ [v1])) (d := .lst true (xs ++ [d])) (v := .ref a) (A' := (F 0).or (F 1)) (B' := no) g1 (show _ = some ⟨true, false, .lst true xs⟩ from rfl) rfl rfl (by rw [FF.set_ne (by decide)]; exact hA)
          (by rw [FF.set_ne (by decide)]; exact Le.refl) no_le dis_no
          (.lstO (B := B0.or (F 1)) (.inl hA) upd_same (Reps.snoc (rs.updF nB) (r1.updF n1) fun b p q => s.dis 0 1 (by decide) b (hB b p) q) (fun b z => z.elim (fun z => .inl (hB b z)) .inr) fun z => z.elim nB n1)
        exact ⟨a, ws, v1, rfl, rfl, h, by rw [← rs.length]; exact hz, hq _ _ _ _ _ g2 .non⟩
    · cases e
  · cases e
/-- x.clear(), x.reverse() -/
def mClear : List D → Option (D × List D)
  | [.lst true _] => some (.non, [.lst true []])
  | _ => none
theorem snd_clear : SndU X (rMt rClear) mClear := by
  intro ds vs I H F Q res ds' s e hlen hq
  unfold mClear at e
  split at e
  · cases e
    obtain ⟨v0, rfl⟩ := vs1 (u_len s)
    obtain ⟨_, e0, r0⟩ := u_rep s (k := 0) rfl
    cases e0
    cases r0 with
    | lstO hA h rs hB nB =>
      rename_i xs a ws B0
      have g2 := go_upd (i := 0) (a := a) (o := .lst []) (d := .lst true []) (v := .ref a) (A' := F 0) (B' := no) (Go.refl s) (show _ = some ⟨true, false, .lst true xs⟩ from rfl) rfl rfl hA le_l no_le dis_no (.lstO (B := no) hA upd_same .nil no_le fun z => z)
      exact ⟨a, ws, rfl, rfl, h, hq _ _ _ _ _ g2 .non⟩
  · cases e
theorem Reps.mem_get {k : Nat} (r : Reps X.K X.mg I H ds vs no) (e : ds[k]? = some d) : ∃ v, vs[k]? = some v ∧ Rep X.K X.mg I H d v no := r.get e
theorem Reps.rev0 : ∀ {ds : List D} {vs : List V}, Reps X.K X.mg I H ds vs no → Reps X.K X.mg I H ds.reverse vs.reverse no
  | _, _, .nil => .nil
  | _, _, .cons r rs x y z => by
    rw [List.reverse_cons, List.reverse_cons]
    exact Reps.app (A := no) (B := no) (Reps.rev0 (rs.mono y)) (.cons (r.mono x) .nil Le.refl no_le dis_no)
theorem Reps.rev : ∀ {ds : List D} {vs : List V} {A : FP}, Reps X.K X.mg I H ds vs A → Reps X.K X.mg I H ds.reverse vs.reverse A
  | _, _, _, .nil => .nil
  | _, _, _, .cons r rs x y z => by
    rw [List.reverse_cons, List.reverse_cons]
    exact (Reps.snoc (Reps.rev rs) r z.symm).mono fun a h => h.elim (y a) (x a)
def mReverse : List D → Option (D × List D)
  | [.lst true xs] => some (.non, [.lst true xs.reverse])
  | _ => none
theorem snd_reverse : SndU X (rMt rReverse) mReverse := by
  intro ds vs I H F Q res ds' s e hlen hq
  unfold mReverse at e
  split at e
  · cases e
    obtain ⟨v0, rfl⟩ := vs1 (u_len s)
    obtain ⟨_, e0, r0⟩ := u_rep s (k := 0) rfl
    cases e0
    cases r0 with
    | lstO hA h rs hB nB =>
      rename_i xs a ws B0
      have g2 := go_upd (i := 0) (a := a) (o := .lst ws.reverse) (d := .lst true xs.reverse) (v := .ref a) (A' := F 0) (B' := no) (Go.refl s) (show _ = some ⟨true, false, .lst true xs⟩ from rfl) rfl rfl hA le_l no_le dis_no (.lstO (B := B0) hA upd_same (Reps.rev (rs.updF nB)) hB nB)
      exact ⟨a, ws, rfl, rfl, h, hq _ _ _ _ _ g2 .non⟩
  · cases e
/-- o[i] = v, the values in the order v, o, i -/
def rSetV (r : TSet) : List V → Hp → VK → Prop := fun vs H Q => match vs with
  | [v, o, i] => r o i v H fun H' => Q .non H'
  | _ => False
def mSetL : List D → Option (D × List D)
  | [d, .lst true xs, .int k] => match ixN xs.length k with
    | some j => some (.non, [.hole, .lst true (xs.set j d), .int k])
    | none => none
  | _ => none
theorem ixN_lt {n : Nat} {k : Int} {j : Nat} (h : ixN n k = some j) : j < n := (ixN_seq h).2.1
theorem Reps.setV {w' : V} : ∀ {ds : List D} {vs : List V} {A : FP} {j : Nat}, Reps X.K X.mg I H ds vs A → Rep X.K X.mg I H d w' B → Dis A B → Reps X.K X.mg I H (ds.set j d) (vs.set j w') (A.or B)
  | _, _, _, _, .nil, _, _ => .nil
  | _, _, _, 0, .cons r rs x y z, r', dd => .cons r' rs le_r (y.trans le_l) (dd.mono y Le.refl).symm
  | _, _, _, j + 1, .cons r rs x y z, r', dd => .cons r (Reps.setV rs r' (dd.mono y Le.refl)) (x.trans le_l) (fun a h => h.elim (fun h => .inl (y a h)) .inr) fun a p q => q.elim (z a p) fun q => dd a (x a p) q
theorem snd_setL : SndU X (rSetV rSetL) mSetL := by
  intro ds vs I H F Q res ds' s e hlen hq
  unfold mSetL at e
  split at e
  · rename_i d xs k
    split at e
    · rename_i j hj
      cases e
      obtain ⟨v0, v1, v2, rfl⟩ := vs3 (u_len s)
      obtain ⟨_, e0, r0⟩ := u_rep s (k := 0) rfl
      obtain ⟨_, e1, r1⟩ := u_rep s (k := 1) rfl
      obtain ⟨_, e2, r2⟩ := u_rep s (k := 2) rfl
      cases e0; cases e1; cases e2
      cases r2
      cases r1 with
      | lstO hA h rs hB nB =>
        rename_i a ws B0
        have g1 := go_out (i := 0) s rfl rfl
        have n1 : ¬ F 0 a := fun z => s.dis 0 1 (by decide) a z hA
        have g2 := go_upd (i := 1) (a := a) (o := .lst (ws.set j v0)) (d := .lst true (xs.set j d)) (v := .ref a) (A' := (F 1).or (F 0)) (B' := no) g1 (show _ = some ⟨true, false, .lst true xs⟩ from rfl) rfl rfl (by rw [FF.set_ne (by decide)]; exact hA)
          (by rw [FF.set_ne (by decide)]; exact Le.refl) no_le dis_no
          (.lstO (B := B0.or (F 0)) (.inl hA) upd_same (Reps.setV (rs.updF nB) (r0.updF n1) fun b p q => s.dis 0 1 (by decide) b q (hB b p)) (fun b z => z.elim (fun z => .inl (hB b z)) .inr) fun z => z.elim nB n1)
        exact ⟨a, ws, k, j, rfl, rfl, h, by rw [← rs.length]; exact hj, hq _ _ _ _ _ g2 .non⟩
    · cases e
  · cases e
end
end DL

set_option linter.all false
set_option autoImplicit false
namespace DL
open PySem PySem.Spec L2
open PyProof.Rows hiding St

section
variable {X : Cx} {W : WX} {I H I1 H1 I2 H2 : Hp} {δ δ1 δ2 : Env} {σ σ1 σ2 : St} {F F1 F2 : FF} {A B B1 B2 C : FP} {d x : D} {v w : V} {i j : Nat} {sl : Sl} {ds : List D} {vs : List V}

/-! ### slices -/
def ov : Option Int → V
  | none => .non
  | some i => .int i
def oi : V → Option Int
  | .int i => some i
  | _ => none
theorem oi_ov (o : Option Int) : oi (ov o) = o := by cases o <;> rfl
/-- a part of a slice -/
def DPo (X : Cx) (W : WX) (e : Option Expr) (f : EF) : Prop := ∃ t, PO X e t ∧ SE X W (fun σ H Q => t σ H fun o H1 => Q (ov o) H1) f
def eInt (f : EF) : EF := fun δ => (f δ).bind fun o δ1 => match o with
  | .tmp (.int i) => .ok (.tmp (.int i)) δ1
  | _ => .stk
theorem dpo_none : DPo X W none (eC .non) := ⟨_, po_none, fun I H δ σ F Q s h => h .non I H F no (Go.refl s) .non⟩
theorem dpo_some {e : Expr} {f : EF} (h : DE X W e f) : DPo X W (some e) (eInt f) := by
  obtain ⟨t, p, q⟩ := h
  refine ⟨_, po_some p, fun I H δ σ F Q s h => q I H δ σ F _ s ?_⟩
  unfold eInt at h
  cases q1 : f δ with
  | stk => rw [q1] at h; exact h.elim
  | er x δ' => rw [q1] at h; exact h
  | ok o δ1 =>
    rw [q1] at h
    intro v I1 H1 F1 B go r
    cases o with
    | tmp d =>
      cases d with
      | int i => cases r; exact ⟨i, rfl, h (.int i) I1 H1 F1 no (go.less no_le) .int⟩
      | _ => exact h.elim
    | _ => exact h.elim
def cutD (xs : List D) (lo hi : Option Int) : List D := (xs.drop (HT.sIx xs.length 0 lo)).take (HT.sIx xs.length xs.length hi - HT.sIx xs.length 0 lo)
def oD : D → Option (Option Int)
  | .non => some none
  | .int i => some (some i)
  | _ => none
def gSlice : List D → Option D
  | [x, l, h] => match oD l, oD h with
    | some lo, some hi => match x with
      | .lst _ xs => if ices xs = true then some (.lst true (cutD xs lo hi)) else none
      | .tup xs => if ices xs = true then some (.tup (cutD xs lo hi)) else none
      | .str z => if z.length ≤ sizeLine then some (.str (cutS z lo hi)) else none
      | _ => none
    | _, _ => none
  | _ => none
abbrev rSlX (K : PySem.W.Frag) : V → Option Int → Option Int → Hp → VK → Prop := fun x lo hi H Q => rSlL K x lo hi H Q ∨ (fun x lo hi H Q => rSlA K x lo hi H Q ∨ rSlS x lo hi H Q) x lo hi H Q
theorem sl_all : SlR X (rSlX X.K) := sl_list.or (sl_tupA.or sl_str)
def r3 (r : V → Option Int → Option Int → Hp → VK → Prop) : List V → Hp → VK → Prop := fun vs H Q => match vs with
  | [x, y, z] => r x (oi y) (oi z) H Q
  | _ => False
theorem oD_rep {o : Option Int} (r : Rep X.K X.mg I H d v A) (e : oD d = some o) : oi v = o := by
  cases r <;> simp only [oD, reduceCtorEq, Option.some.injEq] at e <;> subst e <;> rfl
theorem Reps.cut {ds : List D} {vs : List V} (r : Reps X.K X.mg I H ds vs no) : ∀ (a b : Nat), Reps X.K X.mg I H ((ds.drop a).take b) ((vs.drop a).take b) no := by
  have tk : ∀ {ds : List D} {vs : List V}, Reps X.K X.mg I H ds vs no → ∀ b, Reps X.K X.mg I H (ds.take b) (vs.take b) no := by
    intro ds vs r b
    induction b generalizing ds vs with
    | zero => simp; exact .nil
    | succ b ih =>
      cases r with
      | nil => simp; exact .nil
      | cons r rs x y z => simp; exact .cons (r.mono x) (ih (rs.mono y)) Le.refl Le.refl no_dis
  have dp : ∀ {ds : List D} {vs : List V}, Reps X.K X.mg I H ds vs no → ∀ a, Reps X.K X.mg I H (ds.drop a) (vs.drop a) no := by
    intro ds vs r a
    induction a generalizing ds vs with
    | zero => simpa using r
    | succ a ih =>
      cases r with
      | nil => simp; exact .nil
      | cons r rs x y z => simp; exact ih (rs.mono y)
  exact fun a b => tk (dp r a) b
theorem snd_slice : Snd X (r3 (rSlX X.K)) gSlice := by
  intro I H ds vs d Q hs rd e hq
  unfold gSlice at e
  split at e
  · rename_i x l h
    cases rd with
    | cons B1 r1 o1 rd => cases rd with
      | cons B2 r2 o2 rd => cases rd with
        | cons B3 r3_ o3 rd =>
          cases rd
          cases q1 : oD l with
          | none => rw [q1] at e; simp at e
          | some lo =>
            cases q2 : oD h with
            | none => rw [q1, q2] at e; simp at e
            | some hi =>
              rw [q1, q2] at e
              simp only at e
              have e1 := oD_rep r2 q1
              have e2 := oD_rep r3_ q2
              show rSlX X.K _ (oi _) (oi _) H Q
              rw [e1, e2]
              split at e
              · rename_i o xs
                split at e
                · rename_i hi'
                  cases e
                  obtain ⟨a, vs, rfl, h1, rs⟩ := rep_sqL hs r1
                  refine .inl ⟨a, vs, rfl, h1, fun p hp => ?_⟩
                  have hl := rs.length
                  have := Reps.cut (rs.ice hi') (HT.sIx xs.length 0 lo) (HT.sIx xs.length xs.length hi - HT.sIx xs.length 0 lo)
                  obtain ⟨B, n⟩ := newV_lst hs hp this
                  have n' := n
                  unfold cutV
                  rw [← hl]
                  exact hq _ _ _ _ n'
                · cases e
              · rename_i xs
                split at e
                · rename_i hi'
                  cases e
                  cases r1 with
                  | tup h rs =>
                    rename_i a vs
                    have hl := rs.length
                    refine .inr (.inl ⟨a, vs, rfl, SqT.of (hs _ _ h), fun hw => ?_, fun hw p hp => ?_⟩)
                    · have hc : cutD xs lo hi = xs := by
                        unfold cutD
                        rw [hl, hw.1, hw.2, ← hl]; simp
                      rw [hc] at hq
                      exact hq _ I H no (NewV.same hs (.tup h (rs.ice hi')))
                    · have := Reps.cut (rs.ice hi') (HT.sIx xs.length 0 lo) (HT.sIx xs.length xs.length hi - HT.sIx xs.length 0 lo)
                      obtain ⟨I', n⟩ := newV_tup hs hp this
                      unfold cutV
                      rw [← hl]
                      exact hq _ _ _ _ n
                · cases e
              · split at e
                · rename_i hz
                  cases e
                  cases r1
                  exact .inr (.inr ⟨_, rfl, hz, hq _ I H no (NewV.same hs .str)⟩)
                · cases e
              · cases e
  · cases e
theorem de_slice {a : Expr} {lo hi : Option Expr} {fa fl fh : EF} {pos p2 : Pos} (ha : DE X W a fa) (hl : DPo X W lo fl) (hh : DPo X W hi fh) : DE X W (.Subscript a (.Slice lo hi none p2) pos) (eRd gSlice (eCons fa (eCons fl (eCons fh eNil)))) := by
  obtain ⟨t, p, q⟩ := ha
  obtain ⟨tl, pl, ql⟩ := hl
  obtain ⟨th, ph, qh⟩ := hh
  refine ⟨_, pe_slice sl_all p pl ph, fun I H δ σ F Q s h => ?_⟩
  have key := se_rd (r := r3 (rSlX X.K)) snd_slice (sa_cons q (sa_cons ql (sa_cons qh (sa_nil (X := X) (W := W))))) I H δ σ F Q s h
  have key2 : t σ H fun x H1 => tl σ H1 fun l H2 => th σ H2 fun u H3 => rSlX X.K x (oi (ov l)) (oi (ov u)) H3 Q := key
  simp only [oi_ov] at key2
  exact key2

/-! ### {} and displays of constants -/
theorem newM_dic {p : Addr} (hs : SubH X.K I H) (hp : H p = none) {kvs : List (Key × V)} {ks : List KD} (hk : kvs.map (fun p => kdK p.1) = ks) (nd : ks.Nodup) (r : Reps X.K X.mg I H ds (kvs.map (·.2)) no) :
    NewM X.K X.mg I H no (.dic true ks ds) (.ref p) I (upd H p (.dK kvs)) (FP.or (fun a => a = p) no) :=
  newM_own hs own_no hp (.dicKO (.inl rfl) upd_same hk nd (reps_new hp r) no_le fun z => z)
def eDic0 : EF := eC (.dic true [] [])
theorem de_dic0 {pos : Pos} : DE X W (.Dict [] [] pos) eDic0 :=
  ⟨_, pe_dnewK, fun I H δ σ F Q s h p hp => by
    have n := newM_dic (X := X) s.sub hp (kvs := []) (ks := []) rfl .nil (ds := []) .nil
    exact h (.ref p) I _ F _ (Go.new s n.newV) n.rep⟩
/-- a scalar constant -/
def scD : D → Option V
  | .non => some .non
  | .bl b => some (.bl b)
  | .int i => some (.int i)
  | .str x => some (.str x)
  | _ => none
theorem de_dic1 {k : Str} {i : Int} {jk jv : Nat} {p1 p2 pos : Pos} : DE X W (.Dict [some (.Constant (.str k) jk p1)] [.Constant (.int i) jv p2] pos) (eC (.dic true [.s k] [.int i])) :=
  ⟨_, pe_disp (trs := [(tC (.str k), tC (.int i))]) (pps_cons pe_str pe_int pps_nil) rfl rfl (by simp) (by simp), fun I H δ σ F Q s h p hp => by
    refine ⟨upd_same, [(.inr k, .int i)], rfl, by simp, ?_⟩
    rw [upd_upd]
    have n := newM_dic (X := X) s.sub hp (kvs := [(.inr k, .int i)]) (ks := [.s k]) rfl (by simp) (ds := [.int i]) (.cons .int .nil no_le no_le dis_no)
    exact h (.ref p) I _ F _ (Go.new s n.newV) n.rep⟩
/-! ### o[i] = v -/
def rSetD : TSet := fun o i v H Q => ∃ a H4, o = .ref a ∧ DPut H a i v H4 ∧ Q H4
theorem set_dict (hu : X.A.units + 1 < cLine) : PSet X rSetD := by
  intro pins s σ H o i v ov iv u Q I ro ri rv h
  obtain ⟨a, H4, rfl, g, q⟩ := h
  obtain rfl : ov = Value.ref a := ro
  exact d_setItem hu I g ri rv fun s' I' => ⟨H4, I', q⟩
theorem pset_or {t t' : TSet} (h : PSet X t) (h' : PSet X t') : PSet X (fun o i v H Q => t o i v H Q ∨ t' o i v H Q) := fun pins s σ H o i v ov iv u Q I ro ri rv q =>
  q.elim (h pins s σ H o i v ov iv u Q I ro ri rv) (h' pins s σ H o i v ov iv u Q I ro ri rv)
/-- a text or an int as a key -/
def isSc : KD → Bool
  | .t _ => false
  | _ => true
def mSetD : List D → Option (D × List D)
  | [d, .dic true ks xs, key] => match keyD key with
    | some k => if isSc k = true ∧ ks.all isSc = true ∧ xs.length < sizeLine then match ixK ks k with
        | some j => some (.non, [.hole, .dic true ks (xs.set j d), key])
        | none => some (.non, [.hole, .dic true (ks ++ [k]) (xs ++ [d]), key])
      else none
    | none => none
  | _ => none
theorem putK_at {κ : Type} [DecidableEq κ] {k : κ} {v : V} : ∀ {kvs : List (κ × V)} {j : Nat}, kvs.findIdx? (fun p => decide (p.1 = k)) = some j → (kvs.map (·.1)).Nodup → (putK kvs k v).map (·.1) = kvs.map (·.1) ∧ (putK kvs k v).map (·.2) = (kvs.map (·.2)).set j v
  | [], j, h, _ => by simp at h
  | p :: kvs, j, h, nd => by
    rw [List.findIdx?_cons] at h
    simp only [List.map_cons, List.nodup_cons] at nd
    by_cases hp : p.1 = k
    · simp [hp] at h; subst h
      have hno : ∀ q ∈ kvs, ¬ q.1 = k := fun q hq z => nd.1 (by rw [hp, ← z]; exact List.mem_map_of_mem hq)
      have hm : kvs.map (fun kv => if kv.1 = k then (kv.1, v) else kv) = kvs := by
        conv => rhs; rw [← List.map_id kvs]
        exact List.map_congr_left fun q hq => by simp [hno q hq]
      unfold putK
      simp [hp, hm]
    · simp only [hp, decide_false, Bool.false_eq_true, if_false] at h
      cases q : List.findIdx? (fun p => decide (p.1 = k)) kvs with
      | none => rw [q] at h; simp at h
      | some j' =>
        rw [q] at h; simp at h; subst h
        obtain ⟨h1, h2⟩ := putK_at (v := v) q nd.2
        have ha : (kvs.any fun kv => decide (kv.1 = k)) = true := by
          rw [List.findIdx?_eq_some_iff_getElem] at q
          obtain ⟨hl, hp, _⟩ := q
          exact List.any_eq_true.mpr ⟨_, List.getElem_mem hl, hp⟩
        have e : putK (p :: kvs) k v = p :: putK kvs k v := by
          unfold putK
          simp [ha, hp]
        rw [e]
        exact ⟨by rw [List.map_cons, List.map_cons, h1], by rw [List.map_cons, List.map_cons, List.set_cons_succ, h2]⟩
theorem ixK_findK {kvs : List (Key × V)} {k : Key} : ixK (kvs.map fun p => kdK p.1) (kdK k) = kvs.findIdx? fun p => decide (p.1 = k) := by
  unfold ixK
  rw [List.findIdx?_map]
  congr 1
  funext p
  simp only [Function.comp]
  exact decide_eq_decide.mpr ⟨kdK_inj, fun z => by rw [z]⟩
theorem ixK_findT {kvs : List (List Key × V)} {k : List Key} : ixK (kvs.map fun p => KD.t p.1) (.t k) = kvs.findIdx? fun p => decide (p.1 = k) := by
  unfold ixK
  rw [List.findIdx?_map]
  congr 1
  funext p
  simp only [Function.comp]
  exact decide_eq_decide.mpr ⟨KD.t.inj, fun z => by rw [z]⟩
theorem nodup_of_map {α β : Type} {f : α → β} : ∀ {l : List α}, (l.map f).Nodup → l.Nodup
  | [], _ => .nil
  | a :: l, h => by
    simp only [List.map_cons, List.nodup_cons] at h ⊢
    exact ⟨fun z => h.1 (List.mem_map_of_mem z), nodup_of_map h.2⟩
theorem ixK_new {ks : List KD} {k : KD} (h : ixK ks k = none) : k ∉ ks := fun z => by
  unfold ixK at h
  rw [List.findIdx?_eq_none_iff] at h
  have := h k z
  simp at this
theorem nodup_snoc {α : Type} {l : List α} {a : α} (h : l.Nodup) (n : a ∉ l) : (l ++ [a]).Nodup := by
  rw [List.nodup_append]
  exact ⟨h, by simp, fun x hx y hy z => n (by simp at hy; rw [← hy, ← z]; exact hx)⟩
theorem putK_new' {κ : Type} [DecidableEq κ] {kvs : List (κ × V)} {k : κ} {v : V} (h : kvs.findIdx? (fun p => decide (p.1 = k)) = none) : putK kvs k v = kvs ++ [(k, v)] := by
  unfold putK
  rw [List.findIdx?_eq_none_iff] at h
  rw [if_neg]
  intro z
  obtain ⟨p, hp, e⟩ := List.any_eq_true.mp z
  rw [h p hp] at e; cases e
theorem snd_setD : SndU X (rSetV rSetD) mSetD := by
  intro ds vs I H F Q res ds' s e hlen hq
  unfold mSetD at e
  split at e
  rotate_left
  · cases e
  rename_i d ks xs key
  cases q1 : keyD key with
  | none => rw [q1] at e; cases e
  | some k =>
    rw [q1] at e
    simp only at e
    split at e
    rotate_left
    · cases e
    rename_i cc
    obtain ⟨c1, c2, hz⟩ := cc
    obtain ⟨v0, v1, v2, rfl⟩ := vs3 (u_len s)
    obtain ⟨_, e0, r0⟩ := u_rep s (k := 0) rfl
    obtain ⟨_, e1, r1⟩ := u_rep s (k := 1) rfl
    obtain ⟨_, e2, r2⟩ := u_rep s (k := 2) rfl
    cases e0; cases e1; cases e2
    have kk := keyD_rep s.sub r2 q1
    have g1 := go_out (i := 0) s rfl rfl
    have fin : ∀ (a : Addr) (o : HO) (D2 : D), v1 = .ref a → F 1 a → NTb o → Rep X.K X.mg I (upd H a o) D2 (.ref a) ((F 1).or (F 0)) →
        Go X.K X.mg I H (uE [d, .dic true ks xs, key]) ([v0, v1, v2].map some) F I (upd H a o) (uE [.hole, D2, key]) ([v0, v1, v2].map some) ((F.set 0 no).set 1 ((F 1).or (F 0))) no := fun a o D2 ev ha nt rr => by
      subst ev
      exact go_upd (i := 1) (a := a) (o := o) (d := D2) (v := .ref a) (A' := (F 1).or (F 0)) (B' := no) g1 (show _ = some ⟨true, false, .dic true ks xs⟩ from rfl) rfl rfl (by rw [FF.set_ne (by decide)]; exact ha)
        (by rw [FF.set_ne (by decide)]; exact Le.refl) no_le dis_no rr nt
    cases r1 with
    | dicTO hA h hk nd rs hB nB =>
      exfalso
      rename_i a kvs B0
      cases kvs with
      | nil => exact nd.2 (by rw [← hk]; rfl)
      | cons p kvs => rw [← hk] at c2; simp [isSc] at c2
    | dicKO hA h hk nd rs hB nB =>
      rename_i a kvs B0
      have n1 : ¬ F 0 a := fun z => s.dis 0 1 (by decide) a z hA
      have hl := rs.length
      rcases kk with ⟨kq, rfl, rfl⟩ | ⟨kq, b, rfl, rfl, hb⟩
      · have nd' : (kvs.map (·.1)).Nodup := by
          rw [← hk] at nd
          have : kvs.map (fun p => kdK p.1) = (kvs.map (·.1)).map kdK := by simp
          rw [this] at nd
          exact nodup_of_map nd
        have z : kvs.length < sizeLine := by rw [hl, List.length_map] at hz; exact hz
        cases q2 : ixK ks (kdK kq) with
        | some j =>
          rw [q2] at e; cases e
          rw [← hk, ixK_findK] at q2
          obtain ⟨p1, p2⟩ := putK_at (v := v0) q2 nd'
          exact ⟨a, _, rfl, DPut.k h z, hq _ _ _ _ _ (fin a _ _ rfl hA (fun ps z => by cases z) (.dicKO (B := B0.or (F 0)) (.inl hA) upd_same
            (by rw [← hk]; have : (putK kvs kq v0).map (fun p => kdK p.1) = ((putK kvs kq v0).map (·.1)).map kdK := by simp
                rw [this, p1]; simp) nd (by rw [p2]; exact Reps.setV (rs.updF nB) (r0.updF n1) fun b p q => s.dis 0 1 (by decide) b q (hB b p)) (fun b z => z.elim (fun z => .inl (hB b z)) .inr) fun z => z.elim nB n1)) .non⟩
        | none =>
          rw [q2] at e; cases e
          have hn := ixK_new q2
          rw [← hk, ixK_findK] at q2
          have p := putK_new' (v := v0) q2
          exact ⟨a, _, rfl, DPut.k h z, hq _ _ _ _ _ (fin a _ _ rfl hA (fun ps z => by cases z) (.dicKO (B := B0.or (F 0)) (.inl hA) upd_same
            (by rw [p, List.map_append, hk]; rfl) (nodup_snoc nd hn) (by rw [p, List.map_append]; exact Reps.snoc (rs.updF nB) (r0.updF n1) fun b p q => s.dis 0 1 (by decide) b q (hB b p)) (fun b z => z.elim (fun z => .inl (hB b z)) .inr) fun z => z.elim nB n1)) .non⟩
      · simp [isSc] at c1
/-- o[i] = v: a list, a dict -/
def mSet : List D → Option (D × List D) := fun ds => match mSetL ds with
  | some r => some r
  | none => mSetD ds
theorem SndU.or {r r' : List V → Hp → VK → Prop} {m m' : List D → Option (D × List D)} (h : SndU X r m) (h' : SndU X r' m') : SndU X (fun vs H Q => r vs H Q ∨ r' vs H Q) (fun ds => match m ds with
    | some x => some x
    | none => m' ds) := by
  intro ds vs I H F Q res ds' s e hlen hq
  cases q : m ds with
  | some x => simp only [q] at e; cases e; exact .inl (h ds vs I H F Q res ds' s q hlen hq)
  | none => simp only [q] at e; exact .inr (h' ds vs I H F Q res ds' s e hlen hq)
abbrev rSetX : TSet := fun o i v H Q => rSetL o i v H Q ∨ rSetD o i v H Q
theorem set_all (hu : X.A.units + 1 < cLine) : PSet X rSetX := pset_or set_list (set_dict hu)
theorem snd_set : SndU X (rSetV rSetX) mSet := by
  intro ds vs I H F Q res ds' s e hlen hq
  have := (snd_setL (X := X)).or snd_setD ds vs I H F Q res ds' s e hlen hq
  have hv : vs.length = 3 := by
    rw [u_len s]
    unfold mSet mSetL mSetD at e
    split at e
    · rename_i hh
      split at hh
      · rfl
      · cases hh
    · split at e
      · rfl
      · cases e
  obtain ⟨a, b, c, rfl⟩ := vs3 hv
  exact this
/-- the statement o[i] = v -/
def sSub (fv fo fi : EF) : SF := fun δ => (eCall (liftG mSet) [] (eCons (eV fv) (eCons fo (eCons fi eNil))) δ).bindS fun _ δ1 => .nx δ1
theorem ds_sub {o i e : Expr} {fo fi fe : EF} {tpos pos : Pos} (hu : X.A.units + 1 < cLine) (ho : DE X W o fo) (hi : DE X W i fi) (he : DE X W e fe)
    (ha : ∀ v, assign (.Subscript o i tpos) X.env v = (do
      let ov ← holding [v] (eval o X.env)
      let iv ← holding [v, ov] (eval i X.env)
      standAt tpos
      holding [v, ov, iv] (setItem ov iv v)
      release [v, ov, iv] []) := by intro _; rfl)
    (hs : swapsWithSole [.Subscript o i tpos] e pos.line X.env = pure false := by rfl) (hw : swappedStores [.Subscript o i tpos] e X.env = pure none := by rfl) : DS X W (.Assign [.Subscript o i tpos] e pos) (sSub fe fo fi) := by
  obtain ⟨to, po, qo⟩ := ho
  obtain ⟨ti, pi, qi⟩ := hi
  obtain ⟨te, pe, qe⟩ := he
  refine ⟨_, ps_asg pe (pg_sub po pi (set_all hu) ha) hs hw, fun I H δ σ F E s h => ?_⟩
  have key := se_callR (r := rSetV rSetX) snd_set.snd (sa_cons (se_val qe) (sa_cons qo (sa_cons qi (sa_nil (X := X) (W := W))))) I H δ σ F (fun _ H' => E.nx σ H') s ?_
  · exact key
  · unfold sSub at h
    cases q : eCall (liftG mSet) [] (eCons (eV fe) (eCons fo (eCons fi eNil))) δ with
    | stk => rw [q] at h; exact h.elim
    | er x δ' => rw [q] at h; exact ErS.o h
    | ok o δ1 => rw [q] at h; exact fun v I' H' F' B g _ => h I' H' σ F' (g.less no_le)
/-! ### methods of built-in types -/
/-- the receiver is looked at ahead of the arguments -/
def eConsC (chk : D → Bool) (f : EF) (fr : AF) : AF := fun δ => (f δ).bind fun o δ1 => match rdO o δ1 with
  | some d => if chk d = true then ((fr (lockO o δ1)).mapE (unlockO o δ1)).bind fun os δ2 => .ok (o :: os) δ2 else .stk
  | none => .stk
theorem sa_consC {te : TE} {tr : TA} {f : EF} {fr : AF} {chk : D → Bool} {P : V → Hp → Prop} (hP : ∀ I H d v B, SubH X.K I H → Rep X.K X.mg I H d v B → chk d = true → P v H) (h1 : SE X W te f) (h2 : SA X W tr fr) :
    SA X W (fun σ H Q => te σ H fun x H1 => P x H1 ∧ tr σ H1 fun xs H2 => Q (x :: xs) H2) (eConsC chk f fr) := by
  intro I H δ σ F Q s h
  have base := sa_cons h1 h2
  refine h1 I H δ σ F _ s ?_
  unfold eConsC at h
  cases q : f δ with
  | stk => rw [q] at h; exact h.elim
  | er x δ' => rw [q] at h; exact h
  | ok o δ1 =>
    rw [q] at h
    intro v I1 H1 F1 B g r
    change AO X W I H δ σ F Q (match rdO o δ1 with
      | some d => if chk d = true then ((fr (lockO o δ1)).mapE (unlockO o δ1)).bind fun os δ2 => .ok (o :: os) δ2 else .stk
      | none => .stk) at h
    cases q2 : rdO o δ1 with
    | none => rw [q2] at h; exact h.elim
    | some d =>
      rw [q2] at h; simp only at h
      split at h
      · rename_i hc
        obtain ⟨C, rc, _, _⟩ := rd_ok g.st g.own r q2
        refine ⟨hP I1 H1 d v C g.st.sub rc hc, ?_⟩
        -- as for a plain list
        have h3 : SA X W (tCons (fun σ H Q => ∀ _ : True, Q v H) tr) (eCons (fun δ => .ok o δ) fr) → True := fun _ => trivial
        refine h2 I1 H1 (lockO o δ1) σ F1 _ g.st.lockO ?_
        cases q3 : fr (lockO o δ1) with
        | stk => rw [q3] at h; exact h.elim
        | er x δ2 => rw [q3] at h; exact ErO.unlock r g h
        | ok os δ2 =>
          rw [q3] at h
          intro vs I2 H2 F2 C g2 rs
          obtain ⟨g3, dd, r3⟩ := r.stay g g2
          exact h (v :: vs) I2 H2 F2 _ g3 (.cons (C := C) r3 (oreps_unlock rs) le_l le_r dd)
      · exact h.elim
where
  oreps_unlock {I2 H2 : Hp} {δ1 δ2 : Env} {σ : St} {F2 : FF} {o : Opd} {os : List Opd} {vs : List V} {C : FP} (rs : OReps X I2 H2 δ2 σ F2 os vs C) : OReps X I2 H2 (unlockO o δ1 δ2) σ F2 os vs C := by
    induction rs with
    | nil => exact .nil
    | cons r rs x y z ih =>
      refine .cons ?_ ih x y z
      rename_i o' _ _ _ _ _ _
      cases o' with
      | tmp d => exact r
      | nm i => exact r
      | plc i p d =>
        obtain ⟨rfl, sl, v0, e, ed, es, l⟩ := r
        cases o with
        | plc j p' d' =>
          by_cases q : i = j
          · subst q; exact ⟨rfl, _, v0, setLk_eq e, ed, es, l⟩
          · exact ⟨rfl, sl, v0, by show (setLk δ2 j _)[i]? = _; rw [setLk_ne q]; exact e, ed, es, l⟩
        | _ => exact ⟨rfl, sl, v0, e, ed, es, l⟩
/-- the type of a receiver -/
def chkT (T : String) : D → Bool
  | .str _ => T == "str"
  | .lst _ _ => T == "list"
  | .dic _ _ _ => T == "dict"
  | _ => false
theorem chkT_ok {T : String} : ∀ I H d v B, SubH X.K I H → Rep X.K X.mg I H d v B → chkT T d = true → tyV X.K T v H := by
  intro I H d v B hs r h
  cases r <;> simp only [chkT, beq_iff_eq, Bool.false_eq_true] at h <;> subst h
  case str => exact rfl
  case lstO h rs nB hA hB => exact .inl ⟨rfl, _, SqL.of h⟩
  case lstF h rs => exact .inl ⟨rfl, _, hs.sqL h⟩
  case dicKO h hk nd rs nB hA hB => exact .inr (.inr (.inl ⟨rfl, .inl ⟨_, h⟩⟩))
  case dicKF h hk nd rs => exact .inr (.inr (.inl ⟨rfl, .inl ⟨_, hs _ _ h⟩⟩))
  case dicTO h hk nd rs nB hA hB => exact .inr (.inr (.inl ⟨rfl, .inr ⟨_, h⟩⟩))
  case dicTF h hk nd rs => exact .inr (.inr (.inl ⟨rfl, .inr ⟨_, hs _ _ h⟩⟩))
section
variable {o e : Expr} {es : List Expr} {fo : EF} {fa : AF} {name : Str} {apos cpos : Pos} {T id : String} {r : V → List V → Hp → VK → Prop} {m : List D → Option (D × List D)} {g : List D → Option D}
/-- a method that changes -/
theorem de_bm (pa : PlainAttrs T) (slot : Slot T name id) (hty : typeOf (.builtin id) = pure (.type "method_descriptor")) (hm : MtR X id r) (hr : SndU X (rMt r) m) (ho : DE X W o fo) (ha : DA X W (e :: es) fa)
    (hbase : attributeBase o name X.env (eval o X.env) = eval o X.env := by rfl)
    (hfew : ((backTo cpos (starEach (e :: es) X.env)).all (fun x => !x.1) && (backToKw cpos (keywordEach [] X.env)).all (fun x => x.1.isSome)
      && decide ((e :: es).length + ([] : List Keyword).length + (if ([] : List Keyword).isEmpty then 0 else 1) < 30)) = true := by rfl)
    (hline : (apos.endLine == cpos.line) = true := by rfl) (hs : starEach (e :: es) X.env = (false, eval e X.env) :: starEach es X.env := by rfl) (hplain : (backTo cpos (starEach es X.env)).any (·.1) = false := by rfl) :
    DE X W (.Call (.Attribute o name apos) (e :: es) [] cpos) (eCall (liftG m) [] (eConsC (chkT T) fo fa)) := by
  obtain ⟨to, po, qo⟩ := ho
  obtain ⟨ta, pa', qa⟩ := ha
  exact ⟨_, pe_bm pa slot hty hm po pa' hbase hfew hline hs hplain, se_callR (r := rMt r) hr.snd (sa_consC chkT_ok qo qa)⟩
theorem de_bm0 (pa : PlainAttrs T) (slot : Slot T name id) (hty : typeOf (.builtin id) = pure (.type "method_descriptor")) (hm : MtR X id r) (hr : SndU X (rMt r) m) (ho : DE X W o fo)
    (hbase : attributeBase o name X.env (eval o X.env) = eval o X.env := by rfl) (hline : (apos.endLine == cpos.line) = true := by rfl) : DE X W (.Call (.Attribute o name apos) [] [] cpos) (eCall (liftG m) [] (eConsC (chkT T) fo eNil)) := by
  obtain ⟨to, po, qo⟩ := ho
  exact ⟨_, pe_bm0 pa slot hty hm po hbase hline, se_callR (r := rMt r) hr.snd (sa_consC chkT_ok qo (sa_nil (X := X) (W := W)))⟩
/-- a method that reads -/
theorem de_rm (pa : PlainAttrs T) (slot : Slot T name id) (hty : typeOf (.builtin id) = pure (.type "method_descriptor")) (hm : MtR X id r) (hr : Snd X (rMt r) g) (ho : DE X W o fo) (ha : DA X W (e :: es) fa)
    (hbase : attributeBase o name X.env (eval o X.env) = eval o X.env := by rfl)
    (hfew : ((backTo cpos (starEach (e :: es) X.env)).all (fun x => !x.1) && (backToKw cpos (keywordEach [] X.env)).all (fun x => x.1.isSome)
      && decide ((e :: es).length + ([] : List Keyword).length + (if ([] : List Keyword).isEmpty then 0 else 1) < 30)) = true := by rfl)
    (hline : (apos.endLine == cpos.line) = true := by rfl) (hs : starEach (e :: es) X.env = (false, eval e X.env) :: starEach es X.env := by rfl) (hplain : (backTo cpos (starEach es X.env)).any (·.1) = false := by rfl) :
    DE X W (.Call (.Attribute o name apos) (e :: es) [] cpos) (eRd g (eConsC (chkT T) fo fa)) := by
  obtain ⟨to, po, qo⟩ := ho
  obtain ⟨ta, pa', qa⟩ := ha
  exact ⟨_, pe_bm pa slot hty hm po pa' hbase hfew hline hs hplain, se_rd (r := rMt r) hr (sa_consC chkT_ok qo qa)⟩
theorem de_rm0 (pa : PlainAttrs T) (slot : Slot T name id) (hty : typeOf (.builtin id) = pure (.type "method_descriptor")) (hm : MtR X id r) (hr : Snd X (rMt r) g) (ho : DE X W o fo)
    (hbase : attributeBase o name X.env (eval o X.env) = eval o X.env := by rfl) (hline : (apos.endLine == cpos.line) = true := by rfl) : DE X W (.Call (.Attribute o name apos) [] [] cpos) (eRd g (eConsC (chkT T) fo eNil)) := by
  obtain ⟨to, po, qo⟩ := ho
  exact ⟨_, pe_bm0 pa slot hty hm po hbase hline, se_rd (r := rMt r) hr (sa_consC chkT_ok qo (sa_nil (X := X) (W := W)))⟩
end
end
end DL

set_option linter.all false
set_option autoImplicit false
namespace DL
open PySem PySem.Spec L2
open PyProof.Rows hiding St

/-- a def of the text and what it computes -/
structure DefOk (P : Program) (w : World) (K : PySem.W.Frag) (mg : Str → Option Value) (base : Heap) (at_ : Str × Option Str) (lvl : Nat) (ps : List Str) (G : DFn) : Prop where
  ex : ∃ fd, FnOk P w K mg base (L2.CX P w) lvl (He.fAd K at_) fd ps (spD K mg ps.length G) ∧ Binds K fd ps []
  kp : PySem.W.keepIn K (.ref (He.fAd K at_)) = true
section
variable {X : Cx} {W : WX} {I H I1 H1 I2 H2 : Hp} {δ δ1 δ2 : Env} {σ σ1 σ2 : St} {F F1 F2 : FF} {A B B1 B2 C : FP} {d x : D} {v w : V} {i j : Nat} {sl : Sl} {ds : List D} {vs : List V}
theorem de_fn {x : Str} {p pos : Pos} {lvl : Nat} {ps : List Str} {G : DFn} {e : Expr} {es : List Expr} {fa : AF} (h : DefOk X.prog X.w X.K X.mg X.base (x, none) lvl ps G) (hm : X.mg x = some (.ref (He.ga X.K x))) (hr : Room lvl X.A) (tk : Takes X W)
    (ha : DA X W (e :: es) fa) (ar : Ar ps.length fa) (hg : Gl X x := by rfl) (hdb : (x == ("__debug__" : Str)) = false := by decide)
    (he : starEach (e :: es) X.env = (false, eval e X.env) :: starEach es X.env := by rfl) (hpl : (backTo pos (starEach es X.env)).any (·.1) = false := by rfl) :
    DE X W (.Call (.Name x p) (e :: es) [] pos) (eCall G [] fa) := by
  obtain ⟨fd, Fn, hb⟩ := h.ex
  exact de_call (m := ps.length) Fn hr hg hm h.kp hb .nil dfl_nil tk ha ar rfl hdb he hpl
theorem de_gi {x : Str} {i : Int} {pos : Pos} (hm : ∃ t, X.mg x = some (.int i t)) (hg : Gl X x := by rfl) (hd : (x == ("__debug__" : Str)) = false := by decide) : DE X W (.Name x pos) (eC (.int i)) :=
  let ⟨_, h⟩ := hm; de_glob_int hg h hd
theorem de_gs {x : Str} {i : Str} {pos : Pos} (hm : ∃ t, X.mg x = some (.str i t)) (hg : Gl X x := by rfl) (hd : (x == ("__debug__" : Str)) = false := by decide) : DE X W (.Name x pos) (eC (.str i)) :=
  let ⟨_, h⟩ := hm; de_glob_str hg h hd
theorem ss_set {i : Nat} {t : TE} {f : EF} (q : SE X W t f) : SS X W (tAsg t (gName i)) (sSet i f) := by
  intro I H δ σ F E s h
  unfold sSet at h
  refine sv_ok (Q := fun x σH => gName i x σ σH E.nx) q s (fun d δ' e => ?_) (fun x δ' e => ?_) fun e => ?_
  · rw [e] at h
    intro v I' H' F' B g r
    change SO X W E I H δ σ F (match setN i d δ' with | some δ2 => .nx δ2 | none => .stk) at h
    cases q2 : setN i d δ' with
    | none => rw [q2] at h; exact h.elim
    | some δ2 => rw [q2] at h; exact set_ok g r q2 h
  · rw [e] at h; exact ErS.o h
  · rw [e] at h; exact h.elim
/-- y = [..] on one line, y a local -/
theorem ds_setLc {i : Nat} {y : Str} {py : Pos} {elt tg iter : Expr} {ifs : List Expr} {scope : Scope} {own : List (Str × Nat)} {ws : List Nat} {pos spos : Pos} {it : IF} {gd : D → Env → Option Env} {tt : BF} {te : EF} (hc : X.calm = true) (hN : X.N.Nodup) (hy : X.N[i]? = some y) (hyl : X.env.scope.names.lookup y = some .local)
    (hsw : swapsWith (.ListComp elt [⟨tg, iter, ifs, 0⟩] scope pos) (some (.Name y py)) spos.line X.env = pure true) (hi : DI X W tg iter it) (ok : BlkOk X.N X.env.scope scope own) (hw : ∀ j ∈ ws, j ∈ own.map (·.2))
    (hg : ∀ (s : Shared) (H : Hp) (C : Addr) (cl : List (Str × Addr)) (fp : List Addr), DG (X.blk s H scope (compEnvC scope cl C X.env) fp) ws tg gd)
    (ht : ∀ (s : Shared) (H : Hp) (C : Addr) (cl : List (Str × Addr)) (fp : List Addr), DPs (X.blk s H scope (compEnvC scope cl C X.env) fp) Wf ifs tt)
    (he : ∀ (s : Shared) (H : Hp) (C : Addr) (cl : List (Str × Addr)) (fp : List Addr), DE (X.blk s H scope (compEnvC scope cl C X.env) fp) Wf elt te)
    (hs : ∀ x, foldedSetIterable iter X.env x = pure x := by intro _; rfl) : DS X W (.Assign [.Name y py] (.ListComp elt [⟨tg, iter, ifs, 0⟩] scope pos) spos) (sSet i (eLc (own.map (·.2)) it gd tt te)) := by
  obtain ⟨wi, pi, qi⟩ := hi
  exact ⟨_, ps_setLc (g := gOf X ws gd) (tt := bOf X Wf tt) (te := tOf X Wf te) hc hN hy hyl hsw pi ok (fun s H C cl fp => (hg s H C cl fp).tof) (fun s H C cl fp => (ht s H C cl fp).tof) (fun s H C cl fp => (he s H C cl fp).tof) hs, ss_set (se_lc hw qi)⟩
end
end DL

set_option linter.all false
set_option autoImplicit false
namespace DL
open PySem PySem.Spec L2
open PyProof.Rows hiding St

theorem reps_ints {K : PySem.W.Frag} {mg : Str → Option Value} {I H : Hp} : ∀ ns : List Int, Reps K mg I H (ns.map D.int) (ns.map V.int) no
  | [] => .nil
  | _ :: ns => .cons .int (reps_ints ns) no_le no_le dis_no
/-- the script, as a law's argument -/
def scr (ns : List Int) : List Arg := [⟨false, .lst false (ns.map D.int)⟩]
/-- what is known at the law's start: all but the tables -/
def noTab (H : Hp) : Hp := fun a => match H a with
  | some (.tbl _) => none
  | o => o
theorem noTab_some {H : Hp} {a : Addr} {o : HO} (h : H a = some o) (n : NTb o) : noTab H a = some o := by
  unfold noTab
  rw [h]
  split
  · rename_i ps z; cases z; exact absurd rfl (n _)
  · rfl
theorem noTab_inv {H : Hp} {a : Addr} {o : HO} (h : noTab H a = some o) : H a = some o := by
  unfold noTab at h
  split at h
  · cases h
  · exact h
theorem subH_start {K : PySem.W.Frag} {H : Hp} (h : ∀ P q, IsTab K P q → H P = some (.tbl #[])) : SubH K (noTab H) H :=
  ⟨fun a o e => noTab_inv e, fun P q t => by
    have e := h P q t
    refine ⟨by unfold noTab; rw [e], #[], e, True.intro, fun pos cv z => ?_⟩
    have z' : codeAmong pos [] = some cv := z
    simp [codeAmong] at z'⟩
theorem noTab_sqL {K : PySem.W.Frag} {H : Hp} {a : Addr} {vs : List V} (h : SqL K H a vs) : SqL K (noTab H) a vs := by
  rcases h with (h | ⟨o, h⟩) | h
  · exact .inl (.inl (noTab_some h fun ps z => by cases z))
  · exact .inl (.inr ⟨o, noTab_some h fun ps z => by cases z⟩)
  · exact .inr h
theorem sp_law {K : PySem.W.Frag} {mg : Str → Option Value} {G : DFn} {H : Hp} {a : Addr} {ns : List Int} (h : ∃ ds, G (scr ns) = .ok (.bl true) ds) (ht : ∀ P q, IsTab K P q → H P = some (.tbl #[])) (hS : SqL K H a (ns.map V.int)) :
    spD K mg 1 G [.ref a] H (fun v _ => v = .bl true) fun _ _ _ => False := by
  obtain ⟨ds, e⟩ := h
  refine ⟨rfl, scr ns, noTab H, fun _ => no, ⟨subH_start ht, fun _ => own_no, fun _ _ _ => dis_no, fun i sl es => ?_, fun _ _ => rfl, rfl⟩, ?_⟩
  · match i with
    | 0 =>
      have : sl = ⟨true, false, .lst false (ns.map D.int)⟩ := by simpa [scr, aE] using es.symm
      subst this
      exact .inr ⟨.ref a, rfl, .lstF (noTab_sqL hS) (reps_ints ns)⟩
    | i + 1 => simp [scr, aE] at es
  · rw [e]
    intro v I' H' F' B g r
    cases r; rfl
theorem cx_none {P : Program} (w : World) (H : Hp) (s : Shared) (e : Value) (s' : Shared) (h : L2.CX P w [] H s (fun _ _ _ => False) e s') : False := by
  obtain ⟨_, _, _, _, _, _, _, _, _, _, _, _, z⟩ := h
  exact z
/-- the tables, for the making of lambdas -/
structure TbB (K : PySem.W.Frag) (mg : Str → Option Value) (base : Heap) : Prop where
  at_ : ∀ p q, (p, q) ∈ lamKeys → hasTab K p = true → LamX.TabB base mg (He.cT K p).1 (He.cT K p).2
  inj : ∀ P q q', IsTab K P q → IsTab K P q' → q = q'
def injB (K : PySem.W.Frag) : Bool := lamKeys.all fun p => lamKeys.all fun p' => !(hasTab K p.1 && (hasTab K p'.1 && decide ((He.cT K p.1).2 = (He.cT K p'.1).2))) || decide (p.2 = p'.2)
theorem injB_ok {K : PySem.W.Frag} (h : injB K = true) : ∀ P q q', IsTab K P q → IsTab K P q' → q = q' := by
  rintro P q q' ⟨p, m, t, e⟩ ⟨p', m', t', e'⟩
  have h1 := List.all_eq_true.mp (List.all_eq_true.mp h _ m) _ m'
  have ee : (He.cT K p).2 = (He.cT K p').2 := e.symm.trans e'
  simpa [t, t', ee] using h1
/-- the tables are empty in a heap -/
def emptyB (g : Addr → Option Obj) (K : PySem.W.Frag) : Bool := lamKeys.all fun p => !hasTab K p.1 || (match g (He.cT K p.1).2 with
  | some o => He.emptyTab o
  | none => false)
def TabsEmpty (K : PySem.W.Frag) (h : Heap) : Prop := ∀ p q, (p, q) ∈ lamKeys → hasTab K p = true → h.get? (He.cT K p).2 = some { cls := .none, data := .fields #[] }
theorem emptyB_ok {h : Heap} {K : PySem.W.Frag} (e : emptyB h.get? K = true) : TabsEmpty K h := fun p q m t => by
  have h1 := List.all_eq_true.mp e _ m
  rw [t] at h1
  cases z : h.get? (He.cT K p).2 with
  | none => rw [z] at h1; cases h1
  | some o => rw [z] at h1; rw [He.emptyTab_eq h1]
/-- the end of a law that may raise within -/
theorem walk_ofD {l : PySem.W.OpenLaw} {n k : Nat} {q : Program} {loose : List Str} {XP : (Str → Option Value) → Heap → Prop} {YP : World → Heap → Prop} {d : DefRec} {x : Str}
    (hn : l.most = some n) (hn2 : n ≤ sizeLine) (hdf : d.params.defaults = []) (hr : Room k callerA)
    (F : ∀ (w : World) (mg : Str → Option Value) (fa : Addr) (h : Heap), YP w h → h.Ns mainGlobals mg → mg d.name = some (.ref fa) →
      ∃ (K : PySem.W.Frag) (fd : FuncData) (G : DFn), K.In h ∧ (TabsEmpty K h ∧ injB K = true) ∧ (∀ (s : Shared) (u : Value), BindsTo s fd ⟨[u], []⟩ [(x, u)]) ∧
        (∀ ns : List Int, ns.length ≤ n → (∀ z ∈ ns, Builtin.Int.intBits z ≤ 1048576) → ∃ ds, G (scr ns) = .ok (.bl true) ds) ∧
        ∀ base : Heap, K.In base → base.Ns mainGlobals mg → TbB K mg base → FnOk l.prog w K mg base (L2.CX l.prog w) k fa fd [x] (spD K mg 1 G)) :
    PySem.W.WalkO q loose XP YP l.row.toRowW d [] (fun f vs => PySem.call f vs) := by
  refine Att.attach_callB hn hdf fun u0 t0 t1 m1 m2 f1 o1 p1 c1 d1 b1 ws js G1 Y1 h1 h2 h3 h4 h5 h6 h7 h8 h9 => ?_
  obtain ⟨K, fd, G, KX, ⟨hT, hj⟩, hb, hG, hF⟩ := F u0 m1 f1 _ Y1 G1.T.g h4
  have mem : ∀ p : Addr × Addr, p ∈ (lamKeys.filter fun p => hasTab K p.1).map (fun p => He.cT K p.1) ↔ ∃ k q, (k, q) ∈ lamKeys ∧ hasTab K k = true ∧ He.cT K k = p := fun p => by
    constructor
    · intro h
      obtain ⟨x, hx, e⟩ := List.mem_map.mp h
      obtain ⟨h1, h2⟩ := List.mem_filter.mp hx
      exact ⟨x.1, x.2, h1, h2, e⟩
    · rintro ⟨k, q, h1, h2, e⟩
      exact List.mem_map.mpr ⟨(k, q), List.mem_filter.mpr ⟨h1, h2⟩, e⟩
  refine LamX.law_callTs (cs := (lamKeys.filter fun p => hasTab K p.1).map (fun p => He.cT K p.1)) (sp := spD K m1 1 G) KX G1.T.g G1.T.b G1.T.builtins G1.T.nolimit h9 (fun p hp => ?_) (fun p hp => ?_) (fun p hp => ?_) G1.T.bmain h5 h6 (Nat.le_trans h7 hn2) hr
    (fun base X0 Gb TB => hF base X0 Gb ⟨fun p q m t => TB _ ((mem _).mpr ⟨p, q, m, t, rfl⟩), injB_ok hj⟩) hb (fun H hH hS => sp_law (hG js h7 h8) (fun P q ⟨p, m, t, e⟩ => by subst e; exact hH _ ((mem _).mpr ⟨p, q, m, t, rfl⟩)) hS) fun H e s' => cx_none u0 H t1 e s'
  · obtain ⟨k, q, m, t, rfl⟩ := (mem p).mp hp
    exact hT k q m t
  · obtain ⟨k, q, m, t, rfl⟩ := (mem p).mp hp
    unfold hasTab at t
    rw [Bool.and_eq_true] at t
    exact Option.isNone_iff_eq_none.mp t.2
  · obtain ⟨k, q, m, t, rfl⟩ := (mem p).mp hp
    unfold hasTab at t
    rw [Bool.and_eq_true] at t
    exact PySem.W.codeHd_of_K KX t.1
end DL

set_option linter.all false
set_option autoImplicit false
namespace DL
open PySem PySem.Spec L2
open PyProof.Rows hiding St

section
variable {X : Cx} {W : WX} {I H I1 H1 I2 H2 : Hp} {δ δ1 δ2 : Env} {σ σ1 σ2 : St} {F F1 F2 : FF} {A B B1 B2 C : FP} {d x : D} {v w : V} {i j : Nat} {sl : Sl} {ds : List D} {vs : List V}

/-! ### list(x) -/
def gListOf : D → Option D
  | .lst _ ds => if ices ds = true then some (.lst true ds) else none
  | .tup ds => if ices ds = true then some (.lst true ds) else none
  | _ => none
abbrev rListOf (K : PySem.W.Frag) : List V → Hp → VK → Prop := fun xs H Q => ∃ p ys, xs = [.ref p] ∧ (SqL K H p ys ∨ SqT K H p ys) ∧ ∀ l, H l = none → Q (.ref l) (upd H l (.lst ys))
theorem snd_listOf : Snd X (rListOf X.K) (g1L gListOf) := Snd1.snd (by
  intro I H x d1 d B1 Q hs r1 o1 e hq
  cases d1 <;> simp only [gListOf, reduceCtorEq] at e
  · rename_i o ds
    split at e
    · rename_i hi
      cases e
      obtain ⟨a, vs, rfl, h1, rs⟩ := rep_sqL hs r1
      refine ⟨a, vs, rfl, .inl h1, fun p hp => ?_⟩
      obtain ⟨B, n⟩ := newV_lst hs hp (rs.ice hi)
      exact hq _ _ _ _ n
    · cases e
  · rename_i ds
    split at e
    · rename_i hi
      cases e
      cases r1 with
      | tup h rs =>
        rename_i a vs
        refine ⟨a, vs, rfl, .inr (SqT.of (hs _ _ h)), fun p hp => ?_⟩
        obtain ⟨B, n⟩ := newV_lst hs hp (rs.ice hi)
        exact hq _ _ _ _ n
    · cases e)

/-! ### an item leaves a list, or comes -/
theorem Reps.erase : ∀ {ds : List D} {vs : List V} {A : FP} {j : Nat} {d : D}, Reps X.K X.mg I H ds vs A → ds[j]? = some d → ∃ v B1 B2, vs[j]? = some v ∧ Rep X.K X.mg I H d v B1 ∧ Reps X.K X.mg I H (ds.eraseIdx j) (vs.eraseIdx j) B2 ∧ Le B1 A ∧ Le B2 A ∧ Dis B2 B1
  | _, _, _, _, _, .nil, e => by simp at e
  | _, _, _, 0, _, .cons r rs x y z, e => by simp at e; subst e; exact ⟨_, _, _, rfl, r, rs, x, y, z.symm⟩
  | _, _, _, j + 1, _, .cons r rs x y z, e => by
    obtain ⟨v, B1, B2, h1, h2, h3, l1, l2, dd⟩ := Reps.erase (j := j) rs (by simpa using e)
    exact ⟨v, B1, FP.or _ B2, by simpa using h1, h2, .cons r h3 le_l le_r (z.mono Le.refl l2), l1.trans y, fun a h => h.elim (x a) fun h => y a (l2 a h), fun a p q => p.elim (fun p => z a p (l1 a q)) fun p => dd a p q⟩
theorem Reps.ins {w : V} : ∀ {ds : List D} {vs : List V} {A : FP} {j : Nat}, Reps X.K X.mg I H ds vs A → Rep X.K X.mg I H d w B → Dis A B → Reps X.K X.mg I H (ds.take j ++ [d] ++ ds.drop j) (vs.take j ++ [w] ++ vs.drop j) (A.or B)
  | _, _, _, j, .nil, r, _ => by simp; exact .cons r .nil le_r no_le dis_no
  | _, _, _, 0, rs, r, dd => by simp; exact .cons r rs le_r le_l dd.symm
  | _, _, _, j + 1, .cons r0 rs x y z, r, dd => by
    have ih := Reps.ins (j := j) rs r (dd.mono y Le.refl)
    simp only [List.take_succ_cons, List.drop_succ_cons, List.cons_append]
    exact .cons r0 ih (x.trans le_l) (fun a h => h.elim (fun h => .inl (y a h)) .inr) fun a p q => q.elim (z a p) fun q => dd a (x a p) q
theorem Reps.app2 : ∀ {ds es : List D} {vs ws : List V} {A : FP}, Reps X.K X.mg I H ds vs A → Reps X.K X.mg I H es ws no → Reps X.K X.mg I H (ds ++ es) (vs ++ ws) A
  | _, _, _, _, _, .nil, r => r.mono no_le
  | _, _, _, _, _, .cons r0 rs x y z, r => .cons r0 (Reps.app2 rs r) x y z
/-- an owned list of slot i gives out its item j -/
theorem go_pop {xs : List D} {ws : List V} {a : Addr} {B0 : FP} {δ : Env} {σ : St} {F : FF} {io : Bool} (s : Stt X.K X.mg I H δ σ F) (e : δ[i]? = some ⟨io, false, .lst true xs⟩) (es : σ[i]? = some (some (.ref a))) (hA : F i a) (rs : Reps X.K X.mg I H xs ws B0) (hB : Le B0 (F i)) (nB : ¬ B0 a) (hj : xs[j]? = some d) :
    ∃ w B F2, ws[j]? = some w ∧ Go X.K X.mg I H δ σ F I (upd H a (.lst (ws.eraseIdx j))) (δ.set i ⟨io, false, .lst true (xs.eraseIdx j)⟩) σ F2 B ∧ Rep X.K X.mg I (upd H a (.lst (ws.eraseIdx j))) d w B := by
  obtain ⟨w, b1, b2, h1, h2, h3, l1, l2, dd⟩ := Reps.erase rs hj
  have n1 : ¬ b1 a := fun z => nB (l1 a z)
  have n2 : ¬ b2 a := fun z => nB (l2 a z)
  refine ⟨w, b1, _, h1, go_upd (sl := ⟨io, false, .lst true xs⟩) (a := a) (o := .lst (ws.eraseIdx j)) (v := .ref a) (A' := FP.or (fun b => b = a) b2) (B' := b1) (Go.refl s) e rfl es hA ?_ ?_ ?_ ?_, h2.updF n1⟩
  · intro b z
    rcases z with rfl | z
    · exact .inl hA
    · exact .inl (hB b (l2 b z))
  · exact fun b z => .inl (hB b (l1 b z))
  · intro b p q
    rcases p with rfl | p
    · exact n1 q
    · exact dd b p q
  · exact .lstO (B := b2) (.inl rfl) upd_same (h3.updF n2) le_r n2
def mPop : List D → Option (D × List D)
  | [.lst true xs] => match xs[xs.length - 1]? with
    | some d => some (d, [.lst true (xs.eraseIdx (xs.length - 1))])
    | none => none
  | _ => none
theorem snd_pop : SndU X (rMt rPop) mPop := by
  intro ds vs I H F Q res ds' s e hlen hq
  unfold mPop at e
  split at e
  · rename_i xs
    split at e
    · rename_i d hd
      cases e
      obtain ⟨v0, rfl⟩ := vs1 (u_len s)
      obtain ⟨_, e0, r0⟩ := u_rep s (k := 0) rfl
      cases e0
      cases r0 with
      | lstO hA h rs hB nB =>
        rename_i a ws B0
        have hl := rs.length
        obtain ⟨w, B, F2, h1, g, r⟩ := go_pop (i := 0) (io := true) s rfl rfl hA rs hB nB hd
        rw [hl] at h1
        refine ⟨a, ws, w, rfl, rfl, h, h1, ?_⟩
        have e : ws.dropLast = ws.eraseIdx (xs.length - 1) := by rw [hl]; exact List.eraseIdx_length_sub_one.symm
        rw [e]
        exact hq _ _ _ _ _ g r
    · cases e
  · cases e
def mPopAt : List D → Option (D × List D)
  | [.lst true xs, .int i] => match ixN xs.length i with
    | some j => match xs[j]? with
      | some d => if xs.length ≤ sizeLine then some (d, [.lst true (xs.eraseIdx j), .int i]) else none
      | none => none
    | none => none
  | _ => none
theorem snd_popAt : SndU X (rMt rPopAt) mPopAt := by
  intro ds vs I H F Q res ds' s e hlen hq
  unfold mPopAt at e
  split at e
  · rename_i xs i
    split at e
    · rename_i j hj
      split at e
      · rename_i d hd
        split at e
        · rename_i hz
          cases e
          obtain ⟨v0, v1, rfl⟩ := vs2 (u_len s)
          obtain ⟨_, e0, r0⟩ := u_rep s (k := 0) rfl
          obtain ⟨_, e1, r1⟩ := u_rep s (k := 1) rfl
          cases e0; cases e1
          cases r1
          cases r0 with
          | lstO hA h rs hB nB =>
            rename_i a ws B0
            have hl := rs.length
            obtain ⟨q1, q2, q3, q4⟩ := ixN_seq hj
            have hz' := line63
            obtain ⟨w, B, F2, h1, g, r⟩ := go_pop (i := 0) (io := true) s rfl rfl hA rs hB nB hd
            exact ⟨a, ws, i, j, w, rfl, rfl, h, by omega, by omega, by rw [← hl]; exact q1, h1, hq _ _ _ _ _ g r⟩
        · cases e
      · cases e
    · cases e
  · cases e
def mInsert : List D → Option (D × List D)
  | [.lst true xs, .int i, d] => if xs.length < sizeLine ∧ 0 ≤ i ∧ i < 2 ^ 63 then some (.non, [.lst true (xs.take i.toNat ++ [d] ++ xs.drop i.toNat), .int i, .hole]) else none
  | _ => none
abbrev rInsert : V → List V → Hp → VK → Prop := fun x vs H Q => ∃ (l : Addr) (xs : List V) (i : Int) (y : V), x = .ref l ∧ vs = [.int i, y] ∧ H l = some (.lst xs) ∧ xs.length < sizeLine ∧ 0 ≤ i ∧ i < 2 ^ 63 ∧
    Q .non (upd H l (.lst (xs.take i.toNat ++ [y] ++ xs.drop i.toNat)))
theorem snd_insert : SndU X (rMt rInsert) mInsert := by
  intro ds vs I H F Q res ds' s e hlen hq
  unfold mInsert at e
  split at e
  · rename_i xs i d
    split at e
    · rename_i hz
      cases e
      obtain ⟨v0, v1, v2, rfl⟩ := vs3 (u_len s)
      obtain ⟨_, e0, r0⟩ := u_rep s (k := 0) rfl
      obtain ⟨_, e1, r1⟩ := u_rep s (k := 1) rfl
      obtain ⟨_, e2, r2⟩ := u_rep s (k := 2) rfl
      cases e0; cases e1; cases e2
      cases r1
      cases r0 with
      | lstO hA h rs hB nB =>
        rename_i a ws B0
        have g1 := go_out (i := 2) s rfl rfl
        have n1 : ¬ F 2 a := fun z => s.dis 0 2 (by decide) a hA z
        have g2 := go_upd (i := 0) (a := a) (o := .lst (ws.take i.toNat ++ [v2] ++ ws.drop i.toNat)) (d := .lst true (xs.take i.toNat ++ [d] ++ xs.drop i.toNat)) (v := .ref a) (A' := (F 0).or (F 2)) (B' := no) g1 (show _ = some ⟨true, false, .lst true xs⟩ from rfl) rfl rfl (by rw [FF.set_ne (by decide)]; exact hA)
          (by rw [FF.set_ne (by decide)]; exact Le.refl) no_le dis_no
          (.lstO (B := B0.or (F 2)) (.inl hA) upd_same (Reps.ins (rs.updF nB) (r2.updF n1) fun b p q => s.dis 0 2 (by decide) b (hB b p) q) (fun b z => z.elim (fun z => .inl (hB b z)) .inr) fun z => z.elim nB n1)
        exact ⟨a, ws, i, v2, rfl, rfl, h, by rw [← rs.length]; exact hz.1, hz.2.1, hz.2.2, hq _ _ _ _ _ g2 .non⟩
    · cases e
  · cases e
end
end DL

set_option linter.all false
set_option autoImplicit false
namespace DL
open PySem PySem.Spec L2
open PyProof.Rows hiding St

section
variable {X : Cx} {W : WX} {I H I1 H1 I2 H2 : Hp} {δ δ1 δ2 : Env} {σ σ1 σ2 : St} {F F1 F2 : FF} {A B B1 B2 C : FP} {d x : D} {v w : V} {i j : Nat} {sl : Sl} {ds : List D} {vs : List V}

/-! ### an argument more, made on the way -/
def consF (A : FP) (F : FF) : FF := fun i => match i with
  | 0 => A
  | i + 1 => F i
theorem Stt.cons {H' : Hp} {A0 : FP} (s : Stt X.K X.mg I H δ σ F) (hx : ∀ a o, H a = some o → H' a = some o) (ho : Own I H' A0) (hd : ∀ i, Dis A0 (F i)) (r : Rep X.K X.mg I H' d v A0) :
    Stt X.K X.mg I H' (⟨true, false, d⟩ :: δ) (some v :: σ) (consF A0 F) := by
  refine ⟨s.sub.grow Sub.refl (fun a o e => hx a o (s.sub a o e)) (fun P ps e => hx P _ e) fun _ _ _ n => n, fun i => ?_, fun i j n => ?_, fun i sl e => ?_, fun i h => ?_, by simp [s.len]⟩
  · cases i with
    | zero => exact ho
    | succ i => exact fun a h => ⟨let ⟨o, e, t⟩ := (s.own i a h).1; ⟨o, hx a o e, t⟩, (s.own i a h).2⟩
  · cases i with
    | zero =>
      cases j with
      | zero => exact absurd rfl n
      | succ j => exact hd j
    | succ i =>
      cases j with
      | zero => exact (hd i).symm
      | succ j => exact s.dis i j fun z => n (by rw [z])
  · cases i with
    | zero => simp at e; subst e; exact .inr ⟨v, rfl, r⟩
    | succ i =>
      rcases s.rep i sl (by simpa using e) with z | ⟨w, h1, h2⟩
      · exact .inl z
      · exact .inr ⟨w, by simpa using h1, h2.frame Sub.refl fun a o _ e => hx a o e⟩
  · cases i with
    | zero => simp at h
    | succ i => exact s.emp i (by simpa using h)
theorem U_cons {A0 : FP} {s0 : Sl} (hl : s0.lk = false) {a : Addr} : U (s0 :: δ) (consF A0 F) a ↔ A0 a ∨ U δ F a := by
  constructor
  · rintro ⟨i, sl, e, l, z⟩
    cases i with
    | zero => exact .inl z
    | succ i => exact .inr ⟨i, sl, by simpa using e, l, z⟩
  · rintro (z | ⟨i, sl, e, l, z⟩)
    · exact ⟨0, s0, rfl, hl, z⟩
    · exact ⟨i + 1, sl, by simpa using e, l, z⟩
theorem Go.shift {A0 : FP} {I' H' : Hp} {δ' : Env} {σ' : St} {F' : FF} {B' : FP} {d' : D} (s : Stt X.K X.mg I H δ σ F) (hx : ∀ a o, H a = some o → H1 a = some o) (hA : ∀ a, A0 a → H a = none)
    (g : Go X.K X.mg I H1 (⟨true, false, d⟩ :: δ) (some v :: σ) (consF A0 F) I' H' (⟨true, false, d'⟩ :: δ') (some w :: σ') F' B') : Go X.K X.mg I H δ σ F I' H' δ' σ' (fun i => F' (i + 1)) (B'.or (F' 0)) := by
  have n1 : ∀ a, H1 a = none → H a = none := fun a h => by
    cases q : H a with
    | none => rfl
    | some o => rw [hx a o q] at h; cases h
  have u1 : ∀ a, U (⟨true, false, d'⟩ :: δ') F' a ↔ F' 0 a ∨ U δ' (fun i => F' (i + 1)) a := fun a => by
    have e : F' = consF (F' 0) (fun i => F' (i + 1)) := by funext i; cases i <;> rfl
    conv => lhs; rw [e]
    exact U_cons rfl
  refine ⟨⟨g.st.sub, fun i => g.st.own (i + 1), fun i j n => g.st.dis (i + 1) (j + 1) (by omega), fun i sl e => ?_, fun i h => g.st.emp (i + 1) (by simpa using h), by simpa using g.st.len⟩, ?_, g.own.or (g.st.own 0), fun i a x y => ?_, fun i sl e l => ?_, fun i sl e l => ?_, ?_⟩
  · rcases g.st.rep (i + 1) sl (by simpa using e) with z | ⟨w, h1, h2⟩
    · exact .inl z
    · exact .inr ⟨w, by simpa using h1, h2⟩
  · refine ⟨g.ev.inc, fun a o e n t => g.ev.out a o (hx a o e) (fun z => ?_) t, fun a ps e => g.ev.tb a ps (hx a _ e), fun a z => ?_, fun a z => ?_⟩
    · rcases (U_cons rfl).mp z with z | z
      · rw [hA a z] at e; cases e
      · exact n z
    · have : ((U (⟨true, false, d'⟩ :: δ') F').or B') a := by
        rcases z with z | z | z
        · exact .inl ((u1 a).mpr (.inr z))
        · exact .inr z
        · exact .inl ((u1 a).mpr (.inl z))
      rcases g.ev.foot a this with q | q
      · rcases (U_cons rfl).mp q with q | q
        · exact .inr (hA a q)
        · exact .inl q
      · exact .inr (n1 a q)
    · rcases g.ev.ice a z with q | q | q
      · exact .inl q
      · rcases (U_cons rfl).mp q with q | q
        · exact .inr (.inr (hA a q))
        · exact .inr (.inl q)
      · exact .inr (.inr (n1 a q))
  · exact y.elim (fun y => g.dis (i + 1) a x y) fun y => g.st.dis (i + 1) 0 (by omega) a x y
  · obtain ⟨a1, a2, a3⟩ := g.lk (i + 1) sl (by simpa using e) l
    exact ⟨by simpa using a1, a2, by simpa using a3⟩
  · have := g.io (i + 1) sl (by simpa using e) l
    simpa using this
  · have := g.fl
    simp only [List.map_cons, List.cons.injEq] at this
    exact this.2
/-! ### C(..) -/
def eMake (c : Str) (G : DFn) (dd : List D) (fa : AF) : EF := fun δ => (fa δ).bind fun os δ1 => match okS os, argL os δ1 with
  | true, some as => match G (⟨false, .ins true c [] []⟩ :: (as ++ ddA dd)) with
    | .ok .non (self :: ds) => .ok (.tmp self) (wrL os ds δ1)
    | .er x (_ :: ds) => .er x (wrL os ds δ1)
    | _ => .stk
  | _, _ => .stk
def tMakeSD (C : Addr) (sp : Sp) (dvs : List V) (E : St → XK) (t : TA) : TE := fun σ H Q => t σ H fun vs H1 => ∀ x dx, H1 x = none → H1 dx = none → dx ≠ x →
  sp (.ref x :: (vs ++ dvs)) (upd (upd H1 dx (.own x)) x (.ins C dx [])) (fun v H2 => v = .non ∧ Q (.ref x) H2) (E σ)
theorem se_make {c : Str} {Cc : Addr} {n m : Nat} {G : DFn} {dd : List D} {dvs : List V} {t : TA} {fa : AF} (hc : X.mg c = some (.ref Cc)) (hd : Dfl dd dvs X.K X.mg) (hm : Ar m fa) (hn : m + dvs.length + 1 = n) (h2 : SA X W t fa) :
    SE X W (tMakeSD Cc (spD X.K X.mg n G) dvs (WE W) t) (eMake c G dd fa) := by
  intro I H δ σ F Q s h
  refine h2 I H δ σ F _ s ?_
  unfold eMake at h
  cases q : fa δ with
  | stk => rw [q] at h; exact h.elim
  | er x δ' => rw [q] at h; exact h
  | ok os δ1 =>
    rw [q] at h
    intro vs I1 H1 F1 B go rs x dx hx hdx ne
    have hl := hm δ os δ1 q
    have hvl := rs.pt.1
    change EO X W I H δ σ F Q (match okS os, argL os δ1 with
      | true, some as => match G (⟨false, .ins true c [] []⟩ :: (as ++ ddA dd)) with
        | .ok .non (self :: ds) => .ok (.tmp self) (wrL os ds δ1)
        | .er x (_ :: ds) => .er x (wrL os ds δ1)
        | _ => .stk
      | _, _ => .stk) at h
    cases q1 : okS os with
    | false => rw [q1] at h; exact h.elim
    | true =>
      cases q2 : argL os δ1 with
      | none => rw [q1, q2] at h; exact h.elim
      | some as =>
        rw [q1, q2] at h
        obtain ⟨Fa, sa, k⟩ := call_ok go rs q1 q2
        obtain ⟨sa2, k2⟩ := go_args hd sa
        have hx2 : ∀ a o, H1 a = some o → upd (upd H1 dx (.own x)) x (.ins Cc dx []) a = some o := fun a o e => by
          rw [upd_ne (ne_of_none e hx), upd_ne (ne_of_none e hdx)]; exact e
        have hI : I1 x = none := by
          cases e : I1 x with
          | none => rfl
          | some o => rw [go.st.sub x o e] at hx; cases hx
        have own0 : Own I1 (upd (upd H1 dx (.own x)) x (.ins Cc dx [])) (fun a => a = x) := fun a e => by subst e; exact ⟨⟨_, upd_same, fun ps z => by cases z⟩, hI⟩
        have rep0 : Rep X.K X.mg I1 (upd (upd H1 dx (.own x)) x (.ins Cc dx [])) (.ins true c [] []) (.ref x) (fun a => a = x) := .insO (fvs := []) (B := no) rfl upd_same hc rfl .nil no_le fun z => z
        have dis0 : ∀ i, Dis (fun a => a = x) (Fa i) := fun i a e z => by
          subst e
          obtain ⟨⟨o, e, te⟩, _⟩ := sa2.own i _ z
          rw [hx] at e; cases e
        have s3 := sa2.cons (d := .ins true c [] []) (v := .ref x) hx2 own0 dis0 rep0
        refine ⟨by simp; omega, ⟨false, .ins true c [] []⟩ :: (as ++ ddA dd), I1, _, s3, ?_⟩
        simp only at h
        cases q3 : G (⟨false, .ins true c [] []⟩ :: (as ++ ddA dd)) with
        | stk => simp only [q3] at h; exact h.elim
        | ok r ds0 =>
          simp only [q3] at h
          cases r <;> (try exact h.elim)
          cases ds0 with
          | nil => exact h.elim
          | cons self ds =>
            simp only at h
            intro v I' H' F' B' g rr
            cases rr
            have g1 := Go.shift (d' := self) (δ' := dE (as ++ ddA dd) ds) sa2 hx2 (fun a e => by rw [e]; exact hx) g
            obtain ⟨Fb, g2⟩ := k2 I' H' ds _ _ g1
            obtain ⟨F2, g3, _⟩ := k I' H' ds Fb _ g2
            refine ⟨rfl, ?_⟩
            have rs0 : Rep X.K X.mg I' H' self (.ref x) (F' 0) := by
              rcases g.st.rep 0 ⟨true, false, self⟩ rfl with z | ⟨w, e1, e2⟩
              · have z' : self = .hole := z
                subst z'; exact .hole
              · cases e1; exact e2
            exact h (.ref x) I' H' F2 _ g3 (rs0.mono le_r)
        | er xx ds0 =>
          simp only [q3] at h
          cases ds0 with
          | nil => exact h.elim
          | cons self ds =>
            simp only at h
            intro cls dxx I' H' F' g rr
            have g1 := Go.shift (d' := self) (δ' := dE (as ++ ddA dd) ds) sa2 hx2 (fun a e => by rw [e]; exact hx) g
            obtain ⟨Fb, g2⟩ := k2 I' H' ds _ _ (g1.less no_le)
            obtain ⟨F2, g3, _⟩ := k I' H' ds Fb _ g2
            exact h cls dxx I' H' F2 g3 rr
end
section
variable {X : Cx} {W : WX} {CX : CXT} {k : Nat} {f C : Addr} {fd : FuncData} {ps : List Str} {sp : Sp} {dvs : List V} {ds : List Value} {E : St → XK} {x m : Str} {p pos apos : Pos} {e o : Expr} {es : List Expr} {ta : TE} {t : TA}
theorem run_mkSD {pins : List (Addr × Obj)} {σ : St} {H : Hp} {s : Shared} {Q : VK} {us : List Value} {vs : List V} (M : Mk X.K C f) (F : FnOk X.prog X.w X.K X.mg X.base CX k f fd ps sp) (hr : Room (k + 1) X.A) (hb : Binds X.K fd ps ds) (hd : Vals dvs ds) (hx : PassesAt CX X σ (E σ)) (I : Inv X pins σ H s) (r : Vals vs us)
    (h : ∀ y dy, H y = none → H dy = none → dy ≠ y → sp (.ref y :: (vs ++ dvs)) (upd (upd H dy (.own y)) y (.ins C dy [])) (fun v H2 => v = .non ∧ Q (.ref y) H2) (E σ)) : wpAny (model X.prog X.w) X.A (call (.ref C) us) (EP X pins σ Q) X.xe s := by
  have IM := Inv.made (C := C) I
  have hz := h _ _ (I.hok.fresh (Nat.le_succ _)) (I.hok.fresh (Nat.le_refl _)) (Nat.ne_of_lt (Nat.lt_succ_self _))
  have rv : Vals (V.ref (s.heap.objs.size + 1) :: (vs ++ dvs)) (Value.ref (s.heap.objs.size + 1) :: (us ++ ds)) := .cons rfl (r.append hd)
  have lv : (Value.ref (s.heap.objs.size + 1) :: us ++ ds).length = ps.length := rv.length.symm.trans (F.len _ _ _ _ hz)
  refine wpAny_call (make_map (f := f) I.kIn M.makes M.init (beq_iff_eq.mp M.fn) (codeAny_mono (F.run _ X.stack _ _ ⟨Value.ref (s.heap.objs.size + 1) :: us, []⟩ (Value.ref (s.heap.objs.size + 1) :: (us ++ ds)) _ _ (E σ) (hr.make C us []) (IM.env0.make C us []) (hb _ (Value.ref (s.heap.objs.size + 1) :: us) IM.kIn lv) rv hz) fun r s' q => ?_))
  match r, q with
  | .error e, q => exact hx pins _ _ e s' IM q
  | .ok (.ret u), q =>
    obtain ⟨v, H', I3, ru, ev, q3⟩ := IM.after q
    subst ev
    exact ⟨ru, ⟨V.ref (s.heap.objs.size + 1), H', I3, rfl, q3⟩⟩
theorem pe_mkSD (M : Mk X.K C f) (F : FnOk X.prog X.w X.K X.mg X.base CX k f fd ps sp) (hr : Room (k + 1) X.A) (hg : Gl X x) (hm : X.mg x = some (.ref C)) (hb : Binds X.K fd ps ds) (hd : Vals dvs ds) (hx : ∀ σ, PassesAt CX X σ (E σ)) (ha : PA X (e :: es) t)
    (hdb : (x == ("__debug__" : Str)) = false := by decide) (he : starEach (e :: es) X.env = (false, eval e X.env) :: starEach es X.env := by rfl) (hpl : (backTo pos (starEach es X.env)).any (·.1) = false := by rfl) : PE X (.Call (.Name x p) (e :: es) [] pos) (tMakeSD C sp dvs E t) :=
  ⟨fun pins s σ H Q I h => wpAny_Call_Name_kw (ld_glob I hg hm (PySem.W.callWith_K (h₀ := X.base) I.ok.mod.kin M.kp (thn (ha.run pos pins s σ H _ I h) fun us s1 ⟨vs, H1, I1, r, q⟩ => ⟨I1.kIn, run_mkSD M F hr hb hd (hx σ) I1 r q⟩) he hpl) hdb)⟩
/-- an instance of the class c that has no such attribute of its own -/
def chkI (c m : Str) : D → Bool
  | .ins _ c' fs _ => c' == c && !(fs.any fun f => f == m)
  | _ => false
def PI_ (C : Addr) (m : Str) (v : V) (H : Hp) : Prop := ∃ a dx fs, v = .ref a ∧ H a = some (.ins C dx fs) ∧ fs.lookup m = none
theorem lookup_none {m : Str} : ∀ {fs : List (Str × V)}, ((fs.map (·.1)).any fun f => f == m) = false → fs.lookup m = none
  | [], _ => rfl
  | (g, v) :: fs, h => by
    simp only [List.map_cons, List.any_cons, Bool.or_eq_false_iff] at h
    have hg : (m == g) = false := by
      have := h.1
      rw [beq_eq_false_iff_ne] at this ⊢
      exact fun z => this z.symm
    simp only [List.lookup, hg]
    exact lookup_none h.2
theorem chkI_ok {c : Str} (hc : X.mg c = some (.ref C)) : ∀ I H d v B, SubH X.K I H → Rep X.K X.mg I H d v B → chkI c m d = true → PI_ C m v H := by
  intro I H d v B hs r h
  cases r <;> simp only [chkI, Bool.false_eq_true, Bool.and_eq_true, beq_iff_eq, Bool.not_eq_true'] at h
  case insO e hc' hk rs hX hY hZ =>
    obtain ⟨rfl, h2⟩ := h
    rw [hc] at hc'; cases hc'
    subst hk
    exact ⟨_, _, _, rfl, e, lookup_none h2⟩
  case insF e hc' hk rs =>
    obtain ⟨rfl, h2⟩ := h
    rw [hc] at hc'; cases hc'
    subst hk
    exact ⟨_, _, _, rfl, hs _ _ e, lookup_none h2⟩
def tMethSD (C : Addr) (m : Str) (sp : Sp) (dvs : List V) (E : St → XK) (ta : TE) (t : TA) : TE := fun σ H Q => ta σ H fun x H1 => PI_ C m x H1 ∧ t σ H1 fun vs H2 => sp (x :: vs ++ dvs) H2 Q (E σ)
theorem pe_methSD {pl : Sem Bool} (he : PE X o ta) (c : Cls X.K C) (hm : Meth X.K C m f) (F : FnOk X.prog X.w X.K X.mg X.base CX k f fd ps sp) (hr : Room k X.A) (hb : Binds X.K fd ps ds) (hd : Vals dvs ds) (hx : ∀ σ, PassesAt CX X σ (E σ)) (ha : PA X (e :: es) t)
    (hst : starEach (e :: es) X.env = (false, eval e X.env) :: starEach es X.env := by rfl) (hpl : (backTo pos (starEach es X.env)).any (·.1) = false := by rfl)
    (ht : eval (.Call (.Attribute o m apos) (e :: es) [] pos) X.env = (do
      let z ← eval o X.env
      standAt apos.atName
      let (g, first) ← holding [z] (getMethod z m pl)
      callWith pos g first (backTo pos (starEach (e :: es) X.env)) (backToKw pos (keywordEach [] X.env))) := by rfl) :
    PE X (.Call (.Attribute o m apos) (e :: es) [] pos) (tMethSD C m sp dvs E ta t) := by
  constructor
  intro pins s σ H Q I h
  refine PySem.W.methodCall_KW (pl := pl) (thn (he.run pins s σ H _ I h) fun u s1 ⟨z, H1, I1, rz, ⟨a, dx, fs, ez, ea, l⟩, q⟩ => ?_) ht
  cases ez
  cases (show u = Value.ref a from rz)
  exact getmeth_ok I1 ea c hm l (PySem.W.callWith_K (first := [.ref a]) (h₀ := X.base) I.ok.mod.kin hm.kp (thn (ha.run pos pins s1 σ H1 _ I1 q) fun us s2 ⟨vs, H2, I2, r, q2⟩ => ⟨I2.kIn, run_fnSD (us := .ref a :: us) (vs := .ref a :: vs) F hr hb hd (hx σ) I2 (.cons rfl r) q2⟩) hst hpl)
theorem pe_methSD0 {pl : Sem Bool} (he : PE X o ta) (c : Cls X.K C) (hm : Meth X.K C m f) (F : FnOk X.prog X.w X.K X.mg X.base CX k f fd ps sp) (hr : Room k X.A) (hb : Binds X.K fd ps ds) (hd : Vals dvs ds) (hx : ∀ σ, PassesAt CX X σ (E σ))
    (ht : eval (.Call (.Attribute o m apos) [] [] pos) X.env = (do
      let z ← eval o X.env
      standAt apos.atName
      let (g, first) ← holding [z] (getMethod z m pl)
      callWith pos g first (backTo pos (starEach [] X.env)) (backToKw pos (keywordEach [] X.env))) := by rfl) :
    PE X (.Call (.Attribute o m apos) [] [] pos) (tMethSD C m sp dvs E ta tNil) := by
  constructor
  intro pins s σ H Q I h
  refine PySem.W.methodCall_KW (pl := pl) (thn (he.run pins s σ H _ I h) fun u s1 ⟨z, H1, I1, rz, ⟨a, dx, fs, ez, ea, l⟩, q⟩ => ?_) ht
  cases ez
  cases (show u = Value.ref a from rz)
  exact getmeth_ok I1 ea c hm l (PySem.W.callWith_K0 (first := [.ref a]) I1.kIn hm.kp (run_fnSD (us := [.ref a]) (vs := [.ref a]) F hr hb hd (hx σ) I1 (.cons rfl .nil) q))
end
section
variable {X : Cx} {W : WX} {k : Nat} {f C : Addr} {fd : FuncData} {ps : List Str} {dvs : List V} {dd : List D} {ds : List Value} {c x m : Str} {p pos apos : Pos} {e o : Expr} {es : List Expr} {fa : AF} {fo : EF} {n : Nat} {G : DFn}
theorem ar_consC {chk : D → Bool} {m : Nat} (h : Ar m fa) : Ar (m + 1) (eConsC chk fo fa) := fun δ os δ' e => by
  unfold eConsC at e
  cases q1 : fo δ with
  | stk => rw [q1] at e; cases e
  | er x δ1 => rw [q1] at e; cases e
  | ok o δ1 =>
    rw [q1] at e
    simp only [R.bind] at e
    split at e
    · split at e
      · cases q2 : fa (lockO o δ1) with
        | stk => rw [q2] at e; cases e
        | er x δ2 => rw [q2] at e; cases e
        | ok os' δ2 => rw [q2] at e; cases e; simp [h _ _ _ q2]
      · cases e
    · cases e
/-- o.m(e, ..) of an own class -/
theorem de_meth {m0 : Nat} {pl : Sem Bool} (Fn : FnOk X.prog X.w X.K X.mg X.base (L2.CX X.prog X.w) k f fd ps (spD X.K X.mg n G)) (hr : Room k X.A) (hc : X.mg c = some (.ref C)) (cl : Cls X.K C) (hm : Meth X.K C m f) (hb : Binds X.K fd ps ds) (hv : Vals dvs ds) (hd : Dfl dd dvs X.K X.mg) (tk : Takes X W)
    (ho : DE X W o fo) (ha : DA X W (e :: es) fa) (har : Ar m0 fa) (hn : m0 + 1 + dvs.length = n) (hst : starEach (e :: es) X.env = (false, eval e X.env) :: starEach es X.env := by rfl) (hpl : (backTo pos (starEach es X.env)).any (·.1) = false := by rfl)
    (ht : eval (.Call (.Attribute o m apos) (e :: es) [] pos) X.env = (do
      let z ← eval o X.env
      standAt apos.atName
      let (g, first) ← holding [z] (getMethod z m pl)
      callWith pos g first (backTo pos (starEach (e :: es) X.env)) (backToKw pos (keywordEach [] X.env))) := by rfl) :
    DE X W (.Call (.Attribute o m apos) (e :: es) [] pos) (eCall G dd (eConsC (chkI c m) fo fa)) :=
  let ⟨_, po, qo⟩ := ho; let ⟨_, pa, qa⟩ := ha
  ⟨_, pe_methSD (E := WE W) (pl := pl) po cl hm Fn hr hb hv (fun σ => passAt tk σ) pa hst hpl ht, se_call hd (ar_consC har) hn (sa_consC (chkI_ok hc) qo qa)⟩
theorem de_meth0 {pl : Sem Bool} (Fn : FnOk X.prog X.w X.K X.mg X.base (L2.CX X.prog X.w) k f fd ps (spD X.K X.mg n G)) (hr : Room k X.A) (hc : X.mg c = some (.ref C)) (cl : Cls X.K C) (hm : Meth X.K C m f) (hb : Binds X.K fd ps ds) (hv : Vals dvs ds) (hd : Dfl dd dvs X.K X.mg) (tk : Takes X W)
    (ho : DE X W o fo) (hn : 0 + 1 + dvs.length = n)
    (ht : eval (.Call (.Attribute o m apos) [] [] pos) X.env = (do
      let z ← eval o X.env
      standAt apos.atName
      let (g, first) ← holding [z] (getMethod z m pl)
      callWith pos g first (backTo pos (starEach [] X.env)) (backToKw pos (keywordEach [] X.env))) := by rfl) :
    DE X W (.Call (.Attribute o m apos) [] [] pos) (eCall G dd (eConsC (chkI c m) fo eNil)) :=
  let ⟨_, po, qo⟩ := ho
  ⟨_, pe_methSD0 (E := WE W) (pl := pl) po cl hm Fn hr hb hv (fun σ => passAt tk σ) ht, se_call hd (ar_consC ar_nil) hn (sa_consC (chkI_ok hc) qo (sa_nil (X := X) (W := W)))⟩
/-- C(e, ..) -/
theorem de_make {m0 : Nat} (M : Mk X.K C f) (Fn : FnOk X.prog X.w X.K X.mg X.base (L2.CX X.prog X.w) k f fd ps (spD X.K X.mg n G)) (hr : Room (k + 1) X.A) (hg : Gl X c) (hc : X.mg c = some (.ref C)) (hb : Binds X.K fd ps ds) (hv : Vals dvs ds) (hd : Dfl dd dvs X.K X.mg) (tk : Takes X W)
    (ha : DA X W (e :: es) fa) (har : Ar m0 fa) (hn : m0 + dvs.length + 1 = n) (hdb : (c == ("__debug__" : Str)) = false := by decide) (he : starEach (e :: es) X.env = (false, eval e X.env) :: starEach es X.env := by rfl) (hpl : (backTo pos (starEach es X.env)).any (·.1) = false := by rfl) :
    DE X W (.Call (.Name c p) (e :: es) [] pos) (eMake c G dd fa) :=
  let ⟨_, pa, qa⟩ := ha
  ⟨_, pe_mkSD (E := WE W) M Fn hr hg hc hb hv (fun σ => passAt tk σ) pa hdb he hpl, se_make hc hd har hn qa⟩
end
end DL

set_option linter.all false
set_option autoImplicit false
namespace DL
open PySem PySem.Spec L2
open PyProof.Rows hiding St

section
variable {X : Cx} {W : WX} {I H I1 H1 I2 H2 : Hp} {δ δ1 δ2 : Env} {σ σ1 σ2 : St} {F F1 F2 : FF} {A B B1 B2 : FP} {C : Addr} {d x : D} {v w : V} {i j : Nat} {sl : Sl} {ds : List D} {vs : List V} {c f : Str}

/-! ### o.f -/
def fldO (c f : Str) : D → Option Nat
  | .ins _ c' fs _ => if c' = c then fs.findIdx? (fun g => decide (g = f)) else none
  | _ => none
theorem lookup_at {w : V} : ∀ {fvs : List (Str × V)} {j : Nat}, (fvs.map (·.1)).findIdx? (fun g => decide (g = f)) = some j → (fvs.map (·.2))[j]? = some w → fvs.lookup f = some w
  | [], j, h, _ => by simp at h
  | (g, y) :: fvs, j, h, e => by
    rw [List.map_cons, List.findIdx?_cons] at h
    by_cases q : g = f
    · subst q
      simp at h; subst h
      simp at e; subst e
      simp [List.lookup]
    · simp only [q, decide_false, Bool.false_eq_true, if_false] at h
      cases z : List.findIdx? (fun g => decide (g = f)) (fvs.map (·.1)) with
      | none => rw [z] at h; simp at h
      | some j' =>
        rw [z] at h; simp at h; subst h
        have hb : (f == g) = false := by rw [beq_eq_false_iff_ne]; exact fun z => q z.symm
        simp only [List.lookup, hb]
        exact lookup_at z (by simpa using e)
theorem fld_node (hc : X.mg c = some (.ref C)) (hs : SubH X.K I H) (r : Rep X.K X.mg I H x v A) (e : fldO c f x = some j) (ed : x.kids[j]? = some d) :
    ∃ w, (∃ a dx fs, v = .ref a ∧ H a = some (.ins C dx fs) ∧ fs.lookup f = some w) ∧ Rep X.K X.mg I H d w A ∧ (isOwn x = true → Lens X.K X.mg I H (putAt x j) d v w A) := by
  cases x <;> (try (simp [fldO] at e; done))
  rename_i o c' fs xs
  simp only [fldO] at e
  split at e
  · rename_i hcc
    subst hcc
    cases o with
    | true =>
      have ra : ∃ a, v = .ref a := by cases r <;> exact ⟨_, rfl⟩
      obtain ⟨a, rfl⟩ := ra
      obtain ⟨C', dx, fvs, w, h1, h2, h3, h4, l⟩ := r.lensI ed
      rw [hc] at h2; cases h2
      have l' := l
      obtain ⟨B', C', rd, le, _⟩ := l'
      subst h3
      exact ⟨w, ⟨a, dx, fvs, rfl, h1, lookup_at e h4⟩, rd.mono le, fun _ => l⟩
    | false =>
      cases r with
      | insF h hc' hk rs =>
        rw [hc] at hc'; cases hc'
        subst hk
        obtain ⟨w, e1, rw_⟩ := rs.get ed
        exact ⟨w, ⟨_, _, _, rfl, hs _ _ h, lookup_at e e1⟩, rw_.mono no_le, fun z => nomatch z⟩
  · cases e
def eFld (c f : Str) (fo : EF) : EF := fun δ => (fo δ).bind fun o δ1 => match rdO o δ1 with
  | some x => match fldO c f x with
    | some j => pick o x j δ1
    | none => .stk
  | none => .stk
theorem se_fld {ta : TE} {fo : EF} (hc : X.mg c = some (.ref C)) (cl : Cls X.K C) (na : NoAttr X.K C f) (ho : SE X W ta fo) : SE X W (tFld X.K ta f) (eFld c f fo) := by
  intro I H δ σ F Q s h
  refine ho I H δ σ F _ s ?_
  unfold eFld at h
  cases q : fo δ with
  | stk => rw [q] at h; exact h.elim
  | er x δ' => rw [q] at h; exact h
  | ok o δ1 =>
    rw [q] at h
    intro v I1 H1 F1 B g r
    change EO X W I H δ σ F Q (match rdO o δ1 with
      | some x => match fldO c f x with
        | some j => pick o x j δ1
        | none => .stk
      | none => .stk) at h
    cases q2 : rdO o δ1 with
    | none => rw [q2] at h; exact h.elim
    | some x =>
      rw [q2] at h
      simp only at h
      cases q3 : fldO c f x with
      | none => rw [q3] at h; exact h.elim
      | some j =>
        rw [q3] at h
        obtain ⟨w, ⟨a, dx, fs, e1, e2, e3⟩, hq⟩ := pick_ok (P := fun w => ∃ a dx fs, v = .ref a ∧ H1 a = some (.ins C dx fs) ∧ fs.lookup f = some w) g r Le.refl q2 (fun A d rr ed => fld_node hc g.st.sub rr q3 ed) h
        exact ⟨a, C, dx, fs, w, e1, e2, cl, na, e3, hq⟩
theorem de_fld {o : Expr} {fo : EF} {pos : Pos} (hc : X.mg c = some (.ref C)) (cl : Cls X.K C) (na : NoAttr X.K C f) (ho : DE X W o fo) (hb : attributeBase o f X.env (eval o X.env) = eval o X.env := by rfl) : DE X W (.Attribute o f pos) (eFld c f fo) :=
  let ⟨_, p, q⟩ := ho; ⟨_, pe_fld p hb, se_fld hc cl na q⟩

/-! ### o.f = e -/
def rSetF (K : PySem.W.Frag) (f : Str) : List V → Hp → VK → Prop := fun vs H Q => match vs with
  | [y, x] => ∃ a C dx fs, x = .ref a ∧ H a = some (.ins C dx fs) ∧ Cls K C ∧ NoAttr K C f ∧ fs.length < 1000 ∧ Q .non (upd H a (.ins C dx (putF f y fs)))
  | _ => False
def mFld (c f : Str) : List D → Option (D × List D)
  | [d, .ins true c' fs xs] => if c' = c ∧ xs.length < 1000 then match fs.findIdx? (fun g => decide (g = f)) with
      | some j => some (.non, [.hole, .ins true c' fs (xs.set j d)])
      | none => some (.non, [.hole, .ins true c' (fs ++ [f]) (xs ++ [d])])
    else none
  | _ => none
theorem putF_at {y : V} : ∀ {fvs : List (Str × V)} {j : Nat}, (fvs.map (·.1)).findIdx? (fun g => decide (g = f)) = some j → (putF f y fvs).map (·.1) = fvs.map (·.1) ∧ (putF f y fvs).map (·.2) = (fvs.map (·.2)).set j y
  | [], j, h => by simp at h
  | (g, z) :: fvs, j, h => by
    rw [List.map_cons, List.findIdx?_cons] at h
    by_cases q : g = f
    · simp [q] at h; subst h
      simp [putF, q]
    · simp only [q, decide_false, Bool.false_eq_true, if_false] at h
      cases z : List.findIdx? (fun g => decide (g = f)) (fvs.map (·.1)) with
      | none => rw [z] at h; simp at h
      | some j' =>
        rw [z] at h; simp at h; subst h
        obtain ⟨h1, h2⟩ := putF_at (y := y) z
        simp only [putF, q, if_false, List.map_cons, h1, h2, List.set_cons_succ, and_self]
theorem putF_new {y : V} : ∀ {fvs : List (Str × V)}, (fvs.map (·.1)).findIdx? (fun g => decide (g = f)) = none → putF f y fvs = fvs ++ [(f, y)]
  | [], _ => rfl
  | (g, z) :: fvs, h => by
    rw [List.map_cons, List.findIdx?_cons] at h
    by_cases q : g = f
    · simp [q] at h
    · simp only [q, decide_false, Bool.false_eq_true, if_false] at h
      cases z : List.findIdx? (fun g => decide (g = f)) (fvs.map (·.1)) with
      | some j' => rw [z] at h; simp at h
      | none => simp only [putF, q, if_false, putF_new z, List.cons_append]
theorem snd_setF (hc : X.mg c = some (.ref C)) (cl : Cls X.K C) (na : NoAttr X.K C f) : SndU X (rSetF X.K f) (mFld c f) := by
  intro ds vs I H F Q res ds' s e hlen hq
  unfold mFld at e
  split at e
  · rename_i d c' fs xs
    split at e
    · rename_i cc
      obtain ⟨hcc, hz⟩ := cc
      subst hcc
      obtain ⟨v0, v1, rfl⟩ := vs2 (u_len s)
      obtain ⟨_, e0, r0⟩ := u_rep s (k := 0) rfl
      obtain ⟨_, e1, r1⟩ := u_rep s (k := 1) rfl
      cases e0; cases e1
      cases r1 with
      | insO hA h hc' hk rs hB nB =>
        rename_i a C' dx fvs B0
        rw [hc] at hc'; cases hc'
        have g1 := go_out (i := 0) s rfl rfl
        have n1 : ¬ F 0 a := fun z => s.dis 0 1 (by decide) a z hA
        have hl : fvs.length < 1000 := by have := rs.length; rw [List.length_map] at this; omega
        have fin : ∀ D2 : D, Rep X.K X.mg I (upd H a (.ins C dx (putF f v0 fvs))) D2 (.ref a) ((F 1).or (F 0)) → Go X.K X.mg I H (uE [d, .ins true c' fs xs]) ([v0, .ref a].map some) F I (upd H a (.ins C dx (putF f v0 fvs))) (uE [.hole, D2]) ([v0, .ref a].map some) ((F.set 0 no).set 1 ((F 1).or (F 0))) no := fun D2 rr =>
          go_upd (i := 1) (a := a) (o := .ins C dx (putF f v0 fvs)) (d := D2) (v := .ref a) (A' := (F 1).or (F 0)) (B' := no) g1 (show _ = some ⟨true, false, .ins true c' fs xs⟩ from rfl) rfl rfl (by rw [FF.set_ne (by decide)]; exact hA) (by rw [FF.set_ne (by decide)]; exact Le.refl) no_le dis_no rr
        cases q : fs.findIdx? (fun g => decide (g = f)) with
        | some j =>
          rw [q] at e; cases e
          subst hk
          obtain ⟨p1, p2⟩ := putF_at (y := v0) q
          exact ⟨a, C, dx, fvs, rfl, h, cl, na, hl, hq _ _ _ _ _ (fin _ (.insO (B := B0.or (F 0)) (.inl hA) upd_same hc p1 (by rw [p2]; exact Reps.setV (rs.updF nB) (r0.updF n1) fun b p q => s.dis 0 1 (by decide) b q (hB b p)) (fun b z => z.elim (fun z => .inl (hB b z)) .inr) fun z => z.elim nB n1)) .non⟩
        | none =>
          rw [q] at e; cases e
          subst hk
          have p := putF_new (y := v0) q
          exact ⟨a, C, dx, fvs, rfl, h, cl, na, hl, hq _ _ _ _ _ (fin _ (.insO (B := B0.or (F 0)) (.inl hA) upd_same hc (by rw [p, List.map_append]; rfl) (by rw [p, List.map_append]; exact Reps.snoc (rs.updF nB) (r0.updF n1) fun b p q => s.dis 0 1 (by decide) b q (hB b p)) (fun b z => z.elim (fun z => .inl (hB b z)) .inr) fun z => z.elim nB n1)) .non⟩
    · cases e
  · cases e
def sFldS (c f : Str) (fv fo : EF) : SF := fun δ => (eCall (liftG (mFld c f)) [] (eCons (eV fv) (eCons fo eNil)) δ).bindS fun _ δ1 => .nx δ1
theorem ds_fld {o e : Expr} {fo fe : EF} {tpos pos : Pos} (hc : X.mg c = some (.ref C)) (cl : Cls X.K C) (na : NoAttr X.K C f) (ho : DE X W o fo) (he : DE X W e fe) (hs : swapsWith e (some (.Attribute o f tpos)) pos.line X.env = pure false := by rfl) : DS X W (.Assign [.Attribute o f tpos] e pos) (sFldS c f fe fo) := by
  obtain ⟨to, po, qo⟩ := ho
  obtain ⟨te, pe, qe⟩ := he
  refine ⟨_, ps_fld po pe hs, fun I H δ σ F E s h => ?_⟩
  have key := se_callR (r := rSetF X.K f) (snd_setF hc cl na).snd (sa_cons (se_val qe) (sa_cons qo (sa_nil (X := X) (W := W)))) I H δ σ F (fun _ H' => E.nx σ H') s ?_
  · exact key
  · unfold sFldS at h
    cases q : eCall (liftG (mFld c f)) [] (eCons (eV fe) (eCons fo eNil)) δ with
    | stk => rw [q] at h; exact h.elim
    | er x δ' => rw [q] at h; exact ErS.o h
    | ok o δ1 => rw [q] at h; exact fun v I' H' F' B g _ => h I' H' σ F' (g.less no_le)
end
end DL

set_option linter.all false
set_option autoImplicit false
namespace DL
open PySem PySem.Spec L2
open PyProof.Rows hiding St

/-- a def of the text, called with its last arguments left out: their values dvs -/
structure DefOkB (P : Program) (w : World) (K : PySem.W.Frag) (mg : Str → Option Value) (base : Heap) (at_ : Str × Option Str) (lvl : Nat) (ps : List Str) (G : DFn) (dvs : List V) : Prop where
  ex : ∃ fd ds, FnOk P w K mg base (L2.CX P w) lvl (He.fAd K at_) fd ps (spD K mg ps.length G) ∧ Vals dvs ds ∧ Binds K fd ps ds
  kp : PySem.W.keepIn K (.ref (He.fAd K at_)) = true
theorem DefOk.b {P : Program} {w : World} {K : PySem.W.Frag} {mg : Str → Option Value} {base : Heap} {at_ : Str × Option Str} {lvl : Nat} {ps : List Str} {G : DFn} (h : DefOk P w K mg base at_ lvl ps G) : DefOkB P w K mg base at_ lvl ps G [] :=
  let ⟨fd, a, b⟩ := h.ex; ⟨⟨fd, [], a, .nil, b⟩, h.kp⟩
section
variable {X : Cx} {W : WX} {lvl : Nat} {ps : List Str} {G : DFn} {dvs : List V} {dd : List D} {x m c : Str} {p pos apos : Pos} {e o : Expr} {es : List Expr} {fa : AF} {fo : EF} {m0 : Nat}
theorem de_fnB (h : DefOkB X.prog X.w X.K X.mg X.base (x, none) lvl ps G dvs) (hd : Dfl dd dvs X.K X.mg) (hm : X.mg x = some (.ref (He.ga X.K x))) (hr : Room lvl X.A) (tk : Takes X W)
    (ha : DA X W (e :: es) fa) (ar : Ar m0 fa) (hn : m0 + dvs.length = ps.length := by rfl) (hg : Gl X x := by rfl) (hdb : (x == ("__debug__" : Str)) = false := by decide)
    (he : starEach (e :: es) X.env = (false, eval e X.env) :: starEach es X.env := by rfl) (hpl : (backTo pos (starEach es X.env)).any (·.1) = false := by rfl) :
    DE X W (.Call (.Name x p) (e :: es) [] pos) (eCall G dd fa) := by
  obtain ⟨fd, ds, Fn, hv, hb⟩ := h.ex
  exact de_call (m := m0) Fn hr hg hm h.kp hb hv hd tk ha ar hn hdb he hpl
theorem de_me {pl : Sem Bool} (h : DefOkB X.prog X.w X.K X.mg X.base (c, some m) lvl ps G dvs) (hd : Dfl dd dvs X.K X.mg) (hm : X.mg c = some (.ref (He.ga X.K c))) (cl : Cls X.K (He.ga X.K c)) (me : Meth X.K (He.ga X.K c) m (He.ma X.K (He.ga X.K c) m)) (hr : Room lvl X.A) (tk : Takes X W)
    (ho : DE X W o fo) (ha : DA X W (e :: es) fa) (ar : Ar m0 fa) (hn : m0 + 1 + dvs.length = ps.length := by rfl) (hst : starEach (e :: es) X.env = (false, eval e X.env) :: starEach es X.env := by rfl) (hpl : (backTo pos (starEach es X.env)).any (·.1) = false := by rfl)
    (ht : eval (.Call (.Attribute o m apos) (e :: es) [] pos) X.env = (do
      let z ← eval o X.env
      standAt apos.atName
      let (g, first) ← holding [z] (getMethod z m pl)
      callWith pos g first (backTo pos (starEach (e :: es) X.env)) (backToKw pos (keywordEach [] X.env))) := by rfl) :
    DE X W (.Call (.Attribute o m apos) (e :: es) [] pos) (eCall G dd (eConsC (chkI c m) fo fa)) := by
  obtain ⟨fd, ds, Fn, hv, hb⟩ := h.ex
  exact de_meth (pl := pl) Fn hr hm cl me hb hv hd tk ho ha ar hn hst hpl ht
theorem de_me0 {pl : Sem Bool} (h : DefOkB X.prog X.w X.K X.mg X.base (c, some m) lvl ps G dvs) (hd : Dfl dd dvs X.K X.mg) (hm : X.mg c = some (.ref (He.ga X.K c))) (cl : Cls X.K (He.ga X.K c)) (me : Meth X.K (He.ga X.K c) m (He.ma X.K (He.ga X.K c) m)) (hr : Room lvl X.A) (tk : Takes X W)
    (ho : DE X W o fo) (hn : 0 + 1 + dvs.length = ps.length := by rfl)
    (ht : eval (.Call (.Attribute o m apos) [] [] pos) X.env = (do
      let z ← eval o X.env
      standAt apos.atName
      let (g, first) ← holding [z] (getMethod z m pl)
      callWith pos g first (backTo pos (starEach [] X.env)) (backToKw pos (keywordEach [] X.env))) := by rfl) :
    DE X W (.Call (.Attribute o m apos) [] [] pos) (eCall G dd (eConsC (chkI c m) fo eNil)) := by
  obtain ⟨fd, ds, Fn, hv, hb⟩ := h.ex
  exact de_meth0 (pl := pl) Fn hr hm cl me hb hv hd tk ho hn ht
theorem de_mk (h : DefOkB X.prog X.w X.K X.mg X.base (c, some "__init__") lvl ps G dvs) (hd : Dfl dd dvs X.K X.mg) (hm : X.mg c = some (.ref (He.ga X.K c))) (M : Mk X.K (He.ga X.K c) (He.ma X.K (He.ga X.K c) "__init__")) (hr : Room (lvl + 1) X.A) (tk : Takes X W)
    (ha : DA X W (e :: es) fa) (ar : Ar m0 fa) (hn : m0 + dvs.length + 1 = ps.length := by rfl) (hg : Gl X c := by rfl) (hdb : (c == ("__debug__" : Str)) = false := by decide) (he : starEach (e :: es) X.env = (false, eval e X.env) :: starEach es X.env := by rfl) (hpl : (backTo pos (starEach es X.env)).any (·.1) = false := by rfl) :
    DE X W (.Call (.Name c p) (e :: es) [] pos) (eMake c G dd fa) := by
  obtain ⟨fd, ds, Fn, hv, hb⟩ := h.ex
  exact de_make M Fn hr hg hm hb hv hd tk ha ar hn hdb he hpl
/-- defaults that are None, truths, numbers, texts -/
def sc1 : D → V → Bool
  | .non, .non => true
  | .bl a, .bl b => a == b
  | .int a, .int b => a == b
  | .str a, .str b => a == b
  | _, _ => false
def scL : List D → List V → Bool
  | [], [] => true
  | d :: ds, v :: vs => sc1 d v && scL ds vs
  | _, _ => false
theorem dfl_sc : ∀ {dd : List D} {dvs : List V}, scL dd dvs = true → ∀ {K : PySem.W.Frag} {mg : Str → Option Value}, Dfl dd dvs K mg
  | [], [], _ => fun _ _ => .nil
  | d :: ds, v :: vs, h => fun I H => by
    simp only [scL, Bool.and_eq_true] at h
    refine .cons (B := no) (C := no) ?_ (dfl_sc h.2 I H) no_le no_le dis_no
    have h1 := h.1
    unfold sc1 at h1
    split at h1 <;> (try (rw [beq_iff_eq] at h1; subst h1)) <;> first | exact .non | exact .bl | exact .int | exact .str | cases h1
  | [], _ :: _, h => by simp [scL] at h
  | _ :: _, [], h => by simp [scL] at h
end
end DL

set_option linter.all false
set_option autoImplicit false
namespace DL
open PySem PySem.Spec L2
open PyProof.Rows hiding St

/-! ### texts in their order -/
def leS (x y : Str) : Bool := !ltCps y.cps.toList x.cps.toList
theorem leS_iff {x y : Str} : leS x y = true ↔ x.cps.toList ≤ y.cps.toList := by
  unfold leS
  rw [PyProof.Rows.ltCps_eq]
  simp
theorem leS_tot (x y : Str) : (leS x y || leS y x) = true := by
  rw [Bool.or_eq_true, leS_iff, leS_iff]; exact Std.le_total
theorem leS_trans (x y z : Str) (h1 : leS x y = true) (h2 : leS y z = true) : leS x z = true := by
  rw [leS_iff] at *; exact Std.le_trans h1 h2
theorem str_ext {x y : Str} (h : x.cps.toList = y.cps.toList) : x = y := by
  cases x; cases y; simp only at h; rw [Array.toList_inj] at h; rw [h]
theorem leS_anti {x y : Str} (h1 : leS x y = true) (h2 : leS y x = true) : x = y := by
  rw [leS_iff] at *; exact str_ext (Std.le_antisymm h1 h2)
def sortS (ks : List Str) : List Str := ks.mergeSort leS
theorem risingS_iff : ∀ (ss : List Str) (p : Str), risingS p ss = true ↔ (p :: ss).Pairwise fun x y => leS x y = true
  | [], p => by simp [risingS]
  | x :: r, p => by
    have ih := risingS_iff r x
    simp only [risingS, Bool.and_eq_true]
    rw [ih]
    constructor
    · rintro ⟨h1, h2⟩
      refine List.pairwise_cons.mpr ⟨fun y hy => ?_, h2⟩
      rcases List.mem_cons.mp hy with rfl | hm
      · exact h1
      · exact leS_trans _ _ _ h1 ((List.pairwise_cons.mp h2).1 y hm)
    · intro h
      have h' := List.pairwise_cons.mp h
      exact ⟨h'.1 x List.mem_cons_self, h'.2⟩
theorem sortS_of {ks ys : List Str} (hp : ys.Perm ks) (hs : sortedS ys = true) : ys = sortS ks := by
  have h1 : ys.Pairwise fun x y => leS x y = true := by
    cases ys with
    | nil => exact .nil
    | cons x r => exact (risingS_iff r x).mp hs
  have h2 : (sortS ks).Pairwise fun x y => leS x y = true := List.pairwise_mergeSort (fun a b c => leS_trans a b c) (fun a b => leS_tot a b) ks
  exact List.Perm.eq_of_pairwise (fun a b _ _ x y => leS_anti x y) h1 h2 (hp.trans (List.mergeSort_perm ks leS).symm)

/-! ### sorted(e.keys()) -/
def tSortK (te : TE) : TE := fun σ H Q => te σ H fun x H1 => ∃ (a : Addr) (kvs : List (Key × V)) (ks : List Str), x = .ref a ∧ Rd H1 a (.dK kvs) ∧ kvs.map (·.1) = ks.map Sum.inr ∧ ks.length < 64 ∧ ∀ p, H1 p = none → Q (.ref p) (upd H1 p (.lst ((sortS ks).map V.str)))
section
variable {X : Cx} {e : Expr} {te : TE} {p apos cpos pos : Pos}
open PySem.W in
/-- a view's keys, sorted -/
theorem sort_view {pins : List (Addr × Obj)} {σ : L2.St} {H : Hp} {s1 : Shared} {d : Addr} {kvs : List (Key × V)} {ks : List Str} {Q : VK} (hcalm : X.calm = true) (I1 : Inv X pins σ H s1) (hd : Rd H d (.dK kvs)) (hks : kvs.map (·.1) = ks.map Sum.inr) (h64 : ks.length < 64) (q : ∀ p, H p = none → Q (.ref p) (upd H p (.lst ((sortS ks).map V.str)))) :
    wpAny (model X.prog X.w) X.A (call (.builtin "sorted") [.ref s1.heap.objs.size]) (EP X pins σ Q) X.xe { s1 with heap := s1.heap.push { cls := .type "dict_keys", data := .fields #[.ref d] } } := by
  obtain ⟨zz, low, vs, rel, dd⟩ := dk_rd I1.hok hd
  obtain ⟨ep, at0⟩ := dd.dictAt
  have kk : vs.map (·.1) = ks.map Sum.inr := rel.keys.symm.trans hks
  have len : vs.length = ks.length := by simpa using congrArg List.length kk
  have len16 : vs.length ≤ sizeLine := by rw [len, sizeLine_eq]; omega
  have J : Inv X pins σ H { s1 with heap := s1.heap.push { cls := .type "dict_keys", data := .fields #[.ref d] } } := I1.kept (t' := s1.toks) fun b ob z => Heap.get?_push_of_some _ z
  refine Calls.call_function_entry PyProof.Rows.kind_sorted PyProof.Rows.plain_sorted PyProof.Rows.entry_sorted (PyProof.Rows.args_sorted1 _) ?_
  unfold Builtin.«sorted»
  refine wpAny_bind (m := checkCount "sorted" 1 1 _) (wpAny_pure (wpAny_bind (kdu_collect (A := X.A.in1) (kdl_keys (knd := mixKind X.prog X.w) (kvs := vs) (ep := ep) (d := d)) (J.ok.hd hcalm) ⟨⟨_, Heap.get?_push_size _ rfl, rfl, rfl⟩, at0.push _⟩ len16 fun h2 tk acc keep2 got => ?_)))
  have la : acc.toList.length = ks.length := by rw [Array.length_toList, got.1, len]
  have sa : StrsAre acc.toList ks := strs_at la fun j v ej => by
    obtain ⟨k, y, e1, e2⟩ := got.2 j v (by rw [← Array.getElem?_toList]; exact ej)
    have e3 : (ks.map Sum.inr)[j]? = some k := by rw [← kk, List.getElem?_map, e1]; all_goals rfl
    rw [List.getElem?_map] at e3
    cases e4 : ks[j]? with
    | none => rw [e4] at e3; cases e3
    | some y' =>
      rw [e4] at e3
      cases (show Sum.inr y' = k from Option.some.inj e3)
      obtain ⟨t, ev⟩ := Value.isStrOf_shape (x := y') (v := v) e2
      exact ⟨y', t, rfl, ev⟩
  have J2 := J.kept (t' := tk) keep2
  refine wpAny_bind (wpAny_newList ?_ (by rw [la, sizeLine_eq]; omega))
  have ol : (h2.push (seqObj "list" acc.toList.toArray 0)).get? h2.objs.size = some (seqObj "list" acc.toList.toArray 0) := Heap.get?_push_size _ rfl
  show wpAny _ _ _ _ _ { s1 with heap := h2.push (seqObj "list" acc.toList.toArray 0), toks := tk }
  refine wpAny_bind (wpAny_holding (wpAny_call_entry PyProof.Rows.slot_list_sort ⟨_, ol, rfl⟩ PyProof.Rows.entry_list_sort (list_sort_treeK strKind_oneLt (s := { s1 with heap := h2.push (seqObj "list" acc.toList.toArray 0), toks := tk }) ol sa.keysOf (fun v₁ v₂ rest e => keyKind_strs (by rw [← e]; exact sa)) (by rw [la]; exact h64) fun st' hp hs => ⟨_, rfl, ?_⟩) (PyProof.Rows.args_list_sort _)))
  obtain ⟨ys, g1, g2, g3⟩ := sorted_out_str sa hp hs
  have ysE := sortS_of g2 g3
  obtain ⟨e', he'⟩ := PyProof.Rows.sortedHeap_at (vs := acc.toList) (out := (arrOf st').map (·.2)) ol
  have lz : (ys.map V.str).length ≤ sizeLine := by rw [List.length_map, g2.length_eq, sizeLine_eq]; omega
  have qq := q h2.objs.size (J2.hok.fresh (Nat.le_refl _))
  rw [← ysE] at qq
  refine wpAny_pure ⟨_, rfl, .ref h2.objs.size, upd H h2.objs.size (.lst (ys.map V.str)), J2.laid (t' := tk) (fun b u ez => ?_) (Nat.le_refl _) (show ObjOk X.prog X.w _ _ _ (.lst (ys.map V.str)) from ⟨lz, ((arrOf st').map (·.2)).toList, e', vals_of_strs g1, by rw [Array.toArray_toList]; exact he'⟩), rfl, qq⟩
  have hb : b < h2.objs.size := Heap.lt_size ez
  rw [PyProof.Rows.sortedHeap_old (Nat.ne_of_lt hb) (by rw [size_push']; exact Nat.lt_succ_of_lt hb)]; exact Heap.get?_push_of_some _ ez
theorem pe_sortK (hcalm : X.calm = true) (he : PE X e te) (hg : Gl X "sorted") (hm : X.mg "sorted" = none) (hv : bootBuiltins "sorted" = some (.builtin "sorted")) (hbase : attributeBase e "keys" X.env (eval e X.env) = eval e X.env := by rfl) (hline : (apos.endLine == cpos.line) = true := by rfl)
    (hs : starEach [.Call (.Attribute e "keys" apos) [] [] cpos] X.env = (false, eval (.Call (.Attribute e "keys" apos) [] [] cpos) X.env) :: starEach [] X.env := by rfl) : PE X (.Call (.Name "sorted" p) [.Call (.Attribute e "keys" apos) [] [] cpos] [] pos) (tSortK te) := by
  constructor
  intro pins s σ H Q I hq
  refine wpAny_Call_Name_kw (ld_blt I hg hm hv (PyProof.Rows.callWith_builtin1 ?_ hs rfl))
  rw [hs]
  show wpAny _ _ (spliced ((false, eval (.Call (.Attribute e "keys" apos) [] [] cpos) X.env) :: backTo pos (starEach [] X.env))) _ _ s
  refine Calls.spliced_cons (wpAny_Call_method (T := "dict") (id := "dict.keys") hbase rfl hline PySem.F.plainAttrs_dict PySem.F.slot_dict_keys PySem.F.type_dict_keys (thn (he.run pins s σ H _ I hq) fun u s1 ⟨x, H1, I1, rx, d, kvs, ks, ex, hd, hks, h64, q⟩ => ?_))
  subst ex
  cases (show u = Value.ref d from rx)
  obtain ⟨zz, low, vs, rel, dd⟩ := dk_rd I1.hok hd
  refine ⟨dd.typeIs, dd.mapOf.noDict, ?_⟩
  show wpAny _ _ (callWith cpos (.builtin "dict.keys") [.ref d] [] []) _ X.xe s1
  exact method_meetsIn PySem.F.slot_dict_keys PySem.F.entry_dict_keys rfl (PySem.evalArgs_none ⟨rfl, dd.typeIs, PySem.F.args_dict_keys_1 _, _, PySem.W.kdl_meets_keys (mixKind X.prog X.w) d low, ⟨vs, dd⟩, Calls.spliced_nil (sort_view hcalm I1 hd hks h64 q)⟩)
end
end DL

set_option linter.all false
set_option autoImplicit false
namespace DL
open PySem PySem.Spec L2
open PyProof.Rows hiding St

section
variable {X : Cx} {W : WX} {I H I1 H1 I2 H2 : Hp} {δ δ1 δ2 : Env} {σ σ1 σ2 : St} {F F1 F2 : FF} {A B B1 B2 C : FP} {d x : D} {v w : V} {i j : Nat} {sl : Sl} {ds : List D} {vs : List V}

/-! ### sorted(d.keys()) -/
def keyStrs : List KD → Option (List Str)
  | [] => some []
  | .s x :: ks => (keyStrs ks).map (x :: ·)
  | _ => none
theorem keyStrs_inr : ∀ {kvs : List (Key × V)} {ss : List Str}, keyStrs (kvs.map fun p => kdK p.1) = some ss → kvs.map (·.1) = ss.map Sum.inr
  | [], ss, h => by simp [keyStrs] at h; subst h; rfl
  | (.inr x, y) :: kvs, ss, h => by
    have h : (keyStrs (kvs.map fun p => kdK p.1)).map (x :: ·) = some ss := h
    cases q : keyStrs (kvs.map fun p => kdK p.1) with
    | none => rw [q] at h; simp at h
    | some r =>
      rw [q] at h; simp at h; subst h
      simp only [List.map_cons, keyStrs_inr q]
  | (.inl n, y) :: kvs, ss, h => by simp [kdK, keyStrs] at h
def gSortK : D → Option D
  | .dic _ ks _ => match keyStrs ks with
    | some ss => if ss.length < 64 then some (.lst true ((sortS ss).map .str)) else none
    | none => none
  | _ => none
def rSortK : List V → Hp → VK → Prop := fun vs H1 Q => match vs with
  | [x] => ∃ (a : Addr) (kvs : List (Key × V)) (ks : List Str), x = .ref a ∧ Rd H1 a (.dK kvs) ∧ kvs.map (·.1) = ks.map Sum.inr ∧ ks.length < 64 ∧ ∀ p, H1 p = none → Q (.ref p) (upd H1 p (.lst ((sortS ks).map V.str)))
  | _ => False
theorem reps_strs {K : PySem.W.Frag} {mg : Str → Option Value} {I H : Hp} : ∀ ss : List Str, Reps K mg I H (ss.map .str) (ss.map V.str) no
  | [] => .nil
  | s :: ss => .cons (B := no) (C := no) .str (reps_strs ss) no_le no_le dis_no
theorem snd_sortK : Snd X rSortK (g1L gSortK) := Snd1.snd (by
  intro I H x d1 d B1 Q hs r1 o1 e hq
  cases d1 <;> simp only [gSortK, reduceCtorEq] at e
  rename_i o ks xs
  cases q : keyStrs ks with
  | none => rw [q] at e; cases e
  | some ss =>
    rw [q] at e
    simp only at e
    split at e
    · rename_i hl
      cases e
      have fin : ∀ (a : Addr) (kvs : List (Key × V)), x = .ref a → Rd H a (.dK kvs) → kvs.map (fun p => kdK p.1) = ks → rSortK [x] H Q := fun a kvs ea hr hk => by
        subst hk
        refine ⟨a, kvs, ss, ea, hr, keyStrs_inr q, hl, fun p hp => ?_⟩
        obtain ⟨B, n⟩ := newV_lst (X := X) hs hp (reps_strs (K := X.K) (mg := X.mg) (I := I) (H := H) (sortS ss))
        exact hq _ _ _ _ n
      have noT : ∀ kvs : List (List Key × V), kvs.map (fun p => KD.t p.1) = ks → ks ≠ [] → False := fun kvs hk hn => by
        cases kvs with
        | nil => exact hn hk.symm
        | cons p kvs => rw [← hk] at q; simp [keyStrs] at q
      cases r1 with
      | dicKO hA h hk nd rs hB nB => exact fin _ _ rfl (.inl h) hk
      | dicKF h hk nd rs => exact fin _ _ rfl (.inl (hs _ _ h)) hk
      | dicTO hA h hk nd rs hB nB => exact (noT _ hk nd.2).elim
      | dicTF h hk nd rs => exact (noT _ hk nd.2).elim
    · cases e)
theorem de_sortK {e : Expr} {fe : EF} {p apos cpos pos : Pos} (hc : X.calm = true) (he : DE X W e fe) (hm : X.mg "sorted" = none) (hg : Gl X "sorted" := by rfl) (hv : bootBuiltins "sorted" = some (.builtin "sorted") := by decide +kernel) (hbase : attributeBase e "keys" X.env (eval e X.env) = eval e X.env := by rfl) (hline : (apos.endLine == cpos.line) = true := by rfl)
    (hs : starEach [.Call (.Attribute e "keys" apos) [] [] cpos] X.env = (false, eval (.Call (.Attribute e "keys" apos) [] [] cpos) X.env) :: starEach [] X.env := by rfl) : DE X W (.Call (.Name "sorted" p) [.Call (.Attribute e "keys" apos) [] [] cpos] [] pos) (eRd (g1L gSortK) (eCons fe eNil)) := by
  obtain ⟨t, pt, qt⟩ := he
  refine ⟨_, pe_sortK hc pt hg hm hv hbase hline hs, fun I H δ σ F Q s h => ?_⟩
  exact se_rd (r := rSortK) snd_sortK (sa_cons qt (sa_nil (X := X) (W := W))) I H δ σ F Q s h

/-! ### int(x) -/
def gIntOf : D → Option D
  | .int i => some (.int i)
  | .bl b => some (.int (if b then 1 else 0))
  | _ => none
theorem snd_intOf : Snd X (fun xs H Q => (∃ i, xs = [.int i] ∧ Q (.int i) H) ∨ ∃ k, xs = [.bl k] ∧ Q (.int (if k then 1 else 0)) H) (g1L gIntOf) := Snd1.snd (by
  intro I H x d1 d B1 Q hs r1 o1 e hq
  cases r1 <;> simp only [gIntOf, reduceCtorEq, Option.some.injEq] at e
  case int => subst e; exact .inl ⟨_, rfl, hq _ I H no (NewV.same hs .int)⟩
  case bl => subst e; exact .inr ⟨_, rfl, hq _ I H no (NewV.same hs .int)⟩)

/-! ### x[::-1] -/
def gRevL : D → Option D
  | .lst _ ds => if ices ds = true then some (.lst true ds.reverse) else none
  | _ => none
def rRevV (K : PySem.W.Frag) : List V → Hp → VK → Prop := fun vs H1 Q => match vs with
  | [x] => ∃ a xs, x = .ref a ∧ SqL K H1 a xs ∧ ∀ p, H1 p = none → Q (.ref p) (upd H1 p (.lst xs.reverse))
  | _ => False
theorem snd_revL : Snd X (rRevV X.K) (g1L gRevL) := Snd1.snd (by
  intro I H x d1 d B1 Q hs r1 o1 e hq
  cases d1 <;> simp only [gRevL, reduceCtorEq] at e
  split at e
  · rename_i o ds hi
    cases e
    obtain ⟨a, vs, rfl, h1, rs⟩ := rep_sqL hs r1
    refine ⟨a, vs, rfl, h1, fun p hp => ?_⟩
    obtain ⟨B, n⟩ := newV_lst hs hp (Reps.rev0 (rs.ice hi))
    exact hq _ _ _ _ n
  · cases e)
theorem de_revL {e : Expr} {fe : EF} {k : Nat} {p1 p2 p3 pos : Pos} (he : DE X W e fe) : DE X W (.Subscript e (.Slice none none (some (.UnaryOp .USub (.Constant (.int 1) k p1) p2)) p3) pos) (eRd (g1L gRevL) (eCons fe eNil)) := by
  obtain ⟨t, pt, qt⟩ := he
  exact ⟨_, pe_revL pt, fun I H δ σ F Q s h => se_rd (r := rRevV X.K) snd_revL (sa_cons qt (sa_nil (X := X) (W := W))) I H δ σ F Q s h⟩

/-! ### a, b = e -/
theorem put_go (g : Go X.K X.mg I H δ σ F I1 H1 δ1 σ1 F1 B) (r : Rep X.K X.mg I1 H1 d v B1) (l1 : Le B1 B) (l2 : Le C B) (dc : Dis B1 C) (e : setN i d δ1 = some δ2) : Go X.K X.mg I H δ σ F I1 H1 δ2 (σ1.set i (some v)) (F1.set i B1) C := by
  have go1 : ∃ s0 : Sl, δ1[i]? = some s0 ∧ s0.io = false ∧ s0.lk = false ∧ δ2 = δ1.set i ⟨false, false, d⟩ := by
    unfold setN at e
    cases q : δ1[i]? with
    | none => rw [q] at e; cases e
    | some s0 =>
      rw [q] at e
      obtain ⟨io, lk, d0⟩ := s0
      cases io <;> cases lk <;> simp only [reduceCtorEq, Option.some.injEq] at e
      exact ⟨_, rfl, rfl, rfl, e.symm⟩
  obtain ⟨s0, q, hio, hlk, rfl⟩ := go1
  have hi1 := (List.getElem?_eq_some_iff.mp q).1
  have hi : i < σ1.length := by rw [← g.st.len]; exact hi1
  refine ⟨g.st.put hi1 (.inr ⟨v, by rw [List.getElem?_set_self hi], r⟩) (g.own.mono l1) (fun j _ => fun a x y => g.dis j a x (l1 a y)) (fun j n => by rw [List.getElem?_set_ne (Ne.symm n)]) (by simp), ?_, g.own.mono l2, fun j => ?_, fun j s1 e0 l0 => ?_, fun j s1 e0 l0 => ?_, ?_⟩
  · refine g.ev.mono Le.refl fun a z => .inl ?_
    rcases z with ⟨j, s1, ej, lj, z⟩ | z
    · by_cases q2 : j = i
      · subst q2; rw [FF.set_same] at z; exact .inr (l1 a z)
      · rw [FF.set_ne q2] at z
        rw [List.getElem?_set_ne (Ne.symm q2)] at ej
        exact .inl ⟨j, s1, ej, lj, z⟩
    · exact .inr (l2 a z)
  · by_cases q2 : j = i
    · subst q2; rw [FF.set_same]; exact dc
    · rw [FF.set_ne q2]; exact fun a x y => g.dis j a x (l2 a y)
  · obtain ⟨a1, a2, a3⟩ := g.lk j s1 e0 l0
    have n : j ≠ i := fun z => by subst z; rw [q] at a1; cases a1; rw [hlk] at l0; cases l0
    exact ⟨by rw [List.getElem?_set_ne (Ne.symm n)]; exact a1, by rw [FF.set_ne n]; exact a2, by rw [List.getElem?_set_ne (Ne.symm n)]; exact a3⟩
  · have n : j ≠ i := fun z => by
      subst z
      obtain ⟨s', e', f1, f2⟩ := fl_some g.fl q
      rw [e0] at e'; cases e'
      rw [l0] at f1; rw [← f1] at hio; cases hio
    rw [List.getElem?_set_ne (Ne.symm n)]
    exact g.io j s1 e0 l0
  · rw [← g.fl, List.map_set]
    refine List.ext_getElem? fun j => ?_
    by_cases q2 : j = i
    · subst q2
      rw [List.getElem?_set_self (by simpa using hi1), List.getElem?_map, q]
      simp [Sl.fl, hio, hlk]
    · rw [List.getElem?_set_ne (Ne.symm q2)]
def setNs : List Nat → List D → Env → Option Env
  | [], [], δ => some δ
  | i :: is, d :: ds, δ => match setN i d δ with
    | some δ1 => setNs is ds δ1
    | none => none
  | _, _, _ => none
def gNames : List Nat → TGs
  | [] => gNil
  | i :: is => gCons (gName i) (gNames is)
theorem sets_ok {Q : St → Hp → Prop} : ∀ {is : List Nat} {ds : List D} {vs : List V} {δ1 δ2 : Env} {σ1 : St} {F1 : FF} {B : FP}, Go X.K X.mg I H δ σ F I1 H1 δ1 σ1 F1 B → Reps X.K X.mg I1 H1 ds vs B → setNs is ds δ1 = some δ2 → NxS X Q I H δ σ F δ2 → gNames is vs σ1 H1 Q ∧ vs.length = is.length
  | [], [], _, δ1, δ2, _, _, _, g, .nil, e, h => by
    cases e
    exact ⟨⟨rfl, h _ _ _ _ (g.less no_le)⟩, rfl⟩
  | i :: is, d :: ds, _, δ1, δ2, σ1, F1, B, g, .cons r rs x y z, e, h => by
    simp only [setNs] at e
    cases q : setN i d δ1 with
    | none => rw [q] at e; cases e
    | some δ3 =>
      rw [q] at e
      have g2 := put_go g r x y z q
      obtain ⟨a, b⟩ := sets_ok g2 rs e h
      exact ⟨⟨_, _, rfl, a⟩, by simp [b]⟩
  | [], _ :: _, _, _, _, _, _, _, _, _, e, _ => by simp [setNs] at e
  | _ :: _, [], _, _, _, _, _, _, _, _, e, _ => by simp [setNs] at e
def sTupS (is : List Nat) (f : EF) : SF := fun δ => (eV f δ).bindS fun o δ1 => match o with
  | .tmp (.tup ds) => match setNs is ds δ1 with
    | some δ2 => .nx δ2
    | none => .stk
  | _ => .stk
def DNs (X : Cx) (es : List Expr) (is : List Nat) : Prop := PGs X es (gNames is)
theorem dns_nil : DNs X [] [] := pgs_nil
theorem dns_cons {i : Nat} {is : List Nat} {x : Str} {p : Pos} {es : List Expr} (hN : X.N.Nodup) (hi : X.N[i]? = some x) (hx : Loc X.env.scope x) (h : DNs X es is)
    (hs : (assignEach (.Name x p :: es) X.env).map (·.2) = assign (.Name x p) X.env :: (assignEach es X.env).map (·.2) := by rfl) (hf : X.fn x = true ∨ X.env.scope.names.lookup x = some .local := by first | exact .inl rfl | exact .inr rfl | assumption) : DNs X (.Name x p :: es) (i :: is) := pgs_cons (pg_name hN hi hx hf) h hs
theorem ds_tup {es : List Expr} {is : List Nat} {k : Nat} {tpos pos : Pos} {e : Expr} {f : EF} (hc : X.calm = true) (hn : DNs X es is) (he : DE X W e f) (hs : swapsWithSole [.Tuple es k tpos] e pos.line X.env = pure false := by rfl) (hw : swappedStores [.Tuple es k tpos] e X.env = pure none := by rfl)
    (h1 : (assignEach [.Tuple es k tpos] X.env).map (·.2) = [assign (.Tuple es k tpos) X.env] := by rfl) (hl : (assignEach es X.env).length = is.length := by rfl) (hst : (assignEach es X.env).findIdx? (·.1) = none := by rfl) : DS X W (.Assign [.Tuple es k tpos] e pos) (sTupS is f) := by
  obtain ⟨t, p, q⟩ := he
  refine ⟨_, ps_asg p (pg_tup hc hn hl hst) hs hw h1, fun I H δ σ F E s h => ?_⟩
  unfold sTupS at h
  refine sv_ok (Q := fun x σH => gTup X.K is.length (gNames is) x σ σH E.nx) q s (fun d δ' e => ?_) (fun x δ' e => ?_) fun e => ?_
  · rw [e] at h
    intro v I' H' F' B g r
    cases d <;> (try exact h.elim)
    rename_i ds
    change SO X W E I H δ σ F (match setNs is ds δ' with | some δ2 => .nx δ2 | none => .stk) at h
    cases q2 : setNs is ds δ' with
    | none => rw [q2] at h; exact h.elim
    | some δ2 =>
      rw [q2] at h
      cases r with
      | tup ha rs =>
        obtain ⟨a, b⟩ := sets_ok g rs q2 h
        exact ⟨_, _, rfl, SqT.of (g.st.sub _ _ ha), b, a⟩
  · rw [e] at h; exact ErS.o h
  · rw [e] at h; exact h.elim
end
end DL

set_option linter.all false
set_option autoImplicit false
namespace DL
open PySem PySem.Spec L2
open PyProof.Rows hiding St

section
variable {X : Cx} {W : WX} {I H I1 H1 I2 H2 : Hp} {δ δ1 δ2 : Env} {σ σ1 σ2 : St} {F F1 F2 : FF} {A B B1 B2 C : FP} {d x : D} {v w : V} {i j : Nat} {sl : Sl} {ds : List D} {vs : List V}
/-! ### k in d -/
def rInDict : R2 := fun x y H Q => ∃ a o, y = .ref a ∧ DGet H a x o ∧ Q (.bl o.isSome) H
def rNotInDict : R2 := fun x y H Q => ∃ a o, y = .ref a ∧ DGet H a x o ∧ Q (.bl !o.isSome) H
theorem op_inDict (hu : X.A.units + 1 < cLine) : OpR X (compareOp .In) rInDict := by
  rintro pins s σ H x y v u Q I rx ry ⟨a, o, ey, g, q⟩
  subst ey
  cases (show u = Value.ref a from ry)
  exact d_in hu I g rx fun s' I' => ⟨.bl o.isSome, H, I', rfl, q⟩
theorem op_notInDict (hu : X.A.units + 1 < cLine) : OpR X (compareOp .NotIn) rNotInDict := by
  rintro pins s σ H x y v u Q I rx ry ⟨a, o, ey, g, q⟩
  subst ey
  cases (show u = Value.ref a from ry)
  exact d_notIn hu I g rx fun s' I' => ⟨.bl (!o.isSome), H, I', rfl, q⟩
def inDic : D → D → Option D
  | x, .dic _ ks xs => match keyD x with
    | some k => if isSc k = true ∧ ks.all isSc = true then some (.bl (ixK ks k).isSome) else none
    | none => none
  | _, _ => none
def gInX : D → D → Option D
  | x, .dic o ks xs => inDic x (.dic o ks xs)
  | x, y => gIn x y
def gNotInX : D → D → Option D := fun x y => neB (gInX x y)
theorem inDic_get {x y : V} {d1 d2 d : D} (hs : SubH X.K I H) (r1 : Rep X.K X.mg I H d1 x B1) (r2 : Rep X.K X.mg I H d2 y B2) (e : inDic d1 d2 = some d) : ∃ a o, y = .ref a ∧ DGet H a x o ∧ d = .bl o.isSome := by
  unfold inDic at e
  split at e
  rotate_left
  · cases e
  rename_i o ks xs
  cases q : keyD d1 with
  | none => rw [q] at e; cases e
  | some k =>
    rw [q] at e
    simp only at e
    split at e
    rotate_left
    · cases e
    rename_i cc
    obtain ⟨c1, c2⟩ := cc
    cases e
    have kk := keyD_rep hs r1 q
    have noT : ∀ kvs : List (List Key × V), kvs.map (fun p => KD.t p.1) = ks → ks ≠ [] → False := fun kvs hk hn => by
      cases kvs with
      | nil => exact hn hk.symm
      | cons p kvs => rw [← hk] at c2; simp [isSc] at c2
    have fin : ∀ (a : Addr) (kvs : List (Key × V)), y = .ref a → Rd H a (.dK kvs) → kvs.map (fun p => kdK p.1) = ks → ∃ a o, y = .ref a ∧ DGet H a x o ∧ D.bl (ixK ks k).isSome = .bl o.isSome := fun a kvs ey hr hk => by
      subst hk
      rcases kk with ⟨kq, rfl, rfl⟩ | ⟨kq, b, rfl, rfl, hb⟩
      · refine ⟨a, valV kvs kq, ey, .inl ⟨kvs, kq, hr, rfl, rfl⟩, ?_⟩
        cases q2 : ixK (kvs.map fun p => kdK p.1) (kdK kq) with
        | none => rw [ixK_noneK q2]; rfl
        | some j =>
          obtain ⟨z1, z2⟩ := ixK_valK q2
          rw [z1, List.getElem?_map, List.getElem?_eq_getElem z2]; rfl
      · simp [isSc] at c1
    cases r2 with
    | dicKO hA h hk nd rs hB nB => exact fin _ _ rfl (.inl h) hk
    | dicKF h hk nd rs => exact fin _ _ rfl (.inl (hs _ _ h)) hk
    | dicTO hA h hk nd rs hB nB => exact (noT _ hk nd.2).elim
    | dicTF h hk nd rs => exact (noT _ hk nd.2).elim
abbrev rInY (K : PySem.W.Frag) : R2 := fun x y H Q => rInA K x y H Q ∨ rInDict x y H Q
abbrev rNotInY (K : PySem.W.Frag) : R2 := fun x y H Q => rNotInA K x y H Q ∨ rNotInDict x y H Q
theorem opx_inX (hu : X.A.units + 1 < cLine) : OpR X (compareOp .In) (rInY X.K) := opx_in.or (op_inDict hu)
theorem opx_notInX (hu : X.A.units + 1 < cLine) : OpR X (compareOp .NotIn) (rNotInY X.K) := opx_notIn.or (op_notInDict hu)
theorem snd_inX : Snd2 X (rInY X.K) gInX := by
  intro I H x y d1 d2 d B1 B2 Q hs r1 o1 r2 o2 e hq
  unfold gInX at e
  split at e
  · obtain ⟨a, o, ey, g, rfl⟩ := inDic_get hs r1 r2 e
    exact .inr ⟨a, o, ey, g, hq _ I H no (NewV.same hs .bl)⟩
  · exact .inl (snd_in I H x y _ _ d B1 B2 Q hs r1 o1 r2 o2 e hq)
theorem snd_notInX : Snd2 X (rNotInY X.K) gNotInX := by
  intro I H x y d1 d2 d B1 B2 Q hs r1 o1 r2 o2 e hq
  unfold gNotInX gInX at e
  split at e
  · rename_i o ks xs
    cases q : inDic d1 (.dic o ks xs) with
    | none => rw [q] at e; cases e
    | some d' =>
      obtain ⟨a, o', ey, g, rfl⟩ := inDic_get hs r1 r2 q
      rw [q] at e
      simp only [neB, Option.some.injEq] at e
      subst e
      exact .inr ⟨a, o', ey, g, hq _ I H no (NewV.same hs .bl)⟩
  · exact .inl (snd_notIn I H x y _ _ d B1 B2 Q hs r1 o1 r2 o2 e hq)
end
end DL

set_option linter.all false
set_option autoImplicit false
namespace DL
open PySem PySem.Spec L2
open PyProof.Rows hiding St
section
variable {X : Cx} {W : WX} {I H I1 H1 I2 H2 : Hp} {δ δ1 δ2 : Env} {σ σ1 σ2 : St} {F F1 F2 : FF} {A B B1 B2 C : FP} {d : D} {v : V} {i : Nat} {sl : Sl}
open Classical in
/-- what is held by hand is frozen -/
theorem fz_tmp (g : Go X.K X.mg I H δ σ F I1 H1 δ1 σ1 F1 B) (r : Rep X.K X.mg I1 H1 d v B) : ∃ I2, Go X.K X.mg I H δ σ F I2 H1 δ1 σ1 F1 no ∧ Rep X.K X.mg I2 H1 (fz d) v no := by
  let I' : Hp := fun a => if B a then H1 a else I1 a
  have hB : ∀ a, B a → I' a = H1 a := fun a q => by show (if B a then H1 a else I1 a) = _; rw [if_pos q]
  have hN : ∀ a, ¬ B a → I' a = I1 a := fun a q => by show (if B a then H1 a else I1 a) = _; rw [if_neg q]
  have inc : Sub I1 I' := fun a o h => by
    by_cases q : B a
    · rw [(g.own a q).2] at h; cases h
    · rw [hN a q]; exact h
  refine ⟨I', ⟨⟨g.st.sub.freeze g.own Le.refl hB hN, fun j a q => ?_, g.st.dis, fun j s0 e0 => ?_, g.st.emp, g.st.len⟩, ⟨g.ev.inc.trans inc, g.ev.out, g.ev.tb, fun a h => ?_, fun a h => ?_⟩, own_no, fun _ => dis_no, g.lk, g.io, g.fl⟩, r.freeze inc fun a o q h => by rw [hB a q]; exact h⟩
  · exact ⟨(g.st.own j a q).1, by rw [hN a fun b => g.dis j a q b]; exact (g.st.own j a q).2⟩
  · rcases g.st.rep j s0 e0 with h | ⟨v', h1, h2⟩
    · exact .inl h
    · exact .inr ⟨v', h1, h2.frame inc fun _ _ _ h => h⟩
  · exact g.ev.foot a (h.elim .inl fun z => z.elim)
  · by_cases q : B a
    · exact .inr (g.ev.foot a (.inr q))
    · rw [hN a q] at h; exact g.ev.ice a h
/-- the value, frozen -/
def eFz (f : EF) : EF := fun δ => (f δ).bind fun o δ1 => (vlO o δ1).bind fun d δ2 => .ok (.tmp (fz d)) δ2
theorem se_fz {t : TE} {f : EF} (h1 : SE X W t f) : SE X W t (eFz f) := by
  intro I H δ σ F Q s h
  refine h1 I H δ σ F _ s ?_
  unfold eFz at h
  cases q : f δ with
  | stk => rw [q] at h; exact h.elim
  | er x δ' => rw [q] at h; exact h
  | ok o δ1 =>
    rw [q] at h
    intro v I1 H1 F1 B go r
    change EO X W I H δ σ F Q ((vlO o δ1).bind fun d δ2 => .ok (.tmp (fz d)) δ2) at h
    cases q2 : vlO o δ1 with
    | stk => rw [q2] at h; exact h.elim
    | er x δ' => exact absurd q2 vl_no
    | ok d δ2 =>
      rw [q2] at h
      obtain ⟨I2, F2, B2, g2, r2⟩ := vl_ok go r q2
      obtain ⟨I3, g3, r3⟩ := fz_tmp g2 r2
      exact h v I3 H1 F2 no g3 r3
theorem de_fz {e : Expr} {f : EF} (h : DE X W e f) : DE X W e (eFz f) := let ⟨t, p, q⟩ := h; ⟨t, p, se_fz q⟩
end
/-! ### while -/
theorem whileL_mono {cf : BF} {bf : SF} : ∀ (n k : Nat) (δ : Env), whileL cf bf n δ ≠ .stk → whileL cf bf (n + k) δ = whileL cf bf n δ
  | 0, k, δ, h => absurd rfl h
  | n + 1, k, δ, h => by
    rw [show n + 1 + k = (n + k) + 1 by omega]
    simp only [whileL] at h ⊢
    cases q : cf δ with
    | stk => rfl
    | er x δ' => rfl
    | ok b δ1 =>
      rw [q] at h
      cases b with
      | false => rfl
      | true =>
        simp only [R.bindS] at h ⊢
        cases q2 : bf δ1 with
        | nx δ2 => rw [q2] at h; exact whileL_mono n k δ2 h
        | ct δ2 => rw [q2] at h; exact whileL_mono n k δ2 h
        | bk δ2 => rfl
        | rt d δ2 => rfl
        | er x δ2 => rfl
        | stk => rfl
theorem sWhile_of {cf : BF} {bf : SF} {n : Nat} {δ : Env} {r : Out} (h : whileL cf bf n δ = r) (hr : r ≠ .stk) : sWhile cf bf δ = r := by
  have hn : whileL cf bf n δ ≠ .stk := by rw [h]; exact hr
  have ex : ∃ n, whileL cf bf n δ ≠ .stk := ⟨n, hn⟩
  unfold sWhile
  rw [dif_pos ex]
  have hc := ex.choose_spec
  rcases Nat.le_total n ex.choose with q | q
  · obtain ⟨k, e⟩ := Nat.le.dest q
    rw [← e] at hc ⊢
    rw [whileL_mono n k δ hn, h]
  · obtain ⟨k, e⟩ := Nat.le.dest q
    have := whileL_mono _ k δ hc
    rw [e, h] at this
    exact this.symm
theorem whileL_inv {cf : BF} {bf : SF} (P : Nat → Env → Prop) (Q : Env → Prop) (h : ∀ n δ, P n δ → (∃ δ1, cf δ = .ok false δ1 ∧ Q δ1) ∨ ∃ δ1 δ2 n', cf δ = .ok true δ1 ∧ (bf δ1 = .nx δ2 ∨ bf δ1 = .ct δ2) ∧ n' < n ∧ P n' δ2) : ∀ (n : Nat) (δ : Env), P n δ → ∃ k δ', whileL cf bf k δ = .nx δ' ∧ Q δ' := by
  intro n
  induction n using Nat.strongRecOn with
  | ind n ih =>
    intro δ p
    rcases h n δ p with ⟨δ1, e, q⟩ | ⟨δ1, δ2, n', e, e2, hl, p'⟩
    · exact ⟨1, δ1, by simp only [whileL, e, R.bindS], q⟩
    · obtain ⟨k, δ', e3, q⟩ := ih n' hl δ2 p'
      refine ⟨k + 1, δ', ?_, q⟩
      simp only [whileL, e, R.bindS]
      rcases e2 with e2 | e2 <;> rw [e2] <;> exact e3
theorem sWhile_inv {cf : BF} {bf : SF} (P : Nat → Env → Prop) (Q : Env → Prop) (h : ∀ n δ, P n δ → (∃ δ1, cf δ = .ok false δ1 ∧ Q δ1) ∨ ∃ δ1 δ2 n', cf δ = .ok true δ1 ∧ (bf δ1 = .nx δ2 ∨ bf δ1 = .ct δ2) ∧ n' < n ∧ P n' δ2) (n : Nat) (δ : Env) (p : P n δ) : ∃ δ', sWhile cf bf δ = .nx δ' ∧ Q δ' := by
  obtain ⟨k, δ', e, q⟩ := whileL_inv P Q h n δ p
  exact ⟨δ', sWhile_of e (by simp), q⟩
end DL

set_option linter.all false
set_option autoImplicit false
set_option maxRecDepth 100000
namespace DLx
open PySem PySem.Spec PySem.W PyProof.Rows

/-! ### max(.., default=..) -/
theorem max_dfa (a v : Value) : argsOk "max" ⟨[a], [(Str.ofString "default", v)]⟩ := by unfold argsOk; kernel_rfl
section
variable {pr : Program} {wo : World} {Ar : Around} {Rq : Result → Shared → Prop} {It : Addr} {fo we : List Addr} {ct : Nat} {Yl : Nat → Value → Prop} {Sq : Nat → Heap → Prop} {kw : List (Str × Value)}
theorem max_lp (Wk : Walks pr wo Ar.in1 It fo we ct Yl Sq) (better : Nat → Nat → Bool) (hc : CmpOf pr wo Ar.in1 .Gt Yl better) (T : Addr) (nT : T ∉ fo) : ∀ (k j : Nat) (u : Shared) (y : Value) (z : Nat), ct - (j + 1) = k → j + 1 ≤ ct → Sq (j + 1) u.heap → Yl (argBest better j) y →
    u.heap.get? T = some { cls := .type "list", dict := none, data := .seq #[y, y] z, slots := #[] } → (∀ v g tk, Yl (argBest better (ct - 1)) v → (∀ b o, b ∉ we → b ≠ T → u.heap.get? b = some o → g.get? b = some o) → Rq (.ok (.ret v)) { u with heap := g, toks := tk }) →
    codeAny (model pr wo) Ar (.builtin "max.loop" ⟨[.ref It, .none, .ref T], kw⟩) Rq u := by
  have nW : T ∉ we := fun q => nT (Wk.sub _ q)
  have nm : (toString "max" ++ toString ".loop" : String) = "max.loop" := by decide
  intro k; induction k with
  | zero =>
    intro j u y z ek lj st yj eT fin
    have en : j + 1 = ct := by omega
    refine codeAny_builtin F.entry_max_loop ?_; rw [Around.under_plainId F.plain_max_loop _]
    show wpAny _ Ar.in1 (seqItems? (.ref T) >>= _) _ _ u; refine wpAny_bind (wpAny_seqItems eT rfl ?_)
    show wpAny _ Ar.in1 (tryCatch (pyNext (.ref It)) _ >>= _) _ _ u; refine wpAny_bind (wpAny_tryCatch (Wk.done u _ _ (en ▸ st) fun g tk kp => ?_))
    have eT2 := kp T _ nW eT
    show wpAny _ Ar.in1 (updateSeq T (fun _ => #[]) >>= _) _ _ _; refine wpAny_bind ?_; refine wpAny_updateSeq eT2 rfl (wpAny_bind (wpAny_letGo (wpAny_pure ?_)))
    exact fin y _ tk (en ▸ yj) fun b o n1 n2 e => (Heap.get?_update_other _ _ (Ne.symm n2)).trans (kp b o n1 e)
  | succ k ih =>
    intro j u y z ek lj st yj eT fin
    have ll : j + 1 < ct := by omega
    refine codeAny_builtin F.entry_max_loop ?_; rw [Around.under_plainId F.plain_max_loop _]
    show wpAny _ Ar.in1 (seqItems? (.ref T) >>= _) _ _ u; refine wpAny_bind (wpAny_seqItems eT rfl ?_)
    show wpAny _ Ar.in1 (tryCatch (pyNext (.ref It)) _ >>= _) _ _ u; refine wpAny_bind (wpAny_tryCatch (Wk.item (j + 1) u _ _ ll st fun v g tk yv st2 kp => ?_))
    have eT2 := kp T _ nW eT
    show wpAny _ Ar.in1 (tryCatch (holding [v, v] (richCompare .Gt v y >>= _)) _ >>= _) _ _ _; refine wpAny_bind (wpAny_tryCatch (wpAny_holding (wpAny_bind (hc (j + 1) (argBest better j) v y _ _ _ yv yj ?_))))
    refine wpAny_bind (wpAny_holding (wpAny_truthy_bool ?_)); refine wpAny_bind (wpAny_letGo (wpAny_pure ?_))
    cases q : better (j + 1) (argBest better j) with
    | true =>
      simp only [if_true]; refine wpAny_bind ?_; refine wpAny_updateSeq eT2 rfl (wpAny_bind (wpAny_letGo ?_)); rw [nm]
      exact wpAny_pure ⟨plainId_quiet F.plain_max_loop _, ih (j + 1) _ v _ (by omega) ll (Wk.frame _ _ _ st2 fun b nb o e => (Heap.get?_update_other _ _ (fun x : T = b => nT (x ▸ nb))).trans e) (by simp only [argBest, q, if_true]; exact yv) (Heap.get?_update_self _ eT2 rfl)
        fun v2 g2 tk2 y2 kp2 => fin v2 g2 tk2 y2 fun b o n1 n2 e => kp2 b o n1 n2 ((Heap.get?_update_other _ _ (Ne.symm n2)).trans (kp b o n1 e))⟩
    | false =>
      simp only [Bool.false_eq_true, if_false]; refine wpAny_bind (wpAny_letGo ?_); rw [nm]
      exact wpAny_pure ⟨plainId_quiet F.plain_max_loop _, ih (j + 1) _ y z (by omega) ll st2 (by simp only [argBest, q, Bool.false_eq_true, if_false]; exact yj) eT2 fun v2 g2 tk2 y2 kp2 => fin v2 g2 tk2 y2 fun b o n1 n2 e => kp2 b o n1 n2 (kp b o n1 e)⟩
theorem max_lp0 (Wk : Walks pr wo Ar.in1 It fo we ct Yl Sq) (better : Nat → Nat → Bool) (hc : CmpOf pr wo Ar.in1 .Gt Yl better) (T : Addr) (nT : T ∉ fo) (ge : 0 < ct) {u : Shared} {z : Nat} (st : Sq 0 u.heap) (eT : u.heap.get? T = some { cls := .type "list", dict := none, data := .seq #[] z, slots := #[] })
    (fin : ∀ v g tk, Yl (argBest better (ct - 1)) v → (∀ b o, b ∉ we → b ≠ T → u.heap.get? b = some o → g.get? b = some o) → Rq (.ok (.ret v)) { u with heap := g, toks := tk }) : codeAny (model pr wo) Ar (.builtin "max.loop" ⟨[.ref It, .none, .ref T], kw⟩) Rq u := by
  have nW : T ∉ we := fun q => nT (Wk.sub _ q)
  have nm : (toString "max" ++ toString ".loop" : String) = "max.loop" := by decide
  refine codeAny_builtin F.entry_max_loop ?_; rw [Around.under_plainId F.plain_max_loop _]
  show wpAny _ Ar.in1 (seqItems? (.ref T) >>= _) _ _ u; refine wpAny_bind (wpAny_seqItems eT rfl ?_)
  show wpAny _ Ar.in1 (tryCatch (pyNext (.ref It)) _ >>= _) _ _ u; refine wpAny_bind (wpAny_tryCatch (Wk.item 0 u _ _ ge st fun v g tk yv st2 kp => ?_))
  have eT2 := kp T _ nW eT
  show wpAny _ Ar.in1 (updateSeq T (fun _ => #[v, v]) >>= _) _ _ _; refine wpAny_bind ?_; refine wpAny_updateSeq eT2 rfl ?_; rw [nm]
  exact wpAny_pure ⟨plainId_quiet F.plain_max_loop _, max_lp Wk better hc T nT _ 0 _ v _ rfl ge (Wk.frame _ _ _ st2 fun b nb o e => (Heap.get?_update_other _ _ (fun x : T = b => nT (x ▸ nb))).trans e) yv (Heap.get?_update_self _ eT2 rfl)
    fun v2 g2 tk2 y2 kp2 => fin v2 g2 tk2 y2 fun b o n1 n2 e => kp2 b o n1 n2 ((Heap.get?_update_other _ _ (Ne.symm n2)).trans (kp b o n1 e))⟩
theorem max_lpE (Wk : Walks pr wo Ar.in1 It fo we 0 Yl Sq) (T : Addr) (nT : T ∉ fo) {d : Value} {u : Shared} {z : Nat} (st : Sq 0 u.heap) (eT : u.heap.get? T = some { cls := .type "list", dict := none, data := .seq #[] z, slots := #[] })
    (fin : ∀ g tk, (∀ b o, b ∉ we → u.heap.get? b = some o → g.get? b = some o) → Rq (.ok (.ret d)) { u with heap := g, toks := tk }) : codeAny (model pr wo) Ar (.builtin "max.loop" ⟨[.ref It, .none, .ref T], [(Str.ofString "default", d)]⟩) Rq u := by
  refine codeAny_builtin F.entry_max_loop ?_; rw [Around.under_plainId F.plain_max_loop _]
  show wpAny _ Ar.in1 (seqItems? (.ref T) >>= _) _ _ u; refine wpAny_bind (wpAny_seqItems eT rfl ?_)
  show wpAny _ Ar.in1 (tryCatch (pyNext (.ref It)) _ >>= _) _ _ u; refine wpAny_bind (wpAny_tryCatch (Wk.done u _ _ st fun g tk kp => ?_))
  exact wpAny_bind (wpAny_rule (wpAny_pure (fin g tk kp)))
end
section
variable {pr : Program} {wo : World} {Ar : Around} {Er : Value → Shared → Prop} {u : Shared} {l : Addr} {xs : Array (Int × Tok)}
theorem max_dfl {d : Value} {Qq : Value → Shared → Prop} (hn : Ar.handled = none) (hl : u.heap.IsList l (intItems xs))
    (he : xs.size = 0 → ∀ g tk, (∀ b o, u.heap.get? b = some o → g.get? b = some o) → Qq d { u with heap := g, toks := tk })
    (hm : 0 < xs.size → ∀ v g tk, (intItems xs)[argBest (fun i j => decide (numAt xs i > numAt xs j)) (xs.size - 1)]? = some v → (∀ b o, u.heap.get? b = some o → g.get? b = some o) → Qq v { u with heap := g, toks := tk }) :
    wpAny (model pr wo) Ar (call (.builtin "max") [.ref l] [(Str.ofString "default", d)]) Qq Er u := by
  have nm : (toString "max" ++ toString ".loop" : String) = "max.loop" := by decide
  refine kmk_tree F.kind_max F.plain_max F.entry_max (max_dfa _ _) ?_
  show wpAny _ Ar.in1 (Builtin.Builtins.bindParams "max" ["key", "default"] 0 ⟨[], [(Str.ofString "default", d)]⟩ >>= _) _ _ u
  refine wpAny_bind (wpAny_of_eq (show Builtin.Builtins.bindParams "max" ["key", "default"] 0 ⟨[], [(Str.ofString "default", d)]⟩ = pure [none, some d] from rfl) ?_)
  refine wpAny_bind (wpAny_pure ?_); refine wpAny_bind (iter_intList hl fun u2 e st hf nI => ?_); subst e
  refine wpAny_bind (wpAny_newObj_type ?_)
  have nS : (u.heap.push { cls := .type "list_iterator", data := .fields #[.ref l, .int 0 0] }).objs.size ∉ [u.heap.objs.size, l] := fun q => Nat.lt_irrefl _ (hf _ q)
  have Wk := Walks.list (prog := pr) (w := wo) (A := Ar.in1) hn u.heap.objs.size l nI (intItems xs)
  have hz : (intItems xs).size = xs.size := by simp [intItems]
  rw [nm]
  by_cases z : xs.size = 0
  · rw [hz, z] at Wk
    refine wpAny_pure ⟨plainId_quiet F.plain_max_loop _, max_lpE Wk _ nS (Wk.frame _ _ _ st fun b _ o e => Heap.get?_push_of_some _ e) (Heap.get?_push_size _ rfl) fun g tk kp => ?_⟩
    exact he z g tk (old_kept fun b o n1 e => kp b o n1 (Heap.get?_push_of_some _ e))
  · refine wpAny_pure ⟨plainId_quiet F.plain_max_loop _, max_lp0 Wk _ (CmpOf.ints_gt (numAt xs) fun _ _ => intItems_at) _ nS (by omega) (Wk.frame _ _ _ st fun b _ o e => Heap.get?_push_of_some _ e) (Heap.get?_push_size _ rfl) fun v g tk y kp => ?_⟩
    exact hm (by omega) v g tk (by rw [← hz]; exact y) (old_kept fun b o n1 e => kp b o n1 (Nat.ne_of_lt (Heap.lt_size e)) (Heap.get?_push_of_some _ e))
theorem max_dfr {its : List Value} {ns : List Int} {d : Value} {Qq : Value → Shared → Prop} (hn : Ar.handled = none) (hl : u.heap.IsList l its.toArray) (hi : IntsAre its ns)
    (he : ns = [] → ∀ g tk, (∀ b o, u.heap.get? b = some o → g.get? b = some o) → Qq d { u with heap := g, toks := tk })
    (hm : ∀ g tk M t', (∀ b o, u.heap.get? b = some o → g.get? b = some o) → M ∈ ns → (∀ a, a ∈ ns → a ≤ M) → Qq (.int M t') { u with heap := g, toks := tk }) : wpAny (model pr wo) Ar (call (.builtin "max") [.ref l] [(Str.ofString "default", d)]) Qq Er u := by
  obtain ⟨xs, e⟩ := hi.allInts.items
  have en : numsOf (intItems xs).toList = ns := by rw [← e]; exact hi.numsOf
  rw [nums_intItems] at en; subst en; rw [e] at hl
  refine max_dfl hn hl (fun z => he (by simpa using z)) fun z v g tk hv kp => ?_
  obtain ⟨t, rfl⟩ := intItems_at hv
  obtain ⟨h1, h2⟩ := argBest_gt (numAt xs) (xs.size - 1)
  refine hm g tk _ t kp ?_ fun a ha => ?_
  · rw [numAt_eq]; exact getD_mem (by rw [List.length_map, Array.length_toList]; omega)
  · obtain ⟨j, hj, rfl⟩ := mem_getD ha
    rw [List.length_map, Array.length_toList] at hj; rw [← numAt_eq]; exact h2 j (by omega)
end

/-! ### min(.., default=..) -/
theorem min_dfa (a v : Value) : argsOk "min" ⟨[a], [(Str.ofString "default", v)]⟩ := by unfold argsOk; kernel_rfl
section
variable {pr : Program} {wo : World} {Ar : Around} {Rq : Result → Shared → Prop} {It : Addr} {fo we : List Addr} {ct : Nat} {Yl : Nat → Value → Prop} {Sq : Nat → Heap → Prop} {kw : List (Str × Value)}
theorem min_lp (Wk : Walks pr wo Ar.in1 It fo we ct Yl Sq) (better : Nat → Nat → Bool) (hc : CmpOf pr wo Ar.in1 .Lt Yl better) (T : Addr) (nT : T ∉ fo) : ∀ (k j : Nat) (u : Shared) (y : Value) (z : Nat), ct - (j + 1) = k → j + 1 ≤ ct → Sq (j + 1) u.heap → Yl (argBest better j) y →
    u.heap.get? T = some { cls := .type "list", dict := none, data := .seq #[y, y] z, slots := #[] } → (∀ v g tk, Yl (argBest better (ct - 1)) v → (∀ b o, b ∉ we → b ≠ T → u.heap.get? b = some o → g.get? b = some o) → Rq (.ok (.ret v)) { u with heap := g, toks := tk }) →
    codeAny (model pr wo) Ar (.builtin "min.loop" ⟨[.ref It, .none, .ref T], kw⟩) Rq u := by
  have nW : T ∉ we := fun q => nT (Wk.sub _ q)
  have nm : (toString "min" ++ toString ".loop" : String) = "min.loop" := by decide
  intro k; induction k with
  | zero =>
    intro j u y z ek lj st yj eT fin
    have en : j + 1 = ct := by omega
    refine codeAny_builtin F.entry_min_loop ?_; rw [Around.under_plainId F.plain_min_loop _]
    show wpAny _ Ar.in1 (seqItems? (.ref T) >>= _) _ _ u; refine wpAny_bind (wpAny_seqItems eT rfl ?_)
    show wpAny _ Ar.in1 (tryCatch (pyNext (.ref It)) _ >>= _) _ _ u; refine wpAny_bind (wpAny_tryCatch (Wk.done u _ _ (en ▸ st) fun g tk kp => ?_))
    have eT2 := kp T _ nW eT
    show wpAny _ Ar.in1 (updateSeq T (fun _ => #[]) >>= _) _ _ _; refine wpAny_bind ?_; refine wpAny_updateSeq eT2 rfl (wpAny_bind (wpAny_letGo (wpAny_pure ?_)))
    exact fin y _ tk (en ▸ yj) fun b o n1 n2 e => (Heap.get?_update_other _ _ (Ne.symm n2)).trans (kp b o n1 e)
  | succ k ih =>
    intro j u y z ek lj st yj eT fin
    have ll : j + 1 < ct := by omega
    refine codeAny_builtin F.entry_min_loop ?_; rw [Around.under_plainId F.plain_min_loop _]
    show wpAny _ Ar.in1 (seqItems? (.ref T) >>= _) _ _ u; refine wpAny_bind (wpAny_seqItems eT rfl ?_)
    show wpAny _ Ar.in1 (tryCatch (pyNext (.ref It)) _ >>= _) _ _ u; refine wpAny_bind (wpAny_tryCatch (Wk.item (j + 1) u _ _ ll st fun v g tk yv st2 kp => ?_))
    have eT2 := kp T _ nW eT
    show wpAny _ Ar.in1 (tryCatch (holding [v, v] (richCompare .Lt v y >>= _)) _ >>= _) _ _ _; refine wpAny_bind (wpAny_tryCatch (wpAny_holding (wpAny_bind (hc (j + 1) (argBest better j) v y _ _ _ yv yj ?_))))
    refine wpAny_bind (wpAny_holding (wpAny_truthy_bool ?_)); refine wpAny_bind (wpAny_letGo (wpAny_pure ?_))
    cases q : better (j + 1) (argBest better j) with
    | true =>
      simp only [if_true]; refine wpAny_bind ?_; refine wpAny_updateSeq eT2 rfl (wpAny_bind (wpAny_letGo ?_)); rw [nm]
      exact wpAny_pure ⟨plainId_quiet F.plain_min_loop _, ih (j + 1) _ v _ (by omega) ll (Wk.frame _ _ _ st2 fun b nb o e => (Heap.get?_update_other _ _ (fun x : T = b => nT (x ▸ nb))).trans e) (by simp only [argBest, q, if_true]; exact yv) (Heap.get?_update_self _ eT2 rfl)
        fun v2 g2 tk2 y2 kp2 => fin v2 g2 tk2 y2 fun b o n1 n2 e => kp2 b o n1 n2 ((Heap.get?_update_other _ _ (Ne.symm n2)).trans (kp b o n1 e))⟩
    | false =>
      simp only [Bool.false_eq_true, if_false]; refine wpAny_bind (wpAny_letGo ?_); rw [nm]
      exact wpAny_pure ⟨plainId_quiet F.plain_min_loop _, ih (j + 1) _ y z (by omega) ll st2 (by simp only [argBest, q, Bool.false_eq_true, if_false]; exact yj) eT2 fun v2 g2 tk2 y2 kp2 => fin v2 g2 tk2 y2 fun b o n1 n2 e => kp2 b o n1 n2 (kp b o n1 e)⟩
theorem min_lp0 (Wk : Walks pr wo Ar.in1 It fo we ct Yl Sq) (better : Nat → Nat → Bool) (hc : CmpOf pr wo Ar.in1 .Lt Yl better) (T : Addr) (nT : T ∉ fo) (ge : 0 < ct) {u : Shared} {z : Nat} (st : Sq 0 u.heap) (eT : u.heap.get? T = some { cls := .type "list", dict := none, data := .seq #[] z, slots := #[] })
    (fin : ∀ v g tk, Yl (argBest better (ct - 1)) v → (∀ b o, b ∉ we → b ≠ T → u.heap.get? b = some o → g.get? b = some o) → Rq (.ok (.ret v)) { u with heap := g, toks := tk }) : codeAny (model pr wo) Ar (.builtin "min.loop" ⟨[.ref It, .none, .ref T], kw⟩) Rq u := by
  have nW : T ∉ we := fun q => nT (Wk.sub _ q)
  have nm : (toString "min" ++ toString ".loop" : String) = "min.loop" := by decide
  refine codeAny_builtin F.entry_min_loop ?_; rw [Around.under_plainId F.plain_min_loop _]
  show wpAny _ Ar.in1 (seqItems? (.ref T) >>= _) _ _ u; refine wpAny_bind (wpAny_seqItems eT rfl ?_)
  show wpAny _ Ar.in1 (tryCatch (pyNext (.ref It)) _ >>= _) _ _ u; refine wpAny_bind (wpAny_tryCatch (Wk.item 0 u _ _ ge st fun v g tk yv st2 kp => ?_))
  have eT2 := kp T _ nW eT
  show wpAny _ Ar.in1 (updateSeq T (fun _ => #[v, v]) >>= _) _ _ _; refine wpAny_bind ?_; refine wpAny_updateSeq eT2 rfl ?_; rw [nm]
  exact wpAny_pure ⟨plainId_quiet F.plain_min_loop _, min_lp Wk better hc T nT _ 0 _ v _ rfl ge (Wk.frame _ _ _ st2 fun b nb o e => (Heap.get?_update_other _ _ (fun x : T = b => nT (x ▸ nb))).trans e) yv (Heap.get?_update_self _ eT2 rfl)
    fun v2 g2 tk2 y2 kp2 => fin v2 g2 tk2 y2 fun b o n1 n2 e => kp2 b o n1 n2 ((Heap.get?_update_other _ _ (Ne.symm n2)).trans (kp b o n1 e))⟩
theorem min_lpE (Wk : Walks pr wo Ar.in1 It fo we 0 Yl Sq) (T : Addr) (nT : T ∉ fo) {d : Value} {u : Shared} {z : Nat} (st : Sq 0 u.heap) (eT : u.heap.get? T = some { cls := .type "list", dict := none, data := .seq #[] z, slots := #[] })
    (fin : ∀ g tk, (∀ b o, b ∉ we → u.heap.get? b = some o → g.get? b = some o) → Rq (.ok (.ret d)) { u with heap := g, toks := tk }) : codeAny (model pr wo) Ar (.builtin "min.loop" ⟨[.ref It, .none, .ref T], [(Str.ofString "default", d)]⟩) Rq u := by
  refine codeAny_builtin F.entry_min_loop ?_; rw [Around.under_plainId F.plain_min_loop _]
  show wpAny _ Ar.in1 (seqItems? (.ref T) >>= _) _ _ u; refine wpAny_bind (wpAny_seqItems eT rfl ?_)
  show wpAny _ Ar.in1 (tryCatch (pyNext (.ref It)) _ >>= _) _ _ u; refine wpAny_bind (wpAny_tryCatch (Wk.done u _ _ st fun g tk kp => ?_))
  exact wpAny_bind (wpAny_rule (wpAny_pure (fin g tk kp)))
end
section
variable {pr : Program} {wo : World} {Ar : Around} {Er : Value → Shared → Prop} {u : Shared} {l : Addr} {xs : Array (Int × Tok)}
theorem min_dfl {d : Value} {Qq : Value → Shared → Prop} (hn : Ar.handled = none) (hl : u.heap.IsList l (intItems xs))
    (he : xs.size = 0 → ∀ g tk, (∀ b o, u.heap.get? b = some o → g.get? b = some o) → Qq d { u with heap := g, toks := tk })
    (hm : 0 < xs.size → ∀ v g tk, (intItems xs)[argBest (fun i j => decide (numAt xs i < numAt xs j)) (xs.size - 1)]? = some v → (∀ b o, u.heap.get? b = some o → g.get? b = some o) → Qq v { u with heap := g, toks := tk }) :
    wpAny (model pr wo) Ar (call (.builtin "min") [.ref l] [(Str.ofString "default", d)]) Qq Er u := by
  have nm : (toString "min" ++ toString ".loop" : String) = "min.loop" := by decide
  refine kmk_tree F.kind_min F.plain_min F.entry_min (min_dfa _ _) ?_
  show wpAny _ Ar.in1 (Builtin.Builtins.bindParams "min" ["key", "default"] 0 ⟨[], [(Str.ofString "default", d)]⟩ >>= _) _ _ u
  refine wpAny_bind (wpAny_of_eq (show Builtin.Builtins.bindParams "min" ["key", "default"] 0 ⟨[], [(Str.ofString "default", d)]⟩ = pure [none, some d] from rfl) ?_)
  refine wpAny_bind (wpAny_pure ?_); refine wpAny_bind (iter_intList hl fun u2 e st hf nI => ?_); subst e
  refine wpAny_bind (wpAny_newObj_type ?_)
  have nS : (u.heap.push { cls := .type "list_iterator", data := .fields #[.ref l, .int 0 0] }).objs.size ∉ [u.heap.objs.size, l] := fun q => Nat.lt_irrefl _ (hf _ q)
  have Wk := Walks.list (prog := pr) (w := wo) (A := Ar.in1) hn u.heap.objs.size l nI (intItems xs)
  have hz : (intItems xs).size = xs.size := by simp [intItems]
  rw [nm]
  by_cases z : xs.size = 0
  · rw [hz, z] at Wk
    refine wpAny_pure ⟨plainId_quiet F.plain_min_loop _, min_lpE Wk _ nS (Wk.frame _ _ _ st fun b _ o e => Heap.get?_push_of_some _ e) (Heap.get?_push_size _ rfl) fun g tk kp => ?_⟩
    exact he z g tk (old_kept fun b o n1 e => kp b o n1 (Heap.get?_push_of_some _ e))
  · refine wpAny_pure ⟨plainId_quiet F.plain_min_loop _, min_lp0 Wk _ (CmpOf.ints_lt (numAt xs) fun _ _ => intItems_at) _ nS (by omega) (Wk.frame _ _ _ st fun b _ o e => Heap.get?_push_of_some _ e) (Heap.get?_push_size _ rfl) fun v g tk y kp => ?_⟩
    exact hm (by omega) v g tk (by rw [← hz]; exact y) (old_kept fun b o n1 e => kp b o n1 (Nat.ne_of_lt (Heap.lt_size e)) (Heap.get?_push_of_some _ e))
theorem min_dfr {its : List Value} {ns : List Int} {d : Value} {Qq : Value → Shared → Prop} (hn : Ar.handled = none) (hl : u.heap.IsList l its.toArray) (hi : IntsAre its ns)
    (he : ns = [] → ∀ g tk, (∀ b o, u.heap.get? b = some o → g.get? b = some o) → Qq d { u with heap := g, toks := tk })
    (hm : ∀ g tk M t', (∀ b o, u.heap.get? b = some o → g.get? b = some o) → M ∈ ns → (∀ a, a ∈ ns → M ≤ a) → Qq (.int M t') { u with heap := g, toks := tk }) : wpAny (model pr wo) Ar (call (.builtin "min") [.ref l] [(Str.ofString "default", d)]) Qq Er u := by
  obtain ⟨xs, e⟩ := hi.allInts.items
  have en : numsOf (intItems xs).toList = ns := by rw [← e]; exact hi.numsOf
  rw [nums_intItems] at en; subst en; rw [e] at hl
  refine min_dfl hn hl (fun z => he (by simpa using z)) fun z v g tk hv kp => ?_
  obtain ⟨t, rfl⟩ := intItems_at hv
  obtain ⟨h1, h2⟩ := argBest_lt (numAt xs) (xs.size - 1)
  refine hm g tk _ t kp ?_ fun a ha => ?_
  · rw [numAt_eq]; exact getD_mem (by rw [List.length_map, Array.length_toList]; omega)
  · obtain ⟨j, hj, rfl⟩ := mem_getD ha
    rw [List.length_map, Array.length_toList] at hj; rw [← numAt_eq]; exact h2 j (by omega)
end
end DLx

set_option linter.all false
set_option autoImplicit false
set_option maxRecDepth 100000
namespace DL
open PySem PySem.Spec L2
open PyProof.Rows hiding St
section
variable {X : Cx} {W : WX}
/-- max(xs, default=d), min(xs, default=d) -/
def rMaxE (K : PySem.W.Frag) : R2 := fun x z H Q => ∃ (a : Addr) (ns : List Int), x = V.ref a ∧ SqL K H a (ns.map V.int) ∧ (ns = [] → Q z H) ∧ ∀ m, m ∈ ns → (∀ y, y ∈ ns → y ≤ m) → Q (.int m) H
def rMinE (K : PySem.W.Frag) : R2 := fun x z H Q => ∃ (a : Addr) (ns : List Int), x = V.ref a ∧ SqL K H a (ns.map V.int) ∧ (ns = [] → Q z H) ∧ ∀ m, m ∈ ns → (∀ y, y ∈ ns → m ≤ y) → Q (.int m) H
def rKw2 (r : R2) : List V → List V → Hp → VK → Prop := fun xs zs H Q => match xs, zs with
  | [x], [z] => r x z H Q
  | _, _ => False
theorem cr_maxE (hc : X.calm = true) : CallRK X (.builtin "max") [Str.ofString "default"] (rKw2 (rMaxE X.K)) := by
  intro pins s σ H vs zs us ws Q I r rz h
  match vs, zs, r, rz, h with
  | [x], [z], r, rz, h =>
    obtain ⟨a, ns, ex, hs, q0, q1⟩ := h
    subst ex
    obtain ⟨its, rv, hl, _⟩ := I.list hs
    obtain rfl := Vals.ref1 r
    obtain ⟨w1, rfl, e1⟩ := vals1 rz
    exact DLx.max_dfr (I.ok.hd hc) hl.isList rv.ints (fun z h' tk k => ⟨_, H, I.kept k, e1, q0 z⟩) fun h' tk m t' hk h1 h2 => ⟨.int _, H, I.kept hk, ⟨_, rfl⟩, q1 m h1 h2⟩
theorem cr_minE (hc : X.calm = true) : CallRK X (.builtin "min") [Str.ofString "default"] (rKw2 (rMinE X.K)) := by
  intro pins s σ H vs zs us ws Q I r rz h
  match vs, zs, r, rz, h with
  | [x], [z], r, rz, h =>
    obtain ⟨a, ns, ex, hs, q0, q1⟩ := h
    subst ex
    obtain ⟨its, rv, hl, _⟩ := I.list hs
    obtain rfl := Vals.ref1 r
    obtain ⟨w1, rfl, e1⟩ := vals1 rz
    exact DLx.min_dfr (I.ok.hd hc) hl.isList rv.ints (fun z h' tk k => ⟨_, H, I.kept k, e1, q0 z⟩) fun h' tk m t' hk h1 h2 => ⟨.int _, H, I.kept hk, ⟨_, rfl⟩, q1 m h1 h2⟩
def gMaxE (x y : D) : Option D := match x with
  | .lst _ ds => match ds with
    | [] => if ice y = true then some y else none
    | d :: ds => gMaxL (.lst true (d :: ds))
  | _ => none
def gMinE (x y : D) : Option D := match x with
  | .lst _ ds => match ds with
    | [] => if ice y = true then some y else none
    | d :: ds => gMinL (.lst true (d :: ds))
  | _ => none
theorem snd_maxE : Snd2 X (rMaxE X.K) gMaxE := by
  intro I H x y d1 d2 d B1 B2 Q hs r1 o1 r2 o2 e hq
  cases d1 <;> simp only [gMaxE, reduceCtorEq] at e
  rename_i o ds
  obtain ⟨a, vs, rfl, h1, rs⟩ := rep_sqL hs r1
  cases ds with
  | nil =>
    simp only at e
    by_cases c : ice d2 = true
    · rw [if_pos c] at e; cases e
      have hv : vs = ([] : List Int).map V.int := by
        have e := rs.length
        rw [List.length_nil] at e
        exact List.length_eq_zero_iff.mp e.symm
      refine ⟨a, [], rfl, hv ▸ h1, fun _ => hq _ I H no (NewV.same hs (r2.ice c)), fun m hm => by simp at hm⟩
    · rw [if_neg c] at e; cases e
  | cons d0 ds =>
    simp only [gMaxL] at e
    cases q : intsD (d0 :: ds) with
    | none => rw [q] at e; cases e
    | some is =>
      rw [q] at e
      cases is with
      | nil => cases e
      | cons i is =>
        simp only [maxL, Option.some.injEq] at e; subst e
        have h2 : SqL X.K H a ((i :: is).map V.int) := (intsD_ok rs q) ▸ h1
        refine ⟨a, i :: is, rfl, h2, fun z => (List.cons_ne_nil _ _ z).elim, fun m hm hle => ?_⟩
        obtain ⟨k1, k2⟩ := maxL_ok is i
        have := Int.le_antisymm (k2 m hm) (hle _ k1)
        subst this
        exact hq _ I H no (NewV.same hs .int)
theorem snd_minE : Snd2 X (rMinE X.K) gMinE := by
  intro I H x y d1 d2 d B1 B2 Q hs r1 o1 r2 o2 e hq
  cases d1 <;> simp only [gMinE, reduceCtorEq] at e
  rename_i o ds
  obtain ⟨a, vs, rfl, h1, rs⟩ := rep_sqL hs r1
  cases ds with
  | nil =>
    simp only at e
    by_cases c : ice d2 = true
    · rw [if_pos c] at e; cases e
      have hv : vs = ([] : List Int).map V.int := by
        have e := rs.length
        rw [List.length_nil] at e
        exact List.length_eq_zero_iff.mp e.symm
      refine ⟨a, [], rfl, hv ▸ h1, fun _ => hq _ I H no (NewV.same hs (r2.ice c)), fun m hm => by simp at hm⟩
    · rw [if_neg c] at e; cases e
  | cons d0 ds =>
    simp only [gMinL] at e
    cases q : intsD (d0 :: ds) with
    | none => rw [q] at e; cases e
    | some is =>
      rw [q] at e
      cases is with
      | nil => cases e
      | cons i is =>
        simp only [minL, Option.some.injEq] at e; subst e
        have h2 : SqL X.K H a ((i :: is).map V.int) := (intsD_ok rs q) ▸ h1
        refine ⟨a, i :: is, rfl, h2, fun z => (List.cons_ne_nil _ _ z).elim, fun m hm hle => ?_⟩
        obtain ⟨k1, k2⟩ := minL_ok is i
        have := Int.le_antisymm (hle _ k1) (k2 m hm)
        subst this
        exact hq _ I H no (NewV.same hs .int)
/-- f(e, k=d), f built in -/
theorem de_bik {x : Str} {p pos kpos : Pos} {e d : Expr} {k : Str} {id : String} {r : R2} {g : D → D → Option D} {fe fd : EF} (hc : CallRK X (.builtin id) [k] (rKw2 r)) (h : Snd2 X r g) (hg : Gl X x) (hm : X.mg x = none) (hv : bootBuiltins x = some (.builtin id)) (ha : DE X W e fe) (hd : DE X W d fd)
    (hn : x ≠ "__name__" := by decide) (hdb : (x == ("__debug__" : Str)) = false := by decide)
    (he : backTo pos (starEach [e] X.env) = (false, eval e X.env) :: backTo pos (starEach [] X.env) := by rfl) (he0 : starEach [e] X.env = (false, eval e X.env) :: starEach [] X.env := by rfl) (hpl : (backTo pos (starEach [e] X.env)).any (·.1) = false := by rfl)
    (hall : (backToKw pos (keywordEach [⟨some k, d, kpos⟩] X.env)).all (·.1.isSome) = true := by rfl) (hnone : (backToKw pos (keywordEach [⟨some k, d, kpos⟩] X.env)).any (·.1.isNone) = false := by rfl) (hks : (backToKw pos (keywordEach [⟨some k, d, kpos⟩] X.env)).filterMap (·.1) = [k] := by rfl) :
    DE X W (.Call (.Name x p) [e] [⟨some k, d, kpos⟩] pos) (eOp2 g fe fd) := by
  obtain ⟨te, pe, qe⟩ := ha
  obtain ⟨td, pd, qd⟩ := hd
  refine ⟨_, pe_callBK hc hg hm hv (pa_cons pe pa_nil he0) (pk_cons pd pk_nil) hn hdb he hpl hall hnone hks, ?_⟩
  have := se_rd (X := X) (W := W) (r := two r) h.snd (sa_cons qe (sa_cons qd sa_nil))
  exact this
end
end DL

set_option linter.all false
set_option autoImplicit false
namespace DL
open PySem PySem.Spec L2
/-! ### sorted(list) -/
def sortI (ns : List Int) : List Int := ns.mergeSort fun x y => decide (x ≤ y)
theorem sortI_of {ks ys : List Int} (hp : ys.Perm ks) (hs : ys.Pairwise (· ≤ ·)) : ys = sortI ks := by
  have h2 : (sortI ks).Pairwise fun x y => decide (x ≤ y) = true := List.pairwise_mergeSort (fun a b c h1 h2 => by simp only [decide_eq_true_eq] at *; omega) (fun a b => by simp only [Bool.or_eq_true, decide_eq_true_eq]; omega) ks
  have h1 : ys.Pairwise fun x y => decide (x ≤ y) = true := hs.imp fun h => decide_eq_true h
  exact List.Perm.eq_of_pairwise (fun a b _ _ x y => by simp only [decide_eq_true_eq] at x y; omega) h1 h2 (hp.trans (List.mergeSort_perm ks _).symm)
def gSortL : D → Option D
  | .lst _ ds => match strsD ds with
    | some ss => if ss.length < 64 then some (.lst true ((sortS ss).map .str)) else none
    | none => match intsD ds with
      | some is => some (.lst true ((sortI is).map .int))
      | none => none
  | _ => none
section
variable {X : Cx} {W : Nat}
def rSortL (K : PySem.W.Frag) : List V → Hp → VK → Prop := fun vs H Q => rSortedS K vs H Q ∨ rSortedI K vs H Q
theorem cr_sortL : CallR X (.builtin "sorted") (rSortL X.K) := by
  intro pins s σ H vs us Q I r h
  rcases h with h | h
  · exact cr_sortedS pins s σ H vs us Q I r h
  · exact cr_sortedI pins s σ H vs us Q I r h
theorem snd_sortL : Snd X (rSortL X.K) (g1L gSortL) := Snd1.snd (by
  intro I H x d1 d B1 Q hs r1 o1 e hq
  cases d1 <;> simp only [gSortL, reduceCtorEq] at e
  rename_i o ds
  obtain ⟨a, vs, rfl, h1, rs⟩ := rep_sqL hs r1
  cases q : strsD ds with
  | some ss =>
    rw [q] at e
    simp only at e
    split at e
    · rename_i hl
      cases e
      obtain rfl := strsD_ok rs q
      refine .inl ⟨a, ss, rfl, h1, hl, fun ys p hp hst hn => ?_⟩
      obtain rfl := sortS_of hp hst
      obtain ⟨B, n⟩ := newV_lst (X := X) hs hn (reps_strs (K := X.K) (mg := X.mg) (I := I) (H := H) (sortS ss))
      exact hq _ _ _ _ n
    · cases e
  | none =>
    rw [q] at e
    simp only at e
    cases q2 : intsD ds with
    | none => rw [q2] at e; cases e
    | some is =>
      rw [q2] at e
      cases e
      obtain rfl := intsD_ok rs q2
      refine .inr ⟨a, is, rfl, h1, fun ys p hp hst hn => ?_⟩
      obtain rfl := sortI_of hp hst
      obtain ⟨B, n⟩ := newV_lst (X := X) hs hn (reps_ints (K := X.K) (mg := X.mg) (I := I) (H := H) (sortI is))
      exact hq _ _ _ _ n)
end
end DL

set_option linter.all false
set_option autoImplicit false
set_option maxRecDepth 100000
namespace DL
open PySem PySem.Spec L2
open PyProof.Rows hiding St

/-! ### raise X() -/
section
variable {X : Cx} {W : WX}
theorem pmk_own0 {C : Addr} {bmB : List Value} {B newId initId : String} {x : Str} {p pos : Pos} (F : ExcBaseFacts B newId initId bmB) (q : PySem.W.excIn X.K C bmB newId = true) (gC : X.mg x = some (.ref C)) (kC : PySem.W.keepIn X.K (.ref C) = true) (r : Raises X (.ref C)) (hg : Gl X x)
    (hdb : (x == ("__debug__" : Str)) = false := by decide) : PMk X (.Call (.Name x p) [] [] pos) (fun _ H Q => Q (.ref C) none H) := by
  intro pins s σ H Q I h
  refine wpAny_Call_Name_kw (ld_glob I hg gC ?_ hdb)
  refine PySem.W.callWith_K0 I.kIn kC ?_
  show wpAny _ _ (call (.ref C) []) _ _ _
  obtain ⟨bm, N, nm, qn, bs, hdct, sn, sub, ab, col, dd, k0, k1, k2, k3, k5, mN, hC, hN, hni, T⟩ := exc_obj I.kIn q
  refine wpAny_call_exc_subT F T hC hN hni (fun h' e hm => ?_) (by show 0 ≤ sizeLine; omega)
  exact mk_of I hm r h (I.hok.gone hm.new)
def sRaise (x : D) : SF := fun δ => .er x δ
theorem ds_raise0 {x : Str} {p pos pos2 : Pos} (hc : X.calm = true) (tk : Takes X W) (gC : X.mg x = some (.ref (He.ga X.K x))) (e : PySem.W.excIn X.K (He.ga X.K x) He.veBase "ValueError.__new__" = true ∧ PySem.W.keepIn X.K (.ref (He.ga X.K x)) = true ∧ PySem.W.subIn X.K (.ref (He.ga X.K x)) (.type "BaseException") = some true ∧
    PySem.W.typeIn X.K (.ref (He.ga X.K x)) = some (.type "type")) (hg : Gl X x := by rfl) (hdb : (x == ("__debug__" : Str)) = false := by decide) : DS X W (.Raise (some (.Call (.Name x p) [] [] pos)) none pos2) (sRaise (.exn x [] [])) := by
  refine ⟨_, ps_raise hc tk (pmk_own0 PySem.F.excBase_ValueError e.1 gC e.2.1 (raises_own e.2.2.1 e.2.2.2) hg hdb), fun I H δ σ F E s h => ?_⟩
  exact h _ _ I H σ F (Go.refl s) ⟨_, gC, rfl, rfl⟩
end

/-! ### what is asked of exceptions' classes -/
inductive Fx where
  | exq (d : Str)
  | isr (d y : Str) (b : Bool)
  | isb (d : Str) (t : String) (b : Bool)
def Fx.ok (K : PySem.W.Frag) : Fx → Bool
  | .exq d => decide (PySem.W.findIn K (.ref (He.ga K d)) "__getattribute__" = some (some (.builtin "BaseException.__getattribute__"))) && (decide (PySem.W.findIn K (.ref (He.ga K d)) "__getattr__" = some none) && (decide (PySem.W.subIn K (.ref (He.ga K d)) (.type "BaseException") = some true) && (PySem.W.hasDictIn K (He.ga K d) &&
      (decide (PySem.W.findIn K (.ref (He.ga K d)) "__class__" = some (some (.builtin "object.__class__"))) && (decide (PySem.W.specialIn K (.builtin "object.__class__") "__get__" = some (some (.builtin "getset_descriptor.__get__"))) && (decide (PySem.W.takesIn K (.builtin "object.__class__") = some true) && decide (PySem.W.mroIn K (He.ga K d) (.type "object") = some true)))))))
  | .isr d y b => decide (PySem.W.kitOne K (.ref (He.ga K d)) (.ref (He.ga K y)) = some b)
  | .isb d t b => decide (PySem.W.kitOne K (.ref (He.ga K d)) (.type t) = some b)
theorem exq_ok {K : PySem.W.Frag} {d : Str} (h : (Fx.exq d).ok K = true) : ExcC K (He.ga K d) := by
  simp only [Fx.ok, Bool.and_eq_true, decide_eq_true_eq] at h
  obtain ⟨h1, h2, h3, h4, h5, h6, h7, h8⟩ := h
  exact ⟨h1, h2, h3, h4, h5, h6, h7, h8⟩
theorem isr_ok {K : PySem.W.Frag} {d y : Str} {b : Bool} (h : (Fx.isr d y b).ok K = true) : PySem.W.kitOne K (.ref (He.ga K d)) (.ref (He.ga K y)) = some b := of_decide_eq_true h
theorem isb_ok {K : PySem.W.Frag} {d : Str} {t : String} {b : Bool} (h : (Fx.isb d t b).ok K = true) : PySem.W.kitOne K (.ref (He.ga K d)) (.type t) = some b := of_decide_eq_true h
abbrev AlX : Type := He.AlD × Bool
def SaysX (fa : List He.Fa) (fn : List He.DefD) (fx : List Fx) (K : PySem.W.Frag) : Prop := He.SaysD fa fn K ∧ (fx.all fun f => f.ok K) = true
def obsXG (n : Nat) (fa : List He.Fa) (fn : List He.DefD) (fx : List Fx) (g : Addr → Option Obj) : AlX := (He.obsDG n fa fn g, fx.all fun f => f.ok (He.frG g (He.asD g n)))
def hookX (n : Nat) (fa : List He.Fa) (fn : List He.DefD) (fx : List Fx) : PySem.W.Hook where
  α := AlX
  obs := fun s => obsXG n fa fn fx s.heap.get?
  val := fun _ => (He.valD fn, true)
  says := fun _ h => ∃ K : PySem.W.Frag, K.In h ∧ SaysX fa fn fx K
  of := fun _ _ e => ⟨_, He.frG_in, congrArg (fun z : AlX => z.1) e, congrArg (fun z : AlX => z.2) e⟩
  keeps := fun _ _ _ ⟨K, hK, c⟩ k => ⟨K, PySem.W.Frag.In.keeps hK k, c⟩
theorem obsXG_eq {n : Nat} {fa : List He.Fa} {fn : List He.DefD} {fx : List Fx} {g : Addr → Option Obj} {s : Shared} (h : ∀ a, g a = s.heap.get? a) : obsXG n fa fn fx g = (hookX n fa fn fx).obs s := by
  have e : g = s.heap.get? := funext h
  rw [e] <;> rfl
section
variable {fa : List He.Fa} {fn : List He.DefD} {fx : List Fx} {K : PySem.W.Frag}
theorem SaysX.fact (c : SaysX fa fn fx K) (i : Nat) {f : He.Fa} (h : fa[i]? = some f := by rfl) : f.ok K = true := He.SaysD.fact c.1 i h
theorem SaysX.def_ (c : SaysX fa fn fx K) (i : Nat) {d : He.DefD} (h : fn[i]? = some d := by rfl) : ∃ fd, FunD K d.name d.qual d.params d.body d.scope (d.dvs K) (d.kws K) (He.fAd K d.at_) fd := He.SaysD.def_ c.1 i h
theorem SaysX.xf (c : SaysX fa fn fx K) (i : Nat) {f : Fx} (h : fx[i]? = some f := by rfl) : f.ok K = true := List.all_eq_true.mp c.2 f (List.mem_of_getElem? h)
end

/-! ### isinstance(e, ..) in an except suite -/
def rIsET (K : PySem.W.Frag) (D a : Addr) : List V → Hp → VK → Prop := fun xs H Q => ∃ (t : Addr) (vs : List V) (its : List Value) (b : Bool), xs = [.ref a, .ref t] ∧ SqT K H t vs ∧ (∀ us, Vals vs us → us = its) ∧ PySem.W.kitAny K (.ref D) its = some b ∧ Q (.bl b) H
theorem call_isET {X : Cx} {a D : Addr} {oe : Obj} {pn : List (Addr × Obj)} (C : ExcC X.K D) (hz : Zc (.ref D) none oe) (hf : ∃ vs, oe.data = .fields vs) : CallR (X.suite a ((a, oe) :: pn)) (.builtin "isinstance") (rIsET X.K D a) := by
  intro pins s σ H xs us Q I r h
  obtain ⟨t, vs, its, b, rfl, ht, hv, e, q⟩ := h
  obtain ⟨us2, rv, ⟨o, ho, hoc, n, hod⟩, _⟩ := I.tuple ht
  have e1 := hv _ rv
  subst e1
  cases r with
  | cons rx rr =>
    cases rr with
    | cons rt rr =>
      cases rr
      cases rx
      cases rt
      obtain ⟨hget, _⟩ := I.pin (a, oe) (List.mem_append.mpr (.inl List.mem_cons_self))
      obtain ⟨vs', hv'⟩ := hf
      have J : PySem.W.InstAt s.heap a oe D none := by
        obtain ⟨oc, od, oda, osl⟩ := oe
        obtain ⟨h1, h2⟩ := hz
        dsimp only at h1 h2 hv'
        subst h1 h2 hv'
        exact ⟨hget, rfl, rfl, trivial⟩
      obtain ⟨oc, od, oda, osl⟩ := o
      dsimp only at hoc hod
      subst hoc hod
      exact PySem.W.kia_tup (PySem.W.handS_kitx_exc C.hg C.hk C.hs C.hd C.ha C.hn C.ht C.hm) I.kIn J ho e (fun z => nomatch z) fun tk => ⟨.bl b, H, I.kept (t' := tk) fun _ _ z => z, rfl, q⟩

/-! ### isinstance as a rule of values -/
def anyX (isx : D → Option Bool) : List D → Option Bool
  | [] => some false
  | d :: ds => match isx d, anyX isx ds with
    | some b, some r => some (b || r)
    | _, _ => none
def gXis (a : Addr) (isx : D → Option Bool) : D → D → Option D
  | .exn _ [] [.int z], .tup ds => if z = (a : Int) then (anyX isx ds).map .bl else none
  | .exn _ [] [.int z], d => if z = (a : Int) then (isx d).map .bl else none
  | _, _ => none
/-- what isx says is so -/
def IsxOk (X : Cx) (C : Addr) (isx : D → Option Bool) : Prop := ∀ d b, isx d = some b → ∀ I H v B, Rep X.K X.mg I H d v B → ∃ cv, (∀ u, RelV v u → u = cv) ∧ PySem.W.kitOne X.K (.ref C) cv = some b
section
variable {X : Cx}
theorem anyX_ok {C : Addr} {isx : D → Option Bool} (h : IsxOk X C isx) : ∀ {ds : List D} {vs : List V} {I H : Hp} {B : FP} {b : Bool}, Reps X.K X.mg I H ds vs B → anyX isx ds = some b → ∃ its, (∀ us, Vals vs us → us = its) ∧ PySem.W.kitAny X.K (.ref C) its = some b
  | _, _, _, _, _, b, .nil, e => by
    simp only [anyX, Option.some.injEq] at e
    subst e
    exact ⟨[], fun us r => by cases r; rfl, rfl⟩
  | _, _, _, _, _, b, .cons (d := d) (ds := ds) r rs _ _ _, e => by
    simp only [anyX] at e
    cases q1 : isx d with
    | none => rw [q1] at e; cases e
    | some b1 =>
      cases q2 : anyX isx ds with
      | none => rw [q1, q2] at e; cases e
      | some b2 =>
        rw [q1, q2] at e
        cases e
        obtain ⟨cv, u1, k1⟩ := h d b1 q1 _ _ _ _ r
        obtain ⟨its, u2, k2⟩ := anyX_ok h rs q2
        refine ⟨cv :: its, fun us r => ?_, ?_⟩
        · cases r with
          | cons ra rb => rw [u1 _ ra, u2 _ rb]
        · unfold PySem.W.kitAny
          rw [k1]
          cases b1
          · exact k2
          · rfl
def rXis (K : PySem.W.Frag) (D a : Addr) : List V → Hp → VK → Prop := fun xs H Q => rIsE K D a xs H Q ∨ rIsET K D a xs H Q
theorem call_xis {a D : Addr} {oe : Obj} {pn : List (Addr × Obj)} (C : ExcC X.K D) (hz : Zc (.ref D) none oe) (hf : ∃ vs, oe.data = .fields vs) : CallR (X.suite a ((a, oe) :: pn)) (.builtin "isinstance") (rXis X.K D a) := by
  intro pins s σ H xs us Q I r h
  rcases h with h | h
  · exact call_isE C hz hf pins s σ H xs us Q I r h
  · exact call_isET C hz hf pins s σ H xs us Q I r h
theorem snd_xis {C a : Addr} {isx : D → Option Bool} (h : IsxOk X C isx) : Snd X (rXis X.K C a) (g2L (gXis a isx)) := by
  intro I H ds vs d Q hs rd e hq
  cases rd with
  | nil => cases e
  | cons B1 r1 o1 rd => cases rd with
    | nil => cases e
    | cons B2 r2 o2 rd => cases rd with
      | cons _ _ _ _ => cases e
      | nil =>
        rename_i d1 v1 d2 v2
        cases r1 <;> try (simp only [g2L, gXis, reduceCtorEq] at e)
        case exn0 c a' =>
          by_cases hz : ((a' : Nat) : Int) = (a : Int)
          · have ea : a' = a := by omega
            subst ea
            have one : ∀ b, isx d2 = some b → d = .bl b → rXis X.K C a' [.ref a', v2] H Q := fun b h1 h2 => by
              subst h2
              obtain ⟨cv, u1, k1⟩ := h d2 b h1 _ _ _ _ r2
              exact .inl ⟨v2, cv, b, rfl, u1, k1, hq _ I H no (NewV.same hs .bl)⟩
            cases r2 with
            | tup ht rs =>
              simp only [g2L, gXis, if_true, Option.map_eq_some_iff] at e
              obtain ⟨b, e1, e2⟩ := e
              subst e2
              obtain ⟨its, u1, k1⟩ := anyX_ok h rs e1
              exact .inr ⟨_, _, its, b, rfl, SqT.of (hs _ _ ht), u1, k1, hq _ I H no (NewV.same hs .bl)⟩
            | _ =>
              simp only [g2L, gXis, if_true, Option.map_eq_some_iff] at e
              obtain ⟨b, e1, e2⟩ := e
              exact one b e1 e2.symm
          · cases d2 <;> simp [g2L, gXis, hz] at e
end
/-- the tables: own classes, classes of python -/
def isxT (rs : List (Str × Str × Bool)) (bs : List (Str × String × Bool)) (c : Str) : D → Option Bool
  | .cls y => (rs.find? fun p => decide (p.1 = c ∧ p.2.1 = y)).map (·.2.2)
  | .ty n => (bs.find? fun p => decide (p.1 = c ∧ p.2.1 = n)).map (·.2.2)
  | _ => none
theorem isxT_ok {X : Cx} {rs : List (Str × Str × Bool)} {bs : List (Str × String × Bool)} {c : Str} (h1 : ∀ p ∈ rs, X.mg p.2.1 = some (.ref (He.ga X.K p.2.1)) ∧ PySem.W.kitOne X.K (.ref (He.ga X.K p.1)) (.ref (He.ga X.K p.2.1)) = some p.2.2)
    (h2 : ∀ p ∈ bs, PySem.W.kitOne X.K (.ref (He.ga X.K p.1)) (.type p.2.1) = some p.2.2) : IsxOk X (He.ga X.K c) (isxT rs bs c) := by
  intro d b e I H v B r
  cases d <;> simp only [isxT, reduceCtorEq, Option.map_eq_some_iff] at e
  case cls y =>
    obtain ⟨p, hp, rfl⟩ := e
    have hm := List.mem_of_find?_eq_some hp
    have hq := List.find?_some hp
    simp only [decide_eq_true_eq] at hq
    obtain ⟨rfl, rfl⟩ := hq
    obtain ⟨g, k⟩ := h1 p hm
    cases r with
    | cls h =>
      rw [g] at h
      cases h
      exact ⟨_, fun u ru => ru, k⟩
  case ty n =>
    obtain ⟨p, hp, rfl⟩ := e
    have hm := List.mem_of_find?_eq_some hp
    have hq := List.find?_some hp
    simp only [decide_eq_true_eq] at hq
    obtain ⟨rfl, rfl⟩ := hq
    cases r
    exact ⟨_, fun u ru => ru, h2 p hm⟩
end DL

set_option linter.all false
set_option autoImplicit false
set_option maxRecDepth 100000
namespace DL
open PySem PySem.Spec L2
open PyProof.Rows hiding St

/-! ### e, isinstance(e, ..) in an except suite -/
def eIf1 (p : Prop) [Decidable p] (f : EF) : EF := fun δ => if p then f δ else .stk
section
variable {X : Cx} {W : WX}
theorem de_stk {e : Expr} : DE X W e (fun _ => .stk) := ⟨fun _ _ _ => False, ⟨fun _ _ _ _ _ _ h => h.elim⟩, fun _ _ _ _ _ _ _ h => h.elim⟩
/-- isinstance(e, c): xs: the classes that are known -/
theorem de_xis {a : Addr} {oe : Obj} {c : Str} {pn : List (Addr × Obj)} {xs : List Str} {rs : List (Str × Str × Bool)} {bs : List (Str × String × Bool)} {x : Str} {p pos : Pos} {e : Expr} {es : List Expr} {fa : AF}
    (hx : ∀ y ∈ xs, ExcC X.K (He.ga X.K y)) (h1 : ∀ p ∈ rs, X.mg p.2.1 = some (.ref (He.ga X.K p.2.1)) ∧ PySem.W.kitOne X.K (.ref (He.ga X.K p.1)) (.ref (He.ga X.K p.2.1)) = some p.2.2)
    (h2 : ∀ p ∈ bs, PySem.W.kitOne X.K (.ref (He.ga X.K p.1)) (.type p.2.1) = some p.2.2) (hz : Zc (.ref (He.ga X.K c)) none oe) (hf : ∃ vs, oe.data = .fields vs)
    (hg : Gl X x) (hm : X.mg x = none) (hv : bootBuiltins x = some (.builtin "isinstance")) (ha : DA (X.suite a ((a, oe) :: pn)) W (e :: es) fa) (hn : x ≠ "__name__" := by decide) (hdb : (x == ("__debug__" : Str)) = false := by decide)
    (he : starEach (e :: es) X.env = (false, eval e X.env) :: starEach es X.env := by rfl) (hpl : (backTo pos (starEach es X.env)).any (·.1) = false := by rfl) :
    DE (X.suite a ((a, oe) :: pn)) W (.Call (.Name x p) (e :: es) [] pos) (eIf1 (c ∈ xs) (eRd (g2L (gXis a (isxT rs bs c))) fa)) := by
  by_cases q : c ∈ xs
  · have h := de_bi (X := X.suite a ((a, oe) :: pn)) (p := p) (call_xis (hx c q) hz hf) (snd_xis (X := X.suite a ((a, oe) :: pn)) (isxT_ok (X := X.suite a ((a, oe) :: pn)) (c := c) h1 h2)) hg hm hv ha hn hdb he hpl
    have e1 : eIf1 (c ∈ xs) (eRd (g2L (gXis a (isxT rs bs c))) fa) = eRd (g2L (gXis a (isxT rs bs c))) fa := by funext δ; unfold eIf1; rw [if_pos q]
    rw [e1]; exact h
  · have e1 : eIf1 (c ∈ xs) (eRd (g2L (gXis a (isxT rs bs c))) fa) = fun _ => .stk := by funext δ; unfold eIf1; rw [if_neg q]
    rw [e1]; exact de_stk
/-- the name of an own class -/
theorem de_clsv {x : Str} {C : Addr} {pos : Pos} (hm : X.mg x = some (.ref C)) (hg : Gl X x := by rfl) (hd : (x == ("__debug__" : Str)) = false := by decide) : DE X W (.Name x pos) (eC (.cls x)) :=
  ⟨_, pe_glob (v := .ref C) hg hm rfl hd, se_c fun _ _ => .cls hm⟩
end

/-! ### try .. except c as n -/
def exV (a : Addr) (c : Str) : D := .exn c [] [.int (a : Nat)]
def clrE (i : Nat) (δ : Env) : Env := match δ[i]? with
  | some s => δ.set i ⟨s.io, s.lk, .hole⟩
  | none => δ
def noEr : Out → Out
  | .er _ _ => .stk
  | r => r
def hnd (i : Nat) (hf : Addr → Str → SF) (c : Str) (δ1 : Env) (a : Addr) : Out := match setN i (exV a c) δ1 with
  | some δ2 => (noEr (hf a c δ2)).mapE (clrE i)
  | none => .stk
open Classical in
noncomputable def sTryAs (i : Nat) (m : Str → Option Bool) (bf : SF) (hf : Addr → Str → SF) : SF := fun δ => match bf δ with
  | .er (.exn c [] []) δ1 => match m c with
    | some true => if ∀ a, hnd i hf c δ1 a = hnd i hf c δ1 0 then hnd i hf c δ1 0 else .stk
    | some false => .er (.exn c [] []) δ1
    | none => .stk
  | .er _ _ => .stk
  | r => r
section
variable {X : Cx} {W : WX} {I H I1 H1 I2 H2 : Hp} {δ δ1 δ2 : Env} {σ σ1 σ2 : St} {F F1 F2 : FF} {A B B1 B2 C : FP} {d : D} {v : V} {i : Nat}
theorem set_go (g : Go X.K X.mg I H δ σ F I1 H1 δ1 σ1 F1 B) (r : Rep X.K X.mg I1 H1 d v B) (e : setN i d δ1 = some δ2) : ∃ I' F', Go X.K X.mg I H δ σ F I' H1 δ2 (σ1.set i (some v)) F' no :=
  set_ok (Q := fun σ' H' => ∃ I' F', Go X.K X.mg I H δ σ F I' H' δ2 σ' F' no) g r e fun I' H' σ' F' g' => ⟨I', F', g'⟩
theorem clr_go {d0 : D} (g : Go X.K X.mg I H δ σ F I1 H1 δ1 σ1 F1 B) (q : δ1[i]? = some ⟨false, false, d0⟩) : ∃ F2, Go X.K X.mg I H δ σ F I1 H1 (δ1.set i ⟨false, false, .hole⟩) (σ1.set i none) F2 B := by
  refine ⟨F1.set i no, ?_⟩
  refine ⟨g.st.put (List.getElem?_eq_some_iff.mp q).1 (.inl rfl) own_no (fun j _ => dis_no) (fun j n => by rw [List.getElem?_set_ne (Ne.symm n)]) (by simp), ?_, g.own, fun j => ?_, fun j s0 e0 l0 => ?_, fun j s0 e0 l0 => ?_, ?_⟩
  · refine g.ev.mono Le.refl fun a w => ?_
    rcases w with ⟨j, s, ej, lj, z⟩ | w
    · by_cases q2 : j = i
      · subst q2; rw [FF.set_same] at z; exact z.elim
      · rw [FF.set_ne q2] at z
        rw [List.getElem?_set_ne (Ne.symm q2)] at ej
        exact .inl (.inl ⟨j, s, ej, lj, z⟩)
    · exact .inl (.inr w)
  · by_cases q2 : j = i
    · subst q2; rw [FF.set_same]; exact no_dis
    · rw [FF.set_ne q2]; exact g.dis j
  · obtain ⟨a1, a2, a3⟩ := g.lk j s0 e0 l0
    have n : j ≠ i := fun z => by subst z; rw [q] at a1; cases a1; cases l0
    exact ⟨by rw [List.getElem?_set_ne (Ne.symm n)]; exact a1, by rw [FF.set_ne n]; exact a2, by rw [List.getElem?_set_ne (Ne.symm n)]; exact a3⟩
  · have n : j ≠ i := fun z => by
      subst z
      obtain ⟨s', e', f1, f2⟩ := fl_some g.fl q
      rw [e0] at e'; cases e'
      rw [l0] at f1; cases f1
    rw [List.getElem?_set_ne (Ne.symm n)]
    exact g.io j s0 e0 l0
  · rw [← g.fl, List.map_set]
    refine List.ext_getElem? fun j => ?_
    by_cases q2 : j = i
    · subst q2
      rw [List.getElem?_set_self (by simpa using (List.getElem?_eq_some_iff.mp q).1), List.getElem?_map, q]
      rfl
    · rw [List.getElem?_set_ne (Ne.symm q2)]
/-- a slot that stays open -/
theorem clr_fl (g : Go X.K X.mg I H δ σ F I1 H1 δ1 σ1 F1 B) {d0 : D} (q : δ[i]? = some ⟨false, false, d0⟩) : ∃ d1, δ1[i]? = some ⟨false, false, d1⟩ := by
  have hl : i < δ1.length := by
    have := congrArg List.length g.fl
    rw [List.length_map, List.length_map] at this
    rw [this]; exact (List.getElem?_eq_some_iff.mp q).1
  obtain ⟨⟨io, lk, d1⟩, e⟩ : ∃ s, δ1[i]? = some s := ⟨_, List.getElem?_eq_getElem hl⟩
  obtain ⟨s', e', f1, f2⟩ := fl_some g.fl e
  rw [q] at e'
  cases e'
  exact ⟨d1, by rw [e]; simp only at f1 f2; rw [← f1, ← f2]⟩
def Wno : WX := fun _ _ _ _ => False
/-- the ends of a suite, its name cleared -/
def clrD (i : Nat) (E : Ends) : Ends := { nx := fun σ' H' => E.nx (σ'.set i none) H', rt := E.rt, bk := fun σ' H' => E.bk (σ'.set i none) H', ct := fun σ' H' => E.ct (σ'.set i none) H' }
theorem so_clr {E : Ends} {r : Out} {d0 : D} (g : Go X.K X.mg I H δ σ F I1 H1 δ1 σ1 F1 no) (q : δ1[i]? = some ⟨false, false, d0⟩) (h : SO X W E I H δ σ F ((noEr r).mapE (clrE i))) : SO X Wno (clrD i E) I1 H1 δ1 σ1 F1 (noEr r) := by
  have key : ∀ {δ' : Env} {I' H' : Hp} {σ' : St} {F' : FF} {B : FP}, Go X.K X.mg I1 H1 δ1 σ1 F1 I' H' δ' σ' F' B → ∃ F2, Go X.K X.mg I H δ σ F I' H' (clrE i δ') (σ'.set i none) F2 B := fun {δ' I' H' σ' F' B} g' => by
    obtain ⟨d1, e1⟩ := clr_fl g' q
    obtain ⟨F2, g2⟩ := clr_go (g.trans0 g') e1
    have ec : clrE i δ' = δ'.set i ⟨false, false, .hole⟩ := by unfold clrE; rw [e1]
    exact ⟨F2, by rw [ec]; exact g2⟩
  cases r with
  | nx δ' => exact fun I' H' σ' F' g' => let ⟨F2, g2⟩ := key g'; h I' H' _ F2 g2
  | bk δ' => exact fun I' H' σ' F' g' => let ⟨F2, g2⟩ := key g'; h I' H' _ F2 g2
  | ct δ' => exact fun I' H' σ' F' g' => let ⟨F2, g2⟩ := key g'; h I' H' _ F2 g2
  | rt d δ' => exact fun v I' H' σ' F' B g' r => let ⟨F2, g2⟩ := key g'; h v I' H' _ F2 B g2 r
  | er x δ' => exact h
  | stk => exact h
end
section
variable {X : Cx} {W : WX}
/-- what a suite is asked -/
def tSu (X : Cx) (i : Nat) (hf : Addr → Str → SF) (a : Addr) (cls : Value) (d : Option Addr) : TS := fun D σ H => ∃ (c : Str) (I : Hp) (δ : Env) (F : FF), cls = .ref (He.ga X.K c) ∧ X.mg c = some (.ref (He.ga X.K c)) ∧ d = none ∧ Stt X.K X.mg I H δ σ F ∧ SO X Wno D I H δ σ F (noEr (hf a c δ))
def tBo (X : Cx) (bf : SF) (W : WX) : TS := fun D σ H => ∃ (I : Hp) (δ : Env) (F : FF), Stt X.K X.mg I H δ σ F ∧ SO X W D I H δ σ F (bf δ)
theorem noEr_so {E : Ends} {I H : Hp} {δ : Env} {σ : St} {F : FF} {r : Out} (h : SO X Wno E I H δ σ F (noEr r)) : SO X Wno E I H δ σ F r := by
  cases r <;> first | exact h | exact h.elim
theorem takes_no {X : Cx} : Takes X Wno := fun _ _ ⟨_, _, _, _, _, _, _, _, _, _, _, _, _, _, _, _, w⟩ => w.elim
/-- ms: which own classes the clause takes -/
theorem ds_try_as {x n : Str} {i : Nat} {body suite : List Stmt} {b₀ : Stmt} {np pos pos' : Pos} {bf : SF} {hf : Addr → Str → SF} {ms : List (Str × Bool)} (hs : X.stack = X.env :: X.outer) (hfr : X.env.frame = some X.env.locals) (hN : X.N.Nodup) (hi : X.N[i]? = some n) (hln : X.env.kindOf n = some .local)
    (hc : Names X x (.ref (He.ga X.K x))) (tk : Takes X W)
    (hms : ∀ p ∈ ms, X.mg p.1 = some (.ref (He.ga X.K p.1)) ∧ PySem.W.exmOne X.K (.ref (He.ga X.K p.1)) (.ref (He.ga X.K x)) = some p.2)
    (hb : ∀ (W : WX) (pn : List (Addr × Obj)) (xe : Value → Shared → Prop), Takes (X.tr pn xe) W → PassesOwn (model X.prog X.w) X.A X.env xe → DSs (X.tr pn xe) W body bf)
    (hsu : ∀ (a : Addr) (oe : Obj) (c : Str) (pn : List (Addr × Obj)), Zc (.ref (He.ga X.K c)) none oe → (∃ vs, oe.data = .fields vs) → Takes (X.suite a ((a, oe) :: pn)) Wno → DSs (X.suite a ((a, oe) :: pn)) Wno (b₀ :: suite) (hf a c)) :
    DS X W (.Try body [.ExceptHandler (some (.Name x np)) (some n) (b₀ :: suite) pos'] [] [] pos) (sTryAs i (fun c => (ms.find? fun p => decide (p.1 = c)).map (·.2)) bf hf) := by
  refine ⟨_, ps_try_as (tb := tBo X bf) (ts := tSu X i hf) hs hfr hN hi hln hc tk (fun W' pn xe tk' po => ?_) (fun a oe cls d pn hz hv => ?_), fun I H δ σ F E s h => ?_⟩
  · obtain ⟨t, p, q⟩ := hb W' pn xe tk' po
    exact ⟨fun pins s σ H D J ⟨I, δ, F, st, so⟩ => p.run pins s σ H D J (q I H δ σ F D st so)⟩
  · refine ⟨fun pins s σ H D J ⟨c, I, δ, F, ec, gc, ed, st, so⟩ => ?_⟩
    subst ec ed
    obtain ⟨t, p, q⟩ := hsu a oe c pn hz hv takes_no
    exact p.run pins s σ H D J (q I H δ σ F D st (noEr_so so))
  · refine ⟨I, δ, F, s, ?_⟩
    unfold sTryAs at h
    cases q : bf δ with
    | nx δ' => rw [q] at h; exact h
    | bk δ' => rw [q] at h; exact h
    | ct δ' => rw [q] at h; exact h
    | rt d δ' => rw [q] at h; exact h
    | stk => rw [q] at h; exact h
    | er y δ1 =>
      rw [q] at h
      intro cls dx I' H' σ' F' g xr
      cases y with
      | exn c fs xs =>
        cases fs with
        | cons f fs => exact h.elim
        | nil =>
          cases xs with
          | cons z zs => exact h.elim
          | nil =>
            obtain ⟨C, gC, rfl, rfl⟩ := xr
            simp only at h
            cases hm : (ms.find? fun p => decide (p.1 = c)).map (·.2) with
            | none => rw [hm] at h; exact h.elim
            | some b =>
              rw [hm] at h
              obtain ⟨p, hp, rfl⟩ := Option.map_eq_some_iff.mp hm
              have hmem := List.mem_of_find?_eq_some hp
              have hpc : p.1 = c := by have := List.find?_some hp; simpa using this
              obtain ⟨g1, k1⟩ := hms p hmem
              rw [hpc] at g1 k1
              rw [gC] at g1
              obtain rfl : C = He.ga X.K c := Value.ref.inj (Option.some.inj g1)
              refine ⟨p.2, k1, fun hb a na => ?_, fun hb => ?_⟩
              · rw [hb] at h
                simp only at h
                split at h
                · rename_i hall
                  rw [← hall a] at h
                  unfold hnd at h
                  cases q2 : setN i (exV a c) δ1 with
                  | none => rw [q2] at h; exact h.elim
                  | some δ2 =>
                    rw [q2] at h
                    obtain ⟨I2, F2, g2⟩ := set_go g (v := .ref a) (d := exV a c) .exn0 q2
                    have e2 : ∃ d0, δ2[i]? = some ⟨false, false, d0⟩ := by
                      unfold setN at q2
                      cases q3 : δ1[i]? with
                      | none => rw [q3] at q2; cases q2
                      | some s0 =>
                        rw [q3] at q2
                        obtain ⟨io, lk, d0⟩ := s0
                        cases io <;> cases lk <;> simp only [reduceCtorEq, Option.some.injEq] at q2
                        subst q2
                        exact ⟨_, List.getElem?_set_self (List.getElem?_eq_some_iff.mp q3).1⟩
                    obtain ⟨d0, e2⟩ := e2
                    exact ⟨c, I2, δ2, F2, rfl, gC, rfl, g2.st, so_clr g2 e2 h⟩
                · exact h.elim
              · rw [hb] at h
                exact h (.ref (He.ga X.K c)) none I' H' σ' F' g ⟨_, gC, rfl, rfl⟩
      | _ => exact h.elim
end
end DL

set_option linter.all false
set_option autoImplicit false
set_option maxRecDepth 100000
namespace DL
open PySem PySem.Spec L2
open PyProof.Rows hiding St
/-! ### lent: what a def only reads -/
mutual
/-- no frozen list in it -/
def sol : D → Bool
  | .lst o xs => o && sols xs
  | .tup xs => sols xs
  | .dic _ _ xs => sols xs
  | .ins _ _ _ xs => sols xs
  | .exn _ _ xs => sols xs
  | _ => true
def sols : List D → Bool
  | [] => true
  | d :: ds => sol d && sols ds
end
mutual
/-- one's own in it: lists alone -/
def onlyL : D → Bool
  | .lst true xs => onlyLs xs
  | d => ice d
def onlyLs : List D → Bool
  | [] => true
  | d :: ds => onlyL d && onlyLs ds
end
section
variable {K : PySem.W.Frag} {mg : Str → Option Value} {I H I4 I' H' : Hp} {L : FP}
/-- L: lists, taken out of I' -/
structure Cut (I' I4 : Hp) (L : FP) : Prop where
  eq : ∀ a, ¬ L a → I4 a = I' a
  no : ∀ a, L a → I4 a = none
  ls : ∀ a, L a → ∃ xs, I' a = some (.lst xs)
theorem Cut.keep (c : Cut I' I4 L) {a : Addr} {o : HO} (h : I' a = some o) (n : ∀ xs, o ≠ .lst xs) : I4 a = some o := by
  by_cases q : L a
  · obtain ⟨xs, e⟩ := c.ls a q
    rw [h] at e
    exact absurd (Option.some.inj e) (n xs)
  · rw [c.eq a q]; exact h
mutual
theorem Rep.thaw (c : Cut I' I4 L) : ∀ {d : D} {v : V} {A : FP}, Rep K mg I' H' d v A → sol d = true → Rep K mg I4 H' d v A
  | _, _, _, .hole, _ => .hole
  | _, _, _, .non, _ => .non
  | _, _, _, .bl, _ => .bl
  | _, _, _, .int, _ => .int
  | _, _, _, .str, _ => .str
  | _, _, _, .ty, _ => .ty
  | _, _, _, .cls e, _ => .cls e
  | _, _, _, .lstO hA e r hB nB, h => .lstO hA e (Reps.thaw c r (by simpa [sol] using h)) hB nB
  | _, _, _, .lstF e r, h => by simp [sol] at h
  | _, _, _, .tup e r, h => .tup (c.keep e fun _ z => by cases z) (Reps.thaw c r (by simpa [sol] using h))
  | _, _, _, .dicKO hA e hk nd r hB nB, h => .dicKO hA e hk nd (Reps.thaw c r (by simpa [sol] using h)) hB nB
  | _, _, _, .dicKF e hk nd r, h => .dicKF (c.keep e fun _ z => by cases z) hk nd (Reps.thaw c r (by simpa [sol] using h))
  | _, _, _, .dicTO hA e hk nd r hB nB, h => .dicTO hA e hk nd (Reps.thaw c r (by simpa [sol] using h)) hB nB
  | _, _, _, .dicTF e hk nd r, h => .dicTF (c.keep e fun _ z => by cases z) hk nd (Reps.thaw c r (by simpa [sol] using h))
  | _, _, _, .insO hA e hc hk r hB nB, h => .insO hA e hc hk (Reps.thaw c r (by simpa [sol] using h)) hB nB
  | _, _, _, .insF e hc hk r, h => .insF (c.keep e fun _ z => by cases z) hc hk (Reps.thaw c r (by simpa [sol] using h))
  | _, _, _, .exn0, _ => .exn0
  | _, _, _, .exnF e hk r, h => .exnF (c.keep e fun _ z => by cases z) hk (Reps.thaw c r (by simpa [sol, sols] using h))
theorem Reps.thaw (c : Cut I' I4 L) : ∀ {ds : List D} {vs : List V} {A : FP}, Reps K mg I' H' ds vs A → sols ds = true → Reps K mg I4 H' ds vs A
  | _, _, _, .nil, _ => .nil
  | _, _, _, .cons r rs x y z, h => by
    simp only [sols, Bool.and_eq_true] at h
    exact .cons (Rep.thaw c r h.1) (Reps.thaw c rs h.2) x y z
end
def LsIn (H : Hp) (A : FP) : Prop := ∀ a, A a → ∃ xs, H a = some (.lst xs)
mutual
/-- the lists alone -/
theorem Rep.thin : ∀ {d : D} {v : V} {A : FP}, Rep K mg I H d v A → onlyL d = true → ∃ A0, Le A0 A ∧ Rep K mg I H d v A0 ∧ LsIn H A0
  | _, _, A, .lstO (a := a) hA e r hB nB, h => by
    obtain ⟨B0, l0, r0, s0⟩ := Reps.thin r (by simpa [onlyL] using h)
    refine ⟨FP.or (fun b => b = a) B0, fun b hb => ?_, .lstO (.inl rfl) e r0 le_r (fun z => nB (l0 _ z)), fun b hb => ?_⟩
    · rcases hb with rfl | hb
      · exact hA
      · exact hB _ (l0 _ hb)
    · rcases hb with rfl | hb
      · exact ⟨_, e⟩
      · exact s0 b hb
  | _, _, _, .lstF e r, h => ⟨no, no_le, .lstF e r, fun _ h => h.elim⟩
  | _, _, _, .hole, h => by simp [onlyL, DL.ice] at h
  | _, _, _, .non, _ => ⟨no, no_le, .non, fun _ h => h.elim⟩
  | _, _, _, .bl, _ => ⟨no, no_le, .bl, fun _ h => h.elim⟩
  | _, _, _, .int, _ => ⟨no, no_le, .int, fun _ h => h.elim⟩
  | _, _, _, .str, _ => ⟨no, no_le, .str, fun _ h => h.elim⟩
  | _, _, _, .ty, _ => ⟨no, no_le, .ty, fun _ h => h.elim⟩
  | _, _, _, .cls e, _ => ⟨no, no_le, .cls e, fun _ h => h.elim⟩
  | _, _, _, .tup e r, h => ⟨no, no_le, .tup e (Reps.ice r (by simpa [onlyL, DL.ice] using h)), fun _ h => h.elim⟩
  | _, _, _, .dicKO .., h => by simp [onlyL, DL.ice] at h
  | _, _, _, .dicKF e hk nd r, h => ⟨no, no_le, .dicKF e hk nd r, fun _ h => h.elim⟩
  | _, _, _, .dicTO .., h => by simp [onlyL, DL.ice] at h
  | _, _, _, .dicTF e hk nd r, h => ⟨no, no_le, .dicTF e hk nd r, fun _ h => h.elim⟩
  | _, _, _, .insO .., h => by simp [onlyL, DL.ice] at h
  | _, _, _, .insF e hc hk r, h => ⟨no, no_le, .insF e hc hk r, fun _ h => h.elim⟩
  | _, _, _, .exn0, _ => ⟨no, no_le, .exn0, fun _ h => h.elim⟩
  | _, _, _, .exnF e hk r, _ => ⟨no, no_le, .exnF e hk r, fun _ h => h.elim⟩
theorem Reps.thin : ∀ {ds : List D} {vs : List V} {A : FP}, Reps K mg I H ds vs A → onlyLs ds = true → ∃ A0, Le A0 A ∧ Reps K mg I H ds vs A0 ∧ LsIn H A0
  | _, _, _, .nil, _ => ⟨no, no_le, .nil, fun _ h => h.elim⟩
  | _, _, _, .cons r rs x y z, h => by
    simp only [onlyLs, Bool.and_eq_true] at h
    obtain ⟨B0, l0, r0, s0⟩ := Rep.thin r h.1
    obtain ⟨C0, l1, r1, s1⟩ := Reps.thin rs h.2
    exact ⟨FP.or B0 C0, fun a ha => ha.elim (fun q => x _ (l0 _ q)) (fun q => y _ (l1 _ q)), .cons r0 r1 le_l le_r (z.mono l0 l1), fun a ha => ha.elim (s0 a) (s1 a)⟩
end
end
def lendA (m : Nat → Bool) (as : List Arg) : List Arg := as.mapIdx fun i a => if m i = true then ⟨a.lk, fz a.d⟩ else a
def backD (m : Nat → Bool) (as : List Arg) (ds : List D) : List D := ds.mapIdx fun i d => match as[i]? with
  | some a => if (m i || ice a.d) = true then a.d else d
  | none => d
def okLend (m : Nat → Bool) (as : List Arg) (ds : List D) (r : D) : Bool := sol r && (decide (as.length = ds.length) && ((as.zipIdx.all fun p => !m p.2 || onlyL p.1.d) && as.zipIdx.all fun p => m p.2 || (ice p.1.d || (match ds[p.2]? with
  | some d => sol d
  | none => true))))
theorem ice_onlyL : ∀ d : D, ice d = true → onlyL d = true
  | .lst true _, h => by simp [DL.ice] at h
  | .lst false _, h => h
  | .hole, h => h
  | .non, h => h
  | .bl _, h => h
  | .int _, h => h
  | .str _, h => h
  | .ty _, h => h
  | .cls _, h => h
  | .tup _, h => h
  | .dic _ _ _, h => h
  | .ins _ _ _ _, h => h
  | .exn _ _ _, h => h
theorem lendA_len {m : Nat → Bool} {as : List Arg} : (lendA m as).length = as.length := by simp [lendA]
theorem lendA_get {m : Nat → Bool} {as : List Arg} {i : Nat} : (lendA m as)[i]? = as[i]?.map fun a => if m i = true then ⟨a.lk, fz a.d⟩ else a := by
  unfold lendA
  rw [List.getElem?_mapIdx]
section
variable {K : PySem.W.Frag} {mg : Str → Option Value} {I H : Hp} {F : FF} {m : Nat → Bool} {as : List Arg} {ds : List D} {vs : List V} {r : D}
def Res (m : Nat → Bool) (as : List Arg) (i : Nat) : Prop := ∃ a, as[i]? = some a ∧ (m i = true ∨ ice a.d = true)
open Classical in
theorem lend_go (s : Stt K mg I H (aE as) (vs.map some) F) (ok : okLend m as ds r = true) : ∃ I2 F2, Stt K mg I2 H (aE (lendA m as)) (vs.map some) F2 ∧
    ∀ I' H' F' B, Go K mg I2 H (aE (lendA m as)) (vs.map some) F2 I' H' (dE (lendA m as) ds) (vs.map some) F' B → ∃ I4 F4, Go K mg I H (aE as) (vs.map some) F I4 H' (dE as (backD m as ds)) (vs.map some) F4 B ∧ ∀ x v A, sol x = true → Rep K mg I' H' x v A → Rep K mg I4 H' x v A := by
  unfold okLend at ok
  simp only [Bool.and_eq_true, decide_eq_true_eq] at ok
  obtain ⟨_, hlen, h1, h2⟩ := ok
  have hol : ∀ i a, as[i]? = some a → (m i = true ∨ ice a.d = true) → onlyL a.d = true := fun i a e q => by
    rcases q with q | q
    · have := List.all_eq_true.mp h1 (a, i) (by rw [List.mem_zipIdx_iff_getElem?]; exact e)
      simpa [q] using this
    · exact ice_onlyL _ q
  have hso : ∀ i a d, as[i]? = some a → ¬ (m i = true ∨ ice a.d = true) → ds[i]? = some d → sol d = true := fun i a d e q e2 => by
    have := List.all_eq_true.mp h2 (a, i) (by rw [List.mem_zipIdx_iff_getElem?]; exact e)
    simp only [e2] at this
    rcases Bool.or_eq_true _ _ ▸ this with z | z
    · exact absurd (.inl z) q
    · rcases Bool.or_eq_true _ _ ▸ z with z | z
      · exact absurd (.inr z) q
      · exact z
  have sg : ∀ i a, as[i]? = some a → (m i = true ∨ ice a.d = true) → ∃ v, (vs.map some)[i]? = some (some v) ∧ Rep K mg I H a.d v (F i) := fun i a e q => by
    rcases s.rep i _ (aE_get e) with z | z
    · have := hol i a e q
      simp only at z
      rw [z] at this
      simp [onlyL, DL.ice] at this
    · exact z
  have hex : ∀ i, ∃ A0 : FP, ∀ a, as[i]? = some a → (m i = true ∨ ice a.d = true) → Le A0 (F i) ∧ LsIn H A0 ∧ ∃ v, (vs.map some)[i]? = some (some v) ∧ Rep K mg I H a.d v A0 := fun i => by
    by_cases q : Res m as i
    · obtain ⟨a, e, q⟩ := q
      obtain ⟨v, e2, rp⟩ := sg i a e q
      obtain ⟨A0, l0, r0, s0⟩ := Rep.thin rp (hol i a e q)
      refine ⟨A0, fun a' e' _ => ?_⟩
      rw [e] at e'
      cases e'
      exact ⟨l0, s0, v, e2, r0⟩
    · exact ⟨no, fun a e q' => absurd ⟨a, e, q'⟩ q⟩
  obtain ⟨F0, hF⟩ := Classical.axiomOfChoice hex
  let L : FP := fun x => ∃ i a, as[i]? = some a ∧ (m i = true ∨ ice a.d = true) ∧ F0 i x
  have Lh : ∀ x, L x → (∃ xs, H x = some (.lst xs)) ∧ I x = none := fun x ⟨i, a, e, q, h⟩ => by
    obtain ⟨l0, s0, _⟩ := hF i a e q
    exact ⟨s0 x h, (s.own i x (l0 x h)).2⟩
  let I2 : Hp := fun x => if L x then H x else I x
  let F2 : FF := fun i => if Res m as i then no else F i
  have I2L : ∀ x, L x → I2 x = H x := fun x h => if_pos h
  have I2N : ∀ x, ¬ L x → I2 x = I x := fun x h => if_neg h
  have F2R : ∀ i, Res m as i → F2 i = no := fun i h => if_pos h
  have F2N : ∀ i, ¬ Res m as i → F2 i = F i := fun i h => if_neg h
  have LR : ∀ i x, L x → F i x → Res m as i := fun i x ⟨j, a, e, q, h⟩ hx => by
    by_cases ij : j = i
    · subst ij; exact ⟨a, e, q⟩
    · exact (s.dis j i ij x ((hF j a e q).1 x h) hx).elim
  have sub1 : Sub I I2 := fun x o h => by
    rw [I2N x fun l => by rw [(Lh x l).2] at h; cases h]; exact h
  have ownL : Own I H L := fun x l => ⟨(Lh x l).1.elim fun xs e => ⟨_, e, fun ps z => by cases z⟩, (Lh x l).2⟩
  have sub2 : SubH K I2 H := s.sub.freeze ownL Le.refl I2L I2N
  have st2 : Stt K mg I2 H (aE (lendA m as)) (vs.map some) F2 := by
    refine ⟨sub2, fun i => ?_, fun i j n => ?_, fun i sl e => ?_, fun i h => ?_, by rw [← s.len]; simp [aE, lendA_len]⟩
    · by_cases q : Res m as i
      · rw [F2R i q]; exact own_no
      · rw [F2N i q]
        intro x hx
        refine ⟨(s.own i x hx).1, ?_⟩
        rw [I2N x fun l => q (LR i x l hx)]
        exact (s.own i x hx).2
    · by_cases q : Res m as i
      · rw [F2R i q]; exact no_dis
      · by_cases q2 : Res m as j
        · rw [F2R j q2]; exact dis_no
        · rw [F2N i q, F2N j q2]; exact s.dis i j n
    · simp only [aE, List.getElem?_map, lendA_get, Option.map_eq_some_iff] at e
      obtain ⟨a2, ⟨a, e, rfl⟩, rfl⟩ := e
      by_cases q : m i = true ∨ ice a.d = true
      · obtain ⟨l0, s0, v, e2, r0⟩ := hF i a e q
        have fr : Rep K mg I2 H (fz a.d) v no := Rep.freeze (H' := H) sub1 r0 fun x o h1 h2 => by rw [I2L x ⟨i, a, e, q, h1⟩]; exact h2
        rw [F2R i ⟨a, e, q⟩]
        refine .inr ⟨v, e2, ?_⟩
        by_cases hm : m i = true
        · rw [if_pos hm]; exact fr
        · rw [if_neg hm]
          rw [fz_ice _ (q.resolve_left hm)] at fr
          exact fr
      · have nr : ¬ Res m as i := fun ⟨a', e', q'⟩ => by rw [e] at e'; cases e'; exact q q'
        rw [F2N i nr, if_neg fun z => q (.inl z)]
        rcases s.rep i _ (aE_get e) with z | ⟨v, e2, rp⟩
        · exact .inl z
        · exact .inr ⟨v, e2, Rep.frame (H' := H) sub1 rp fun _ _ _ h => h⟩
    · have hi : as.length ≤ i := by simpa [aE, lendA_len] using h
      by_cases q : Res m as i
      · exact F2R i q
      · rw [F2N i q]; exact s.emp i (by simpa [aE] using hi)
  refine ⟨I2, F2, st2, fun I' H' F' B g => ?_⟩
  let I4 : Hp := fun x => if L x then none else I' x
  let F4 : FF := fun i => if Res m as i then F i else F' i
  have I4L : ∀ x, L x → I4 x = none := fun x h => if_pos h
  have I4N : ∀ x, ¬ L x → I4 x = I' x := fun x h => if_neg h
  have F4R : ∀ i, Res m as i → F4 i = F i := fun i h => if_pos h
  have F4N : ∀ i, ¬ Res m as i → F4 i = F' i := fun i h => if_neg h
  have cut : Cut I' I4 L := ⟨I4N, I4L, fun x l => by
    obtain ⟨⟨xs, e⟩, _⟩ := Lh x l
    exact ⟨xs, g.ev.inc x _ (by rw [I2L x l]; exact e)⟩⟩
  have U2 : ∀ x, U (aE (lendA m as)) F2 x → ∃ j, ¬ Res m as j ∧ F j x ∧ U (aE as) F x := fun x ⟨j, sl, e, lk, h⟩ => by
    by_cases q : Res m as j
    · rw [F2R j q] at h; exact h.elim
    · rw [F2N j q] at h
      simp only [aE, List.getElem?_map, lendA_get, Option.map_eq_some_iff] at e
      obtain ⟨a2, ⟨a, e, rfl⟩, rfl⟩ := e
      have hm : ¬ m j = true := fun z => q ⟨a, e, .inl z⟩
      rw [if_neg hm] at lk
      exact ⟨j, q, h, j, _, aE_get e, lk, h⟩
  have FF2 : ∀ j x, F2 j x → ¬ Res m as j ∧ F j x := fun j x h => by
    by_cases q : Res m as j
    · rw [F2R j q] at h; exact h.elim
    · rw [F2N j q] at h; exact ⟨q, h⟩
  have nU : ∀ i x, Res m as i → F i x → ¬ U (aE (lendA m as)) F2 x := fun i x q h u => by
    obtain ⟨j, nq, hj, _⟩ := U2 x u
    exact s.dis i j (fun z => nq (z ▸ q)) x h hj
  have hk : ∀ i x, Res m as i → F i x → ∀ o, H x = some o → H' x = some o := fun i x q h o e => g.ev.out x o e (nU i x q h) ((s.own i).at h e)
  have i4 : ∀ i x, Res m as i → F i x → I4 x = none := fun i x q h => by
    by_cases l : L x
    · exact I4L x l
    · rw [I4N x l]
      refine Classical.byContradiction fun z => ?_
      rcases g.ev.ice x z with z | z | z
      · rw [I2N x l] at z; exact z (s.own i x h).2
      · exact nU i x q h z
      · obtain ⟨⟨o, e, te⟩, _⟩ := s.own i x h
        rw [z] at e; cases e
  have sub3 : Sub I I4 := fun x o h => by
    have nl : ¬ L x := fun l => by rw [(Lh x l).2] at h; cases h
    rw [I4N x nl]
    exact g.ev.inc x o (by rw [I2N x nl]; exact h)
  have own4 : ∀ A, Own I' H' A → Own I4 H' A := fun A h x hx => by
    refine ⟨(h x hx).1, ?_⟩
    by_cases l : L x
    · exact I4L x l
    · rw [I4N x l]; exact (h x hx).2
  have hbl : (backD m as ds).length = ds.length := by simp [backD]
  have bget : ∀ i a d, as[i]? = some a → ds[i]? = some d → (backD m as ds)[i]? = some (if (m i || ice a.d) = true then a.d else d) := fun i a d e1 e2 => by
    unfold backD
    rw [List.getElem?_mapIdx, e2]
    simp only [Option.map_some, e1]
  have dget : ∀ i a, as[i]? = some a → ∃ d, ds[i]? = some d := fun i a e => ⟨_, List.getElem?_eq_getElem (by rw [← hlen]; exact (List.getElem?_eq_some_iff.mp e).1)⟩
  refine ⟨I4, F4, ⟨⟨g.st.sub.cut cut.no cut.eq cut.ls, fun i => ?_, fun i j n => ?_, fun i sl e => ?_, fun i h => ?_, ?_⟩, ⟨sub3, fun x o h nu t => ?_, fun x ps h => g.ev.tb x ps h, fun x h => ?_, fun x h => ?_⟩, own4 B g.own, fun i => ?_, fun i sl e lk => ?_, fun _ _ _ _ => rfl, ?_⟩, fun x v A h rp => Rep.thaw cut rp h⟩
  · by_cases q : Res m as i
    · rw [F4R i q]
      intro x hx
      obtain ⟨⟨o, e, te⟩, _⟩ := s.own i x hx
      exact ⟨⟨o, hk i x q hx o e, te⟩, i4 i x q hx⟩
    · rw [F4N i q]; exact own4 _ (g.st.own i)
  · have mix : ∀ i j, Res m as i → ¬ Res m as j → Dis (F i) (F' j) := fun i j q q2 x hx hy => by
      rcases g.foot hy with ⟨k, hz⟩ | z
      · obtain ⟨nq, hz⟩ := FF2 k x hz
        exact s.dis i k (fun z => nq (z ▸ q)) x hx hz
      · obtain ⟨⟨o, e, te⟩, _⟩ := s.own i x hx
        rw [z] at e; cases e
    by_cases q : Res m as i
    · by_cases q2 : Res m as j
      · rw [F4R i q, F4R j q2]; exact s.dis i j n
      · rw [F4R i q, F4N j q2]; exact mix i j q q2
    · by_cases q2 : Res m as j
      · rw [F4N i q, F4R j q2]; exact (mix j i q2 q).symm
      · rw [F4N i q, F4N j q2]; exact g.st.dis i j n
  · obtain ⟨a, d, e1, e2, rfl⟩ := dE_inv e
    obtain ⟨d0, e3⟩ := dget i a e1
    rw [bget i a d0 e1 e3] at e2
    by_cases q : m i = true ∨ ice a.d = true
    · have e2' : d = a.d := by
        rw [if_pos (by simpa using q)] at e2; exact (Option.some.inj e2).symm
      subst e2'
      obtain ⟨v, e4, rp⟩ := sg i a e1 q
      rw [F4R i ⟨a, e1, q⟩]
      exact .inr ⟨v, e4, Rep.frame sub3 rp fun x o hx ho => hk i x ⟨a, e1, q⟩ hx o ho⟩
    · have e2' : d = d0 := by
        rw [if_neg (by simpa using q)] at e2; exact (Option.some.inj e2).symm
      subst e2'
      have nr : ¬ Res m as i := fun ⟨a', e', q'⟩ => by rw [e1] at e'; cases e'; exact q q'
      rw [F4N i nr]
      have e5 : (lendA m as)[i]? = some a := by rw [lendA_get, e1]; simp only [Option.map_some]; rw [if_neg fun z => q (.inl z)]
      rcases g.st.rep i _ (dE_get e5 e3) with z | ⟨v, e4, rp⟩
      · exact .inl z
      · exact .inr ⟨v, e4, Rep.thaw cut rp (hso i a d e1 q e3)⟩
  · rw [dE_len (by rw [hbl]; exact hlen)] at h
    have nr : ¬ Res m as i := fun ⟨a, e, _⟩ => by
      have := (List.getElem?_eq_some_iff.mp e).1
      omega
    rw [F4N i nr]
    exact g.st.emp i (by rw [dE_len (by rw [lendA_len]; exact hlen), lendA_len]; exact h)
  · rw [dE_len (by rw [hbl]; exact hlen), ← s.len]; simp [aE]
  · exact g.ev.out x o h (fun u => nu (U2 x u).choose_spec.2.2) t
  · rcases h with ⟨j, sl, e, lk, h⟩ | h
    · obtain ⟨a, d, e1, e2, rfl⟩ := dE_inv e
      by_cases q : Res m as j
      · rw [F4R j q] at h
        exact .inl ⟨j, _, aE_get e1, lk, h⟩
      · rw [F4N j q] at h
        obtain ⟨d0, e3⟩ := dget j a e1
        have e5 : (lendA m as)[j]? = some a := by rw [lendA_get, e1]; simp only [Option.map_some]; rw [if_neg fun z => q ⟨a, e1, .inl z⟩]
        rcases g.ev.foot x (.inl ⟨j, _, dE_get e5 e3, lk, h⟩) with u | z
        · exact .inl (U2 x u).choose_spec.2.2
        · exact .inr z
    · rcases g.ev.foot x (.inr h) with u | z
      · exact .inl (U2 x u).choose_spec.2.2
      · exact .inr z
  · have nl : ¬ L x := fun l => h (I4L x l)
    rw [I4N x nl] at h
    rcases g.ev.ice x h with z | u | z
    · rw [I2N x nl] at z; exact .inl z
    · exact .inr (.inl (U2 x u).choose_spec.2.2)
    · exact .inr (.inr z)
  · by_cases q : Res m as i
    · rw [F4R i q]
      intro x hx hb
      rcases g.ev.foot x (.inr hb) with u | z
      · exact nU i x q hx u
      · obtain ⟨⟨o, e, te⟩, _⟩ := s.own i x hx
        rw [z] at e; cases e
    · rw [F4N i q]; exact g.dis i
  · simp only [aE, List.getElem?_map, Option.map_eq_some_iff] at e
    obtain ⟨a, e1, rfl⟩ := e
    obtain ⟨d0, e3⟩ := dget i a e1
    by_cases q : m i = true ∨ ice a.d = true
    · refine ⟨?_, F4R i ⟨a, e1, q⟩, rfl⟩
      have := dE_get e1 (bget i a d0 e1 e3)
      rw [if_pos (by simpa using q)] at this
      exact this
    · have nr : ¬ Res m as i := fun ⟨a', e', q'⟩ => by rw [e1] at e'; cases e'; exact q q'
      have e5 : (lendA m as)[i]? = some a := by rw [lendA_get, e1]; simp only [Option.map_some]; rw [if_neg fun z => q (.inl z)]
      obtain ⟨b1, b2, _⟩ := g.lk i _ (aE_get e5) lk
      refine ⟨?_, by rw [F4N i nr, b2, F2N i nr], rfl⟩
      have c1 := dE_get e1 (bget i a d0 e1 e3)
      rw [if_neg (by simpa using q)] at c1
      rw [c1]
      rw [dE_get e5 e3] at b1
      exact b1
  · exact dE_fl (by rw [hbl]; exact hlen)
end
end DL

set_option linter.all false
set_option autoImplicit false
set_option maxRecDepth 100000
namespace DL
open PySem PySem.Spec L2
open PyProof.Rows hiding St
/-- a def, some of its arguments lent -/
def lendFn (m : Nat → Bool) (G : DFn) : DFn := fun as => match G (lendA m as) with
  | .ok r ds => if okLend m as ds r = true then .ok r (backD m as ds) else .stk
  | .er (.exn c [] []) ds => if okLend m as ds .non = true then .er (.exn c [] []) (backD m as ds) else .stk
  | _ => .stk
section
variable {P : Program} {w : World} {K : PySem.W.Frag} {mg : Str → Option Value} {base : Heap} {at_ : Str × Option Str} {lvl n : Nat} {ps : List Str} {G : DFn} {dvs : List V}
theorem spD_lend {m : Nat → Bool} {vs : List V} {H : Hp} {Q : VK} {E : XK} (h : spD K mg n (lendFn m G) vs H Q E) : spD K mg n G vs H Q E := by
  obtain ⟨hl, as, I, F, s, h⟩ := h
  unfold lendFn at h
  cases q : G (lendA m as) with
  | stk => rw [q] at h; exact h.elim
  | ok r ds =>
    rw [q] at h
    by_cases ok : okLend m as ds r = true
    · simp only [ok, if_true] at h
      obtain ⟨I2, F2, st2, k⟩ := lend_go s ok
      refine ⟨hl, lendA m as, I2, F2, st2, ?_⟩
      rw [q]
      intro v I' H' F' B g rp
      obtain ⟨I4, F4, g4, th⟩ := k I' H' F' B g
      refine h v I4 H' F4 B g4 (th r v B ?_ rp)
      unfold okLend at ok
      simp only [Bool.and_eq_true] at ok
      exact ok.1
    · simp only [ok] at h; exact h.elim
  | er x ds =>
    rw [q] at h
    cases x with
    | exn c fs xs =>
      cases fs with
      | cons f fs => exact h.elim
      | nil =>
        cases xs with
        | cons z zs => exact h.elim
        | nil =>
          by_cases ok : okLend m as ds .non = true
          · simp only [ok, if_true] at h
            obtain ⟨I2, F2, st2, k⟩ := lend_go s ok
            refine ⟨hl, lendA m as, I2, F2, st2, ?_⟩
            rw [q]
            intro cls dx I' H' F' g xr
            obtain ⟨I4, F4, g4, th⟩ := k I' H' F' no g
            exact h cls dx I4 H' F4 g4 xr
          · simp only [ok] at h; exact h.elim
    | _ => exact h.elim
theorem DefOk.lend (m : Nat → Bool) (h : DefOk P w K mg base at_ lvl ps G) : DefOk P w K mg base at_ lvl ps (lendFn m G) :=
  let ⟨fd, a, b⟩ := h.ex; ⟨⟨fd, a.imp fun _ _ _ _ q => spD_lend q, b⟩, h.kp⟩
theorem DefOkB.lend (m : Nat → Bool) (h : DefOkB P w K mg base at_ lvl ps G dvs) : DefOkB P w K mg base at_ lvl ps (lendFn m G) dvs :=
  let ⟨fd, ds, a, b⟩ := h.ex; ⟨⟨fd, ds, a.imp fun _ _ _ _ q => spD_lend q, b⟩, h.kp⟩
end
end DL

set_option linter.all false
set_option autoImplicit false
set_option maxRecDepth 100000
namespace DL
open PySem PySem.Spec L2
open PyProof.Rows hiding St
/-! ### a slot lent while an expression is reckoned -/
open Classical in
/-- the other slots: frozen and as they were, or without frozen lists -/
noncomputable def keepE (i : Nat) (δ δ' : Env) : Prop := ∀ (j : Nat) (s s' : Sl), j ≠ i → δ[j]? = some s → δ'[j]? = some s' → (s'.d = s.d ∧ ice s.d = true) ∨ sol s'.d = true
def lendE (i : Nat) (δ : Env) : Env := match δ[i]? with
  | some s => δ.set i ⟨s.io, s.lk, fz s.d⟩
  | none => δ
def backE (i : Nat) (δ δ' : Env) : Env := match δ[i]? with
  | some s => δ'.set i s
  | none => δ'
def lendOk (i : Nat) (δ : Env) : Bool := match δ[i]? with
  | some s => onlyL s.d
  | none => false
open Classical in
noncomputable def eLend (i : Nat) (f : EF) : EF := fun δ => match f (lendE i δ) with
  | .ok (.tmp r) δ' => if lendOk i δ = true ∧ keepE i δ δ' ∧ sol r = true then .ok (.tmp r) (backE i δ δ') else .stk
  | _ => .stk
section
variable {K : PySem.W.Frag} {mg : Str → Option Value} {I H : Hp} {δ : Env} {σ : St} {F : FF} {i : Nat}
open Classical in
theorem lend_env (s : Stt K mg I H δ σ F) (ok : lendOk i δ = true) : ∃ I2 F2, Stt K mg I2 H (lendE i δ) σ F2 ∧
    ∀ I' H' δ' F' B, Go K mg I2 H (lendE i δ) σ F2 I' H' δ' σ F' B → keepE i δ δ' → ∃ I4 F4, Go K mg I H δ σ F I4 H' (backE i δ δ') σ F4 B ∧ ∀ x v A, sol x = true → Rep K mg I' H' x v A → Rep K mg I4 H' x v A := by
  unfold lendOk at ok
  obtain ⟨s0, e0⟩ : ∃ s0, δ[i]? = some s0 := by
    cases h : δ[i]? with
    | none => rw [h] at ok; cases ok
    | some s0 => exact ⟨s0, rfl⟩
  rw [e0] at ok
  simp only at ok
  have eL : lendE i δ = δ.set i ⟨s0.io, s0.lk, fz s0.d⟩ := by unfold lendE; rw [e0]
  have hi : i < δ.length := (List.getElem?_eq_some_iff.mp e0).1
  obtain ⟨v0, ev0, rp0⟩ : ∃ v, σ[i]? = some (some v) ∧ Rep K mg I H s0.d v (F i) := by
    rcases s.rep i s0 e0 with z | z
    · rw [z] at ok; simp [onlyL, DL.ice] at ok
    · exact z
  obtain ⟨L, l0, r0, sL⟩ := Rep.thin rp0 ok
  have Lh : ∀ x, L x → (∃ xs, H x = some (.lst xs)) ∧ I x = none := fun x h => ⟨sL x h, (s.own i x (l0 x h)).2⟩
  let I2 : Hp := fun x => if L x then H x else I x
  let F2 : FF := fun j => if j = i then no else F j
  have I2L : ∀ x, L x → I2 x = H x := fun x h => if_pos h
  have I2N : ∀ x, ¬ L x → I2 x = I x := fun x h => if_neg h
  have F2R : F2 i = no := if_pos rfl
  have F2N : ∀ j, j ≠ i → F2 j = F j := fun j h => if_neg h
  have sub1 : Sub I I2 := fun x o h => by
    rw [I2N x fun l => by rw [(Lh x l).2] at h; cases h]; exact h
  have ownL : Own I H L := fun x l => ⟨(Lh x l).1.elim fun xs e => ⟨_, e, fun ps z => by cases z⟩, (Lh x l).2⟩
  have sub2 : SubH K I2 H := s.sub.freeze ownL Le.refl I2L I2N
  have getL : ∀ j, j ≠ i → (lendE i δ)[j]? = δ[j]? := fun j h => by rw [eL, List.getElem?_set_ne (Ne.symm h)]
  have getI : (lendE i δ)[i]? = some ⟨s0.io, s0.lk, fz s0.d⟩ := by rw [eL, List.getElem?_set_self hi]
  have lenL : (lendE i δ).length = δ.length := by rw [eL, List.length_set]
  have st2 : Stt K mg I2 H (lendE i δ) σ F2 := by
    refine ⟨sub2, fun j => ?_, fun j k n => ?_, fun j sl e => ?_, fun j h => ?_, by rw [lenL]; exact s.len⟩
    · by_cases q : j = i
      · rw [q, F2R]; exact own_no
      · rw [F2N j q]
        intro x hx
        refine ⟨(s.own j x hx).1, ?_⟩
        rw [I2N x fun l => s.dis j i q x hx (l0 x l)]
        exact (s.own j x hx).2
    · by_cases q : j = i
      · rw [q, F2R]; exact no_dis
      · by_cases q2 : k = i
        · rw [q2, F2R]; exact dis_no
        · rw [F2N j q, F2N k q2]; exact s.dis j k n
    · by_cases q : j = i
      · subst q
        rw [getI] at e
        cases e
        rw [F2R]
        exact .inr ⟨v0, ev0, Rep.freeze (H' := H) sub1 r0 fun x o h1 h2 => by rw [I2L x h1]; exact h2⟩
      · rw [getL j q] at e
        rw [F2N j q]
        rcases s.rep j sl e with z | ⟨v, e2, rp⟩
        · exact .inl z
        · exact .inr ⟨v, e2, Rep.frame (H' := H) sub1 rp fun _ _ _ h => h⟩
    · rw [lenL] at h
      rw [F2N j (by omega)]; exact s.emp j h
  refine ⟨I2, F2, st2, fun I' H' δ' F' B g ke => ?_⟩
  let I4 : Hp := fun x => if L x then none else I' x
  let F4 : FF := fun j => if j = i then F i else F' j
  have I4L : ∀ x, L x → I4 x = none := fun x h => if_pos h
  have I4N : ∀ x, ¬ L x → I4 x = I' x := fun x h => if_neg h
  have F4R : F4 i = F i := if_pos rfl
  have F4N : ∀ j, j ≠ i → F4 j = F' j := fun j h => if_neg h
  have cut : Cut I' I4 L := ⟨I4N, I4L, fun x l => by
    obtain ⟨⟨xs, e⟩, _⟩ := Lh x l
    exact ⟨xs, g.ev.inc x _ (by rw [I2L x l]; exact e)⟩⟩
  have U2 : ∀ x, U (lendE i δ) F2 x → ∃ j, j ≠ i ∧ F j x ∧ U δ F x := fun x ⟨j, sl, e, lk, h⟩ => by
    by_cases q : j = i
    · rw [q, F2R] at h; exact h.elim
    · rw [F2N j q] at h
      rw [getL j q] at e
      exact ⟨j, q, h, j, sl, e, lk, h⟩
  have nU : ∀ x, F i x → ¬ U (lendE i δ) F2 x := fun x h u => by
    obtain ⟨j, nq, hj, _⟩ := U2 x u
    exact s.dis i j (Ne.symm nq) x h hj
  have hk : ∀ x, F i x → ∀ o, H x = some o → H' x = some o := fun x h o e => g.ev.out x o e (nU x h) ((s.own i).at h e)
  have i4 : ∀ x, F i x → I4 x = none := fun x h => by
    by_cases l : L x
    · exact I4L x l
    · rw [I4N x l]
      refine Classical.byContradiction fun z => ?_
      rcases g.ev.ice x z with z | z | z
      · rw [I2N x l] at z; exact z (s.own i x h).2
      · exact nU x h z
      · obtain ⟨⟨o, e, te⟩, _⟩ := s.own i x h
        rw [z] at e; cases e
  have sub3 : Sub I I4 := fun x o h => by
    have nl : ¬ L x := fun l => by rw [(Lh x l).2] at h; cases h
    rw [I4N x nl]
    exact g.ev.inc x o (by rw [I2N x nl]; exact h)
  have own4 : ∀ A, Own I' H' A → Own I4 H' A := fun A h x hx => by
    refine ⟨(h x hx).1, ?_⟩
    by_cases l : L x
    · exact I4L x l
    · rw [I4N x l]; exact (h x hx).2
  have len' : δ'.length = δ.length := by
    have := congrArg List.length g.fl
    rw [List.length_map, List.length_map] at this
    rw [this, lenL]
  have eB : backE i δ δ' = δ'.set i s0 := by unfold backE; rw [e0]
  have getBL : ∀ j, j ≠ i → (backE i δ δ')[j]? = δ'[j]? := fun j h => by rw [eB, List.getElem?_set_ne (Ne.symm h)]
  have getBI : (backE i δ δ')[i]? = some s0 := by rw [eB, List.getElem?_set_self (by omega)]
  have lenB : (backE i δ δ').length = δ.length := by rw [eB, List.length_set, len']
  have mix : ∀ j, j ≠ i → Dis (F i) (F' j) := fun j q x hx hy => by
    rcases g.foot hy with ⟨k, hz⟩ | z
    · by_cases qk : k = i
      · rw [qk, F2R] at hz; exact hz.elim
      · rw [F2N k qk] at hz
        exact s.dis i k (Ne.symm qk) x hx hz
    · obtain ⟨⟨o, e, te⟩, _⟩ := s.own i x hx
      rw [z] at e; cases e
  refine ⟨I4, F4, ⟨⟨g.st.sub.cut cut.no cut.eq cut.ls, fun j => ?_, fun j k n => ?_, fun j sl e => ?_, fun j h => ?_, by rw [lenB]; exact s.len⟩, ⟨sub3, fun x o h nu t => ?_, fun x ps h => g.ev.tb x ps h, fun x h => ?_, fun x h => ?_⟩, own4 B g.own, fun j => ?_, fun j sl e lk => ?_, fun _ _ _ _ => rfl, ?_⟩, fun x v A h rp => Rep.thaw cut rp h⟩
  · by_cases q : j = i
    · rw [q, F4R]
      intro x hx
      obtain ⟨⟨o, e, te⟩, _⟩ := s.own i x hx
      exact ⟨⟨o, hk x hx o e, te⟩, i4 x hx⟩
    · rw [F4N j q]; exact own4 _ (g.st.own j)
  · by_cases q : j = i
    · by_cases q2 : k = i
      · exact absurd (q.trans q2.symm) n
      · rw [q, F4R, F4N k q2]; exact mix k q2
    · by_cases q2 : k = i
      · rw [q2, F4R, F4N j q]; exact (mix j q).symm
      · rw [F4N j q, F4N k q2]; exact g.st.dis j k n
  · by_cases q : j = i
    · subst q
      rw [getBI] at e
      cases e
      rw [F4R]
      exact .inr ⟨v0, ev0, Rep.frame sub3 rp0 fun x o hx ho => hk x hx o ho⟩
    · rw [getBL j q] at e
      rw [F4N j q]
      obtain ⟨s1, e1⟩ : ∃ s1, δ[j]? = some s1 := ⟨_, List.getElem?_eq_getElem (by have := (List.getElem?_eq_some_iff.mp e).1; omega)⟩
      rcases ke j s1 sl q e1 e with ⟨z1, z2⟩ | z
      · rcases s.rep j s1 e1 with z | ⟨v, e2, rp⟩
        · rw [z] at z2; simp [DL.ice] at z2
        · refine .inr ⟨v, e2, ?_⟩
          rw [z1]
          exact (Rep.frame sub3 (Rep.ice rp z2) fun _ _ h => h.elim).mono no_le
      · rcases g.st.rep j sl e with z3 | ⟨v, e2, rp⟩
        · exact .inl z3
        · exact .inr ⟨v, e2, Rep.thaw cut rp z⟩
  · rw [lenB] at h
    rw [F4N j (by omega)]
    exact g.st.emp j (by omega)
  · exact g.ev.out x o h (fun u => nu (U2 x u).choose_spec.2.2) t
  · rcases h with ⟨j, sl, e, lk, h⟩ | h
    · by_cases q : j = i
      · subst q
        rw [getBI] at e
        cases e
        rw [F4R] at h
        exact .inl ⟨j, _, e0, lk, h⟩
      · rw [F4N j q] at h
        rw [getBL j q] at e
        rcases g.ev.foot x (.inl ⟨j, sl, e, lk, h⟩) with u | z
        · exact .inl (U2 x u).choose_spec.2.2
        · exact .inr z
    · rcases g.ev.foot x (.inr h) with u | z
      · exact .inl (U2 x u).choose_spec.2.2
      · exact .inr z
  · have nl : ¬ L x := fun l => h (I4L x l)
    rw [I4N x nl] at h
    rcases g.ev.ice x h with z | u | z
    · rw [I2N x nl] at z; exact .inl z
    · exact .inr (.inl (U2 x u).choose_spec.2.2)
    · exact .inr (.inr z)
  · by_cases q : j = i
    · rw [q, F4R]
      intro x hx hb
      rcases g.ev.foot x (.inr hb) with u | z
      · exact nU x hx u
      · obtain ⟨⟨o, e, te⟩, _⟩ := s.own i x hx
        rw [z] at e; cases e
    · rw [F4N j q]; exact g.dis j
  · by_cases q : j = i
    · subst q
      rw [e0] at e
      cases e
      exact ⟨getBI, F4R, rfl⟩
    · have e2 := e
      rw [← getL j q] at e2
      obtain ⟨b1, b2, _⟩ := g.lk j sl e2 lk
      exact ⟨by rw [getBL j q]; exact b1, by rw [F4N j q, b2, F2N j q], rfl⟩
  · rw [eB, List.map_set, g.fl, eL, List.map_set]
    refine List.ext_getElem? fun j => ?_
    by_cases q : j = i
    · subst q
      rw [List.set_set, List.getElem?_set_self (by simpa using hi), List.getElem?_map, e0]; rfl
    · rw [List.getElem?_set_ne (Ne.symm q), List.getElem?_set_ne (Ne.symm q)]
end
section
variable {X : Cx} {W : WX}
theorem se_lend {i : Nat} {t : TE} {f : EF} (h1 : SE X W t f) : SE X W t (eLend i f) := by
  intro I H δ σ F Q s h
  unfold eLend at h
  cases q : f (lendE i δ) with
  | stk => rw [q] at h; exact h.elim
  | er x δ' => rw [q] at h; exact h.elim
  | ok o δ' =>
    rw [q] at h
    cases o with
    | tmp r =>
      by_cases c : lendOk i δ = true ∧ keepE i δ δ' ∧ sol r = true
      · simp only [if_pos c] at h
        obtain ⟨I2, F2, st2, k⟩ := lend_env s c.1
        refine h1 I2 H (lendE i δ) σ F2 Q st2 ?_
        rw [q]
        intro v I' H' F' B g rp
        obtain ⟨I4, F4, g4, th⟩ := k I' H' δ' F' B g c.2.1
        exact h v I4 H' F4 B g4 (th r v B c.2.2 rp)
      · simp only [if_neg c] at h; exact h.elim
    | _ => exact h.elim
theorem de_lend {i : Nat} {e : Expr} {f : EF} (h : DE X W e f) : DE X W e (eLend i f) :=
  let ⟨t, p, q⟩ := h; ⟨t, p, se_lend q⟩
end
end DL

set_option linter.all false
set_option autoImplicit false
set_option maxRecDepth 100000
namespace DL
open PySem PySem.Spec L2
open PyProof.Rows hiding St
section
variable {X : Cx} {o e : Expr} {es : List Expr} {to te : TE} {ta : TA} {f : Str} {p p' p1 p2 pos : Pos}
/-- R.__init__(self, ..), R an own class under ValueError without own __init__ -/
theorem pe_ceinit {r : Str} {R : Addr} {pl : Sem Bool} (hg : Gl X r) (hm : X.mg r = some (.ref R)) (hdb : (r == ("__debug__" : Str)) = false)
    (hs : PySem.W.specialIn X.K (.ref R) "__getattribute__" = some (some (.builtin "type.__getattribute__")))
    (ht : PySem.W.typeIn X.K (.ref R) = some (.type "type")) (hrd : PySem.W.readsIn X.K R (.type "type") = true) (vV : PySem.W.findCls X.K (.ref R) (.type "type") "__init__" = some (.val (.builtin "ValueError.__init__"))) (ha : PA X (e :: es) ta)
    (hc : eval (.Call (.Attribute (.Name r p1) "__init__" p2) (e :: es) [] pos) X.env = (do
      let ov ← eval (.Name r p1) X.env
      standAt p2.atName
      let (f, first) ← holding [ov] (getMethod ov "__init__" pl)
      callWith pos f first (backTo pos (starEach (e :: es) X.env)) (backToKw pos (keywordEach [] X.env))) := by rfl)
    (he : starEach (e :: es) X.env = (false, eval e X.env) :: starEach es X.env := by rfl) (hpl : (backTo pos (starEach es X.env)).any (·.1) = false := by rfl) :
    PE X (.Call (.Attribute (.Name r p1) "__init__" p2) (e :: es) [] pos) (tVeI X.K ta) := by
  refine ⟨fun pins s σ H Q I h => ?_⟩
  refine PySem.W.methodCall_KW (ld_glob I hg hm ?_ hdb) hc
  obtain ⟨m, fr⟩ := I.fr
  refine PySem.W.method_of_cls fr I.ok.mod.kin hs (PySem.W.cls_val fr I.ok.mod.kin (mc := .type "type") ht hrd vV (by decide +kernel) ?_)
  show wpAny _ _ (callWith pos (Value.builtin "ValueError.__init__") [] (backTo pos (starEach (e :: es) X.env)) []) _ _ _
  refine PyProof.Rows.callWith_method1 (thn (ha.run pos pins _ σ H _ (I.tok _) h) fun us s1 ⟨vs, H1, I1, r1, a, C, ws, ev, hl, T, ea, q⟩ => ?_) he hpl
  subst ev
  cases r1 with
  | @cons _ u0 _ ur ra rw' =>
    obtain rfl : u0 = Value.ref a := ra
    have hlen : ur.length ≤ sizeLine := by
      rw [← Paired.length rw', sizeLine_eq]
      omega
    exact oinit_ok T I1 ea hlen fun s' J => ⟨.non, H1, J, rfl, q⟩
end
section
variable {P : Program} {w : World} {K : PySem.W.Frag} {mg : Str → Option Value} {base : Heap}
/-- what such an __init__ does -/
def spXI (K : PySem.W.Frag) (f : Str) : Sp := fun vs H Q E => ∃ (a C : Addr) (y : V), vs = [.ref a, y] ∧ OexC K C ∧ H a = some (exo a C none) ∧ PySem.W.findIn K (.ref C) f = some none ∧ ∀ dx, H dx = none → dx ≠ a → Q .non (upd (upd H dx (exd dx [(f, y)])) a (exo a C (some dx)))
theorem exinit_ok {qual : Str} {params : Arguments} {scope : Scope} {dvs : List V} {kws : List (Str × V)} {fI : Addr} {fd : FuncData} {k : Nat} {r f pn msg : Str} {R : Addr} {j : Nat} {p1 p2 p3 p4 p5 p6 p7 p8 p9 : Pos}
    {body : List Stmt} (Fn : FunD K "__init__" qual params body scope dvs kws fI fd) (S : FnScope ["self", pn] ["self", pn] scope)
    (hgl : scope.names.lookup r = some .globalImplicit) (hv0 : scope.names.lookup ("self" : Str) = some NameKind.local) (hv1 : scope.names.lookup pn = some NameKind.local) (hdb : (r == ("__debug__" : Str)) = false) (hdb1 : (pn == ("__debug__" : Str)) = false) (hdc1 : (pn == ("__classdict__" : Str)) = false)
    (hm : mg r = some (.ref R)) (hs : PySem.W.specialIn K (.ref R) "__getattribute__" = some (some (.builtin "type.__getattribute__"))) (ht : PySem.W.typeIn K (.ref R) = some (.type "type")) (hrd : PySem.W.readsIn K R (.type "type") = true)
    (vV : PySem.W.findCls K (.ref R) (.type "type") "__init__" = some (.val (.builtin "ValueError.__init__"))) {pl : PySem.Env → Sem Bool}
    (hbd : body = [.Expr (.Call (.Attribute (.Name r p1) "__init__" p2) [.Name "self" p3, .Constant (.str msg) j p4] [] p5) p5, .Assign [.Attribute (.Name "self" p6) f p7] (.Name pn p8) p9])
    (hc : ∀ env : PySem.Env, eval (.Call (.Attribute (.Name r p1) "__init__" p2) [.Name "self" p3, .Constant (.str msg) j p4] [] p5) env = (do
      let ov ← eval (.Name r p1) env
      standAt p2.atName
      let (f, first) ← holding [ov] (getMethod ov "__init__" (pl env))
      callWith p5 f first (backTo p5 (starEach [.Name "self" p3, .Constant (.str msg) j p4] env)) (backToKw p5 (keywordEach [] env)))) :
    FnOk P w K mg base (L2.CX P w) (k + 1) fI fd ["self", pn] (spXI K f) := by
  subst hbd
  refine Fn.ok S (fun vs H Q E ⟨a, C, y, e, _⟩ => by rw [e]; rfl) fun cdv A outer s H vs Q E hr hsp => ?_
  obtain ⟨a, C, y, rfl, T, ha, hno, hq⟩ := hsp
  refine ⟨_, pss_cons (ps_expr (pe_ceinit (pl := pl (cxOf (L2.CX P w) P w K mg base ["self", pn] qual scope fI cdv A outer s H E).env) hgl hm hdb hs ht hrd vV (pa_cons (pe_var (i := 0) rfl ?v1) (pa_cons pe_str pa_nil)) ?hc rfl rfl)) (pss_one (ps_ost (pe_var (i := 0) rfl ?v2) (pe_var (i := 1) rfl ?v3 hdb1 hdc1) ?hsw)), ?_⟩
  case v1 => exact .inl hv0
  case v2 => exact .inl hv0
  case v3 => exact .inl hv1
  case hc => exact hc _
  case hsw => rfl
  refine ⟨.ref a, rfl, a, C, [.str msg], rfl, by simp, T, ha, ?_⟩
  exact ⟨y, rfl, .ref a, rfl, a, C, rfl, T, hno, .inl ⟨ha, fun dx n ne => hq dx n ne⟩⟩
end
end DL

set_option linter.all false
set_option autoImplicit false
set_option maxRecDepth 100000
namespace DL
open PySem PySem.Spec L2
open PyProof.Rows hiding St
section
variable {K : PySem.W.Frag} {mg : Str → Option Value} {I H : Hp} {p : Addr}
theorem newV_xd (hs : SubH K I H) (hp : H p = none) (v : V) (fvs : List (Str × V)) : NewV K mg I H .hole v (upd I p (.xd fvs)) (upd H p (.xd fvs)) no := by
  have ne : ∀ a o, H a = some o → a ≠ p := fun a o h z => by rw [z, hp] at h; cases h
  refine ⟨Ev.of (fun a o h => ?_) (fun a o h _ => ?_) (fun _ h => h.elim) (fun a h => ?_) fun _ h => h.elim, hs.ice hp, own_no, .hole⟩
  · rw [upd_ne (ne a o (hs a o h))]; exact h
  · rw [upd_ne (ne a o h)]; exact h
  · by_cases q : a = p
    · subst q; exact .inr (.inr hp)
    · rw [upd_ne q] at h; exact .inl h
end
def sRaise1 (x f : Str) (fe : EF) : SF := fun δ => (eV fe δ).bindS fun o δ1 => match o with
  | .tmp d => if ice d = true then .er (.exn x [f] [d]) δ1 else .stk
  | _ => .stk
section
variable {X : Cx} {W : WX}
theorem passes_no {CX : CXT} {X : Cx} (h : CX = L2.CX X.prog X.w) : Passes CX X (fun _ _ _ => False) := by
  subst h
  intro pins σ H s e s' _ c
  obtain ⟨_, _, _, _, _, _, _, _, _, _, _, _, w⟩ := c
  exact w.elim
theorem ds_raise1 {x f : Str} {C fI : Addr} {k : Nat} {fd : FuncData} {pn : Str} {e : Expr} {fe : EF} {p pos pos2 : Pos} (hc : X.calm = true) (tk : Takes X W) (T : OexC X.K C) (r : Raises X (.ref C)) (iC : PySem.W.findIn X.K (.ref C) "__init__" = some (some (.ref fI))) (tI : PySem.W.typeIn X.K (.ref fI) = some (.type "function"))
    (hno : PySem.W.findIn X.K (.ref C) f = some none) (F1 : FnOk X.prog X.w X.K X.mg X.base (L2.CX X.prog X.w) k fI fd ["self", pn] (spXI X.K f)) (hr : Room (k + 1) X.A) (hb : Binds X.K fd ["self", pn] []) (hg : Gl X x) (hm : X.mg x = some (.ref C)) (he : DE X W e fe)
    (hdb : (x == ("__debug__" : Str)) = false := by decide) (hse : starEach [e] X.env = (false, eval e X.env) :: starEach [] X.env := by rfl) (hpl : (backTo pos (starEach [] X.env)).any (·.1) = false := by rfl) :
    DS X W (.Raise (some (.Call (.Name x p) [e] [] pos)) none pos2) (sRaise1 x f fe) := by
  obtain ⟨te, pe, qe⟩ := he
  refine ⟨_, ps_raise hc tk (pmk_oex (ds := []) (dvs := []) T iC tI F1 hr hb .nil (passes_no rfl) hg hm (pa_cons pe pa_nil (hs := hse)) hdb hse hpl), fun I H δ σ F E s h => ?_⟩
  unfold sRaise1 at h
  show te σ H fun y H1 => [y].length ≤ 1000 ∧ ∀ a, H1 a = none → spXI X.K f (.ref a :: ([y] ++ [])) (upd H1 a (exo a C none)) _ _
  refine sv_ok (Q := fun y H1 => [y].length ≤ 1000 ∧ ∀ a, H1 a = none → spXI X.K f (.ref a :: ([y] ++ [])) (upd H1 a (exo a C none)) _ _) qe s (fun d δ' e => ?_) (fun x δ' e => ?_) fun e => ?_
  · rw [e] at h
    intro v I' H' F' B g rp
    by_cases hi : ice d = true
    · simp only [Out, R.bindS, hi, if_true] at h
      refine ⟨by simp, fun a ha => ⟨a, C, v, rfl, T, upd_same, hno, fun dx hdx ne => ?_⟩⟩
      rw [upd_ne ne] at hdx
      refine ⟨rfl, dx, [(f, v)], upd_same, ?_, hdx, ?_⟩
      · rw [upd_ne ne, upd_same]
      · have eH : upd (del (upd (upd (upd H' a (exo a C none)) dx (exd dx [(f, v)])) a (exo a C (some dx))) a) dx (.xd [(f, v)]) = upd H' dx (.xd [(f, v)]) := by
          funext b
          by_cases q : b = dx
          · subst q; rw [upd_same, upd_same]
          · rw [upd_ne q, upd_ne q]
            by_cases q2 : b = a
            · subst q2; rw [del_same]; exact ha.symm
            · rw [del_ne q2, upd_ne q2, upd_ne q, upd_ne q2]
        rw [eH]
        have n := newV_xd (K := X.K) (mg := X.mg) g.st.sub hdx .non [(f, v)]
        have g2 := Go.new g.st n
        refine h (.ref C) (some dx) _ _ σ F' (g.trans0 g2) ⟨C, dx, [(f, v)], hm, rfl, rfl, upd_same, rfl, ?_⟩
        exact .cons (B := no) (C := no) ((Rep.frame n.ev.inc (rp.ice hi) fun _ _ z => z.elim)) .nil no_le no_le dis_no
    · simp only [R.bindS, hi] at h
      exact h.elim
  · rw [e] at h; exact ErS.o h
  · rw [e] at h; exact h.elim
end
end DL

set_option linter.all false
set_option autoImplicit false
set_option maxRecDepth 100000
namespace DL
open PySem PySem.Spec L2
open PyProof.Rows hiding St
/-- an own class of exceptions with an own __init__ -/
def oexB (K : PySem.W.Frag) (C : Addr) : Bool := (match K.lookup C with
  | some ⟨.type "type", _, .cls cd, sl⟩ => (match cd.mro, sl.toList with
    | .ref C' :: bm, [_, _, _, _, some (.builtin n), _] => C' == C && (n == "ValueError.__new__" && (!cd.hasDel && (cd.hasDict && PySem.HandSPX.refsVE bm)))
    | _, _ => false)
  | _ => false) && (decide (PySem.W.findIn K (.ref C) "__setattr__" = some (some (.builtin "object.__setattr__"))) && (decide (PySem.W.subIn K (.ref C) (.type "BaseException") = some true) && (decide (PySem.W.typeIn K (.ref C) = some (.type "type")) && PySem.W.keepIn K (.ref C))))
theorem oexB_ok {K : PySem.W.Frag} {C : Addr} (h : oexB K C = true) : OexC K C := by
  unfold oexB at h
  rw [Bool.and_eq_true, Bool.and_eq_true, Bool.and_eq_true, Bool.and_eq_true, decide_eq_true_eq, decide_eq_true_eq, decide_eq_true_eq] at h
  obtain ⟨q, h1, h2, h3, h4⟩ := h
  refine ⟨?_, h1, h2, h3, h4⟩
  split at q
  · rename_i dd cd sl ho
    split at q
    · rename_i C' bm k0 k1 k2 k3 n k5 hm hs
      simp only [Bool.and_eq_true, beq_iff_eq, Bool.not_eq_true'] at q
      obtain ⟨rfl, rfl, hdel, hd0, hre⟩ := q
      obtain ⟨nm, bs, mro, ns, qn, hd, sn, sub, ab, col, del⟩ := cd
      dsimp only at hm hdel hd0
      subst hm hdel hd0
      have hsl : sl = #[k0, k1, k2, k3, some (.builtin "ValueError.__new__"), k5] := by
        obtain ⟨l⟩ := sl
        simp only at hs
        rw [hs]
      subst hsl
      exact ⟨nm, qn, ns, bs, bm, sn, sub, ab, col, dd, k0, k1, k2, k3, k5, ho, hre⟩
    · cases q
  · cases q

/-! ### isinstance(e, ..), e with an own dict -/
def rXisD (K : PySem.W.Frag) (D a d : Addr) : List V → Hp → VK → Prop := fun xs H Q => (∃ fs, H d = some (.xd fs)) ∧ ((∃ (c : V) (cv : Value) (b : Bool), xs = [.ref a, c] ∧ (∀ u, RelV c u → u = cv) ∧ PySem.W.kitOne K (.ref D) cv = some b ∧ Q (.bl b) H) ∨
  ∃ (t : Addr) (vs : List V) (its : List Value) (b : Bool), xs = [.ref a, .ref t] ∧ SqT K H t vs ∧ (∀ us, Vals vs us → us = its) ∧ PySem.W.kitAny K (.ref D) its = some b ∧ Q (.bl b) H)
theorem call_xisD {X : Cx} {a D d : Addr} {oe : Obj} {pn : List (Addr × Obj)} (C : ExcC X.K D) (hz : Zc (.ref D) (some d) oe) (hf : ∃ vs, oe.data = .fields vs) : CallR (X.suite a ((a, oe) :: pn)) (.builtin "isinstance") (rXisD X.K D a d) := by
  intro pins s σ H xs us Q I r h
  obtain ⟨⟨fs, ed⟩, h⟩ := h
  have hx : ObjOk X.prog X.w H s.heap d (.xd fs) := I.hok d _ ed
  obtain ⟨mA, hns, hr⟩ := hx
  obtain ⟨od, ho, hl⟩ := lookIn_ns hns
  obtain ⟨hget, _⟩ := I.pin (a, oe) (List.mem_append_left _ List.mem_cons_self)
  obtain ⟨vs', hd⟩ := hf
  have J : PySem.W.InstAt s.heap a oe D (some od) := ⟨hget, hz.1, by unfold PySem.W.notCls; rw [hd] <;> rfl, by rw [hz.2]; exact ho⟩
  have hcl : (PySem.W.clsIn X.K D).isSome = true := by
    obtain ⟨cd, hc, _⟩ := PySem.W.any_some C.hd
    rw [hc]; rfl
  have kx := PySem.W.kitx_exc (x := a) (ox := oe) (od := some od) hcl C.hg C.hk C.hs C.ha C.hn C.ht C.hm
  rcases h with ⟨c, cv, b, rfl, hcv, e, q⟩ | ⟨t, vs, its, b, rfl, ht, hv, e, q⟩
  · cases r with
    | cons rx rr =>
      cases rr with
      | cons rt rr =>
        cases rr
        cases rx
        have ec := hcv _ rt
        subst ec
        exact PySem.W.kia_one kx I.kIn J e (fun z => nomatch z) fun tk => ⟨.bl b, H, I.kept (t' := tk) fun _ _ z => z, rfl, q⟩
  · obtain ⟨us2, rv, ⟨o, ho2, hoc, n, hod⟩, _⟩ := I.tuple ht
    have e1 := hv _ rv
    subst e1
    cases r with
    | cons rx rr =>
      cases rr with
      | cons rt rr =>
        cases rr
        cases rx
        cases rt
        obtain ⟨oc, od2, oda, osl⟩ := o
        dsimp only at hoc hod
        subst hoc hod
        exact PySem.W.kia_tup kx I.kIn J ho2 e (fun z => nomatch z) fun tk => ⟨.bl b, H, I.kept (t' := tk) fun _ _ z => z, rfl, q⟩
end DL

set_option linter.all false
set_option autoImplicit false
set_option maxRecDepth 100000
namespace DL
open PySem PySem.Spec L2
open PyProof.Rows hiding St
/-! ### try .. except c as n, exceptions with or without fields -/
def gXisD (a d : Addr) (isx : D → Option Bool) : D → D → Option D
  | .exn _ (_ :: _) (.int z :: .int y :: _), .tup ds => if z = (a : Int) ∧ y = (d : Int) then (anyX isx ds).map .bl else none
  | .exn _ (_ :: _) (.int z :: .int y :: _), e => if z = (a : Int) ∧ y = (d : Int) then (isx e).map .bl else none
  | _, _ => none
section
variable {X : Cx}
theorem snd_xisD {C a d0 : Addr} {isx : D → Option Bool} (h : IsxOk X C isx) : Snd X (rXisD X.K C a d0) (g2L (gXisD a d0 isx)) := by
  intro I H ds vs d Q hs rd e hq
  cases rd with
  | nil => cases e
  | cons B1 r1 o1 rd => cases rd with
    | nil => cases e
    | cons B2 r2 o2 rd => cases rd with
      | cons _ _ _ _ => cases e
      | nil =>
        rename_i d1 v1 d2 v2
        cases r1 <;> try (simp only [g2L, gXisD, reduceCtorEq] at e)
        case exnF c f fs xs fvs a' d' hxd hk rs0 =>
          by_cases hz : ((a' : Nat) : Int) = (a : Int) ∧ ((d' : Nat) : Int) = (d0 : Int)
          · have ea : a' = a := Int.ofNat.inj hz.1
            have eb : d' = d0 := Int.ofNat.inj hz.2
            subst ea eb
            have hxd2 : ∃ fs, H d' = some (.xd fs) := ⟨_, hs _ _ hxd⟩
            have one : ∀ b, isx d2 = some b → d = .bl b → rXisD X.K C a' d' [.ref a', v2] H Q := fun b h1 h2 => by
              subst h2
              obtain ⟨cv, u1, k1⟩ := h d2 b h1 _ _ _ _ r2
              exact ⟨hxd2, .inl ⟨v2, cv, b, rfl, u1, k1, hq _ I H no (NewV.same hs .bl)⟩⟩
            cases r2 with
            | tup ht rs =>
              simp only [g2L, gXisD, and_self, if_true, Option.map_eq_some_iff] at e
              obtain ⟨b, e1, e2⟩ := e
              subst e2
              obtain ⟨its, u1, k1⟩ := anyX_ok h rs e1
              exact ⟨hxd2, .inr ⟨_, _, its, b, rfl, SqT.of (hs _ _ ht), u1, k1, hq _ I H no (NewV.same hs .bl)⟩⟩
            | _ =>
              simp only [g2L, gXisD, and_self, if_true, Option.map_eq_some_iff] at e
              obtain ⟨b, e1, e2⟩ := e
              exact one b e1 e2.symm
          · cases d2 <;> simp [g2L, gXisD, hz] at e
end
/-- e.f -/
def eXf (a d : Addr) (f : Str) (fo : EF) : EF := fun δ => (fo δ).bind fun o δ1 => match o with
  | .tmp (.exn _ (g :: gs) (.int z :: .int y :: xs)) => if z = (a : Int) ∧ y = (d : Int) then (match ((g :: gs).zip xs).lookup f with
    | some x => .ok (.tmp x) δ1
    | none => .stk) else .stk
  | _ => .stk
def exW (a d : Addr) (c : Str) : List Str → List D → D
  | [], _ => .exn c [] [.int (a : Nat)]
  | f :: fs, xs => .exn c (f :: fs) (.int (a : Nat) :: .int (d : Nat) :: xs)
def hndX (i : Nat) (hf : Bool → Addr → Addr → Str → SF) (c : Str) (fs : List Str) (xs : List D) (δ1 : Env) (a d : Addr) : Out := match setN i (exW a d c fs xs) δ1 with
  | some δ2 => (noEr (hf (!fs.isEmpty) a d c δ2)).mapE (clrE i)
  | none => .stk
open Classical in
noncomputable def sTryX (i : Nat) (m : Str → Option Bool) (bf : SF) (hf : Bool → Addr → Addr → Str → SF) : SF := fun δ => match bf δ with
  | .er (.exn c fs xs) δ1 => match m c with
    | some true => if ∀ a d, hndX i hf c fs xs δ1 a d = hndX i hf c fs xs δ1 0 0 then hndX i hf c fs xs δ1 0 0 else .stk
    | some false => .er (.exn c fs xs) δ1
    | none => .stk
  | .er _ _ => .stk
  | r => r
section
variable {X : Cx} {W : WX}
/-- what a suite is asked -/
def tSuX (X : Cx) (i : Nat) (hf : Bool → Addr → Addr → Str → SF) (a : Addr) (cls : Value) (d : Option Addr) : TS := fun D σ H => ∃ (c : Str) (b : Bool) (dd : Addr) (I : Hp) (δ : Env) (F : FF), cls = .ref (He.ga X.K c) ∧ X.mg c = some (.ref (He.ga X.K c)) ∧ d = (if b = true then some dd else none) ∧ Stt X.K X.mg I H δ σ F ∧ SO X Wno D I H δ σ F (noEr (hf b a dd c δ))
/-- ms: which own classes the clause takes -/
theorem ds_try_x {x n : Str} {i : Nat} {body suite : List Stmt} {b₀ : Stmt} {np pos pos' : Pos} {bf : SF} {hf : Bool → Addr → Addr → Str → SF} {ms : List (Str × Bool)} (hs : X.stack = X.env :: X.outer) (hfr : X.env.frame = some X.env.locals) (hN : X.N.Nodup) (hi : X.N[i]? = some n) (hln : X.env.kindOf n = some .local)
    (hc : Names X x (.ref (He.ga X.K x))) (tk : Takes X W)
    (hms : ∀ p ∈ ms, X.mg p.1 = some (.ref (He.ga X.K p.1)) ∧ PySem.W.exmOne X.K (.ref (He.ga X.K p.1)) (.ref (He.ga X.K x)) = some p.2)
    (hb : ∀ (W : WX) (pn : List (Addr × Obj)) (xe : Value → Shared → Prop), Takes (X.tr pn xe) W → PassesOwn (model X.prog X.w) X.A X.env xe → DSs (X.tr pn xe) W body bf)
    (hsu : ∀ (b : Bool) (a d : Addr) (oe : Obj) (c : Str) (pn : List (Addr × Obj)), Zc (.ref (He.ga X.K c)) (if b = true then some d else none) oe → (∃ vs, oe.data = .fields vs) → Takes (X.suite a ((a, oe) :: pn)) Wno → DSs (X.suite a ((a, oe) :: pn)) Wno (b₀ :: suite) (hf b a d c)) :
    DS X W (.Try body [.ExceptHandler (some (.Name x np)) (some n) (b₀ :: suite) pos'] [] [] pos) (sTryX i (fun c => (ms.find? fun p => decide (p.1 = c)).map (·.2)) bf hf) := by
  refine ⟨_, ps_try_as (tb := tBo X bf) (ts := tSuX X i hf) hs hfr hN hi hln hc tk (fun W' pn xe tk' po => ?_) (fun a oe cls d pn hz hv => ?_), fun I H δ σ F E s h => ?_⟩
  · obtain ⟨t, p, q⟩ := hb W' pn xe tk' po
    exact ⟨fun pins s σ H D J ⟨I, δ, F, st, so⟩ => p.run pins s σ H D J (q I H δ σ F D st so)⟩
  · refine ⟨fun pins s σ H D J ⟨c, b, dd, I, δ, F, ec, gc, ed, st, so⟩ => ?_⟩
    subst ec ed
    obtain ⟨t, p, q⟩ := hsu b a dd oe c pn hz hv takes_no
    exact p.run pins s σ H D J (q I H δ σ F D st (noEr_so so))
  · refine ⟨I, δ, F, s, ?_⟩
    unfold sTryX at h
    cases q : bf δ with
    | nx δ' => rw [q] at h; exact h
    | bk δ' => rw [q] at h; exact h
    | ct δ' => rw [q] at h; exact h
    | rt d δ' => rw [q] at h; exact h
    | stk => rw [q] at h; exact h
    | er y δ1 =>
      rw [q] at h
      intro cls dx I' H' σ' F' g xr
      cases y with
      | exn c fs xs =>
        obtain ⟨C, gC, ec, hdx⟩ : ∃ C, X.mg c = some (.ref C) ∧ cls = .ref C ∧ ((fs = [] ∧ xs = [] ∧ dx = none) ∨ ∃ f gs d fvs, fs = f :: gs ∧ dx = some d ∧ I' d = some (.xd fvs) ∧ fvs.map (·.1) = f :: gs ∧ Reps X.K X.mg I' H' xs (fvs.map (·.2)) no) := by
          cases fs with
          | nil =>
            cases xs with
            | nil => obtain ⟨C, h1, h2, h3⟩ := xr; exact ⟨C, h1, h2, .inl ⟨rfl, rfl, h3⟩⟩
            | cons z zs => exact xr.elim
          | cons f gs => obtain ⟨C, d, fvs, h1, h2, h3, h4, h5, h6⟩ := xr; exact ⟨C, h1, h2, .inr ⟨f, gs, d, fvs, rfl, h3, h4, h5, h6⟩⟩
        subst ec
        simp only at h
        cases hm : (ms.find? fun p => decide (p.1 = c)).map (·.2) with
        | none => rw [hm] at h; exact h.elim
        | some b =>
          rw [hm] at h
          obtain ⟨p, hp, rfl⟩ := Option.map_eq_some_iff.mp hm
          have hmem := List.mem_of_find?_eq_some hp
          have hpc : p.1 = c := by have := List.find?_some hp; simpa using this
          obtain ⟨g1, k1⟩ := hms p hmem
          rw [hpc] at g1 k1
          rw [gC] at g1
          obtain rfl : C = He.ga X.K c := Value.ref.inj (Option.some.inj g1)
          refine ⟨p.2, k1, fun hb a na => ?_, fun hb => ?_⟩
          · rw [hb] at h
            simp only at h
            split at h
            · rename_i hall
              obtain ⟨dd, hdd, rp⟩ : ∃ dd, dx = (if (!fs.isEmpty) = true then some dd else none) ∧ Rep X.K X.mg I' H' (exW a dd c fs xs) (.ref a) no := by
                rcases hdx with ⟨rfl, rfl, rfl⟩ | ⟨f, gs, d, fvs, rfl, rfl, h4, h5, h6⟩
                · exact ⟨0, rfl, .exn0⟩
                · exact ⟨d, rfl, .exnF h4 h5 h6⟩
              rw [← hall a dd] at h
              unfold hndX at h
              cases q2 : setN i (exW a dd c fs xs) δ1 with
              | none => rw [q2] at h; exact h.elim
              | some δ2 =>
                rw [q2] at h
                obtain ⟨I2, F2, g2⟩ := set_go g (v := .ref a) (d := exW a dd c fs xs) rp q2
                have e2 : ∃ d0, δ2[i]? = some ⟨false, false, d0⟩ := by
                  unfold setN at q2
                  cases q3 : δ1[i]? with
                  | none => rw [q3] at q2; cases q2
                  | some s0 =>
                    rw [q3] at q2
                    obtain ⟨io, lk, d0⟩ := s0
                    cases io <;> cases lk <;> simp only [reduceCtorEq, Option.some.injEq] at q2
                    subst q2
                    exact ⟨_, List.getElem?_set_self (List.getElem?_eq_some_iff.mp q3).1⟩
                obtain ⟨d0, e2⟩ := e2
                exact ⟨c, !fs.isEmpty, dd, I2, δ2, F2, rfl, gC, hdd, g2.st, so_clr g2 e2 h⟩
            · exact h.elim
          · rw [hb] at h
            exact h (.ref (He.ga X.K c)) dx I' H' σ' F' g xr
      | _ => exact h.elim
/-- isinstance(e, c): b: whether e has an own dict -/
theorem de_xisX {b : Bool} {a d : Addr} {oe : Obj} {c : Str} {pn : List (Addr × Obj)} {xs : List Str} {rs : List (Str × Str × Bool)} {bs : List (Str × String × Bool)} {x : Str} {p pos : Pos} {e : Expr} {es : List Expr} {fa : AF}
    (hx : ∀ y ∈ xs, ExcC X.K (He.ga X.K y)) (h1 : ∀ p ∈ rs, X.mg p.2.1 = some (.ref (He.ga X.K p.2.1)) ∧ PySem.W.kitOne X.K (.ref (He.ga X.K p.1)) (.ref (He.ga X.K p.2.1)) = some p.2.2)
    (h2 : ∀ p ∈ bs, PySem.W.kitOne X.K (.ref (He.ga X.K p.1)) (.type p.2.1) = some p.2.2) (hz : Zc (.ref (He.ga X.K c)) (if b = true then some d else none) oe) (hf : ∃ vs, oe.data = .fields vs)
    (hg : Gl X x) (hm : X.mg x = none) (hv : bootBuiltins x = some (.builtin "isinstance")) (ha : DA (X.suite a ((a, oe) :: pn)) W (e :: es) fa) (hn : x ≠ "__name__" := by decide) (hdb : (x == ("__debug__" : Str)) = false := by decide)
    (he : starEach (e :: es) X.env = (false, eval e X.env) :: starEach es X.env := by rfl) (hpl : (backTo pos (starEach es X.env)).any (·.1) = false := by rfl) :
    DE (X.suite a ((a, oe) :: pn)) W (.Call (.Name x p) (e :: es) [] pos) (eIf1 (c ∈ xs) (eRd (g2L (if b = true then gXisD a d (isxT rs bs c) else gXis a (isxT rs bs c))) fa)) := by
  cases b with
  | false => exact de_xis hx h1 h2 hz hf hg hm hv ha hn hdb he hpl
  | true =>
    by_cases q : c ∈ xs
    · have h := de_bi (X := X.suite a ((a, oe) :: pn)) (p := p) (call_xisD (hx c q) hz hf) (snd_xisD (X := X.suite a ((a, oe) :: pn)) (isxT_ok (X := X.suite a ((a, oe) :: pn)) (c := c) h1 h2)) hg hm hv ha hn hdb he hpl
      have e1 : eIf1 (c ∈ xs) (eRd (g2L (gXisD a d (isxT rs bs c))) fa) = eRd (g2L (gXisD a d (isxT rs bs c))) fa := by funext δ; unfold eIf1; rw [if_pos q]
      simp only [if_true]
      rw [e1]; exact h
    · simp only [if_true]
      have e1 : eIf1 (c ∈ xs) (eRd (g2L (gXisD a d (isxT rs bs c))) fa) = fun _ => .stk := by funext δ; unfold eIf1; rw [if_neg q]
      rw [e1]; exact de_stk
end
end DL

set_option linter.all false
set_option autoImplicit false
set_option maxRecDepth 100000
namespace DL
open PySem PySem.Spec L2
open PyProof.Rows hiding St
section
variable {X : Cx} {W : WX}
theorem xd_lookup {K : PySem.W.Frag} {mg : Str → Option Value} {I H : Hp} {f : Str} {x : D} : ∀ (fvs : List (Str × V)) (fs : List Str) (xs : List D), fvs.map (·.1) = fs → Reps K mg I H xs (fvs.map (·.2)) no → (fs.zip xs).lookup f = some x → ∃ v, fvs.lookup f = some v ∧ Rep K mg I H x v no
  | [], fs, xs, h1, h2, h3 => by subst h1; simp at h3
  | (g, v) :: fvs, fs, xs, h1, h2, h3 => by
    subst h1
    cases h2 with
    | cons r rs x1 x2 x3 =>
      simp only [List.map_cons, List.zip_cons_cons, List.lookup_cons] at h3 ⊢
      cases q : f == g with
      | true =>
        rw [q] at h3
        simp only [Option.some.injEq] at h3
        subst h3
        exact ⟨v, rfl, r.mono x1⟩
      | false =>
        rw [q] at h3
        exact xd_lookup fvs _ _ rfl (rs.mono x2) h3
/-- e.f, e the exception that the suite holds -/
theorem de_xfX {b : Bool} {a d : Addr} {oe : Obj} {c : Str} {pn : List (Addr × Obj)} {xs : List Str} {e : Expr} {f : Str} {fo : EF} {pos : Pos} (hx : ∀ y ∈ xs, XfC X.K (He.ga X.K y) ∧ PySem.W.findIn X.K (.ref (He.ga X.K y)) f = some none)
    (hz : Zc (.ref (He.ga X.K c)) (if b = true then some d else none) oe) (hf : ∃ vs, oe.data = .fields vs) (he : DE (X.suite a ((a, oe) :: pn)) W e fo) (hb : attributeBase e f X.env (eval e X.env) = eval e X.env := by rfl) :
    DE (X.suite a ((a, oe) :: pn)) W (.Attribute e f pos) (eIf1 (b = true ∧ c ∈ xs) (eXf a d f fo)) := by
  by_cases q : b = true ∧ c ∈ xs
  · obtain ⟨rfl, q2⟩ := q
    obtain ⟨T, hno⟩ := hx c q2
    obtain ⟨te, pe, qe⟩ := he
    have e1 : eIf1 (true = true ∧ c ∈ xs) (eXf a d f fo) = eXf a d f fo := by funext δ; unfold eIf1; rw [if_pos ⟨rfl, q2⟩]
    rw [e1]
    refine ⟨_, pe_xf T hno hz hf pe hb, fun I H δ σ F Q s h => ?_⟩
    refine qe I H δ σ F _ s ?_
    unfold eXf at h
    cases q : fo δ with
    | stk => rw [q] at h; exact h.elim
    | er x δ' => rw [q] at h; exact h
    | ok o δ1 =>
      rw [q] at h
      intro v I' H' F' B g rp
      simp only [R.bind] at h
      split at h
      · rename_i c' g0 gs z y xs'
        split at h
        · rename_i hzy
          cases hl : ((g0 :: gs).zip xs').lookup f with
          | none => rw [hl] at h; exact h.elim
          | some x =>
            rw [hl] at h
            have rp' : Rep X.K X.mg I' H' (.exn c' (g0 :: gs) (.int z :: .int y :: xs')) v B := rp
            generalize hw : D.exn c' (g0 :: gs) (.int z :: .int y :: xs') = dd at rp'
            cases rp' <;> cases hw
            rename_i fvs a' d' hxd hk rs0
            have ea : a' = a := Int.ofNat.inj hzy.1
            have eb : d' = d := Int.ofNat.inj hzy.2
            subst ea eb
            obtain ⟨v', l1, r1⟩ := xd_lookup fvs _ xs' hk rs0 hl
            exact ⟨rfl, rfl, d', fvs, v', rfl, g.st.sub _ _ hxd, l1, h v' I' H' F' no (g.less no_le) r1⟩
        · exact h.elim
      · exact h.elim
  · have e1 : eIf1 (b = true ∧ c ∈ xs) (eXf a d f fo) = fun _ => .stk := by funext δ; unfold eIf1; rw [if_neg q]
    rw [e1]; exact de_stk
end
end DL

set_option linter.all false
set_option autoImplicit false
set_option maxRecDepth 100000
namespace DL
open PySem PySem.Spec L2
open PyProof.Rows hiding St
/-! ### what is asked of exceptions with an own __init__ -/
inductive Fy where
  | own (d : Str)
  | fld (d f : Str)
  | bas (r : Str)
def Fy.ok (K : PySem.W.Frag) : Fy → Bool
  | .own d => oexB K (He.ga K d) && (xfB K (He.ga K d) && (decide (PySem.W.findIn K (.ref (He.ga K d)) "__init__" = some (some (.ref (He.fAd K (d, some "__init__"))))) && decide (PySem.W.typeIn K (.ref (He.fAd K (d, some "__init__"))) = some (.type "function"))))
  | .fld d f => decide (PySem.W.findIn K (.ref (He.ga K d)) f = some none)
  | .bas r => decide (PySem.W.specialIn K (.ref (He.ga K r)) "__getattribute__" = some (some (.builtin "type.__getattribute__"))) && (decide (PySem.W.typeIn K (.ref (He.ga K r)) = some (.type "type")) && (PySem.W.readsIn K (He.ga K r) (.type "type") &&
      (match PySem.W.findCls K (.ref (He.ga K r)) (.type "type") "__init__" with
      | some (.val (.builtin n)) => n == "ValueError.__init__"
      | _ => false)))
theorem own_ok {K : PySem.W.Frag} {d : Str} (h : (Fy.own d).ok K = true) : OexC K (He.ga K d) ∧ XfC K (He.ga K d) ∧ PySem.W.findIn K (.ref (He.ga K d)) "__init__" = some (some (.ref (He.fAd K (d, some "__init__")))) ∧ PySem.W.typeIn K (.ref (He.fAd K (d, some "__init__"))) = some (.type "function") := by
  simp only [Fy.ok, Bool.and_eq_true, decide_eq_true_eq] at h
  exact ⟨oexB_ok h.1, xfB_ok h.2.1, h.2.2.1, h.2.2.2⟩
theorem fld_ok {K : PySem.W.Frag} {d f : Str} (h : (Fy.fld d f).ok K = true) : PySem.W.findIn K (.ref (He.ga K d)) f = some none := of_decide_eq_true h
theorem bas_ok {K : PySem.W.Frag} {r : Str} (h : (Fy.bas r).ok K = true) : PySem.W.specialIn K (.ref (He.ga K r)) "__getattribute__" = some (some (.builtin "type.__getattribute__")) ∧ PySem.W.typeIn K (.ref (He.ga K r)) = some (.type "type") ∧ PySem.W.readsIn K (He.ga K r) (.type "type") = true ∧ PySem.W.findCls K (.ref (He.ga K r)) (.type "type") "__init__" = some (.val (.builtin "ValueError.__init__")) := by
  simp only [Fy.ok, Bool.and_eq_true, decide_eq_true_eq] at h
  obtain ⟨h1, h2, h3, h4⟩ := h
  refine ⟨h1, h2, h3, ?_⟩
  split at h4
  · rename_i n e
    rw [beq_iff_eq] at h4
    rw [e, h4]
  · cases h4
inductive Fz where
  | x (f : Fx)
  | y (f : Fy)
  | t (p : He.Defn)
def Fz.ok (K : PySem.W.Frag) : Fz → Bool
  | .x f => f.ok K
  | .y f => f.ok K
  | .t p => hasTab K p
def SaysZ (fa : List He.Fa) (fn : List He.DefD) (fz : List Fz) (K : PySem.W.Frag) : Prop := He.SaysD fa fn K ∧ (fz.all fun f => f.ok K) = true
def obsZG (n : Nat) (fa : List He.Fa) (fn : List He.DefD) (fz : List Fz) (g : Addr → Option Obj) : AlX := (He.obsDG n fa fn g, fz.all fun f => f.ok (He.frG g (He.asD g n)))
def hookZ (n : Nat) (fa : List He.Fa) (fn : List He.DefD) (fz : List Fz) : PySem.W.Hook where
  α := AlX
  obs := fun s => obsZG n fa fn fz s.heap.get?
  val := fun _ => (He.valD fn, true)
  says := fun _ h => ∃ K : PySem.W.Frag, K.In h ∧ SaysZ fa fn fz K
  of := fun _ _ e => ⟨_, He.frG_in, congrArg (fun z : AlX => z.1) e, congrArg (fun z : AlX => z.2) e⟩
  keeps := fun _ _ _ ⟨K, hK, c⟩ k => ⟨K, PySem.W.Frag.In.keeps hK k, c⟩
theorem obsZG_eq {n : Nat} {fa : List He.Fa} {fn : List He.DefD} {fz : List Fz} {g : Addr → Option Obj} {s : Shared} (h : ∀ a, g a = s.heap.get? a) : obsZG n fa fn fz g = (hookZ n fa fn fz).obs s := by
  have e : g = s.heap.get? := funext h
  rw [e] <;> rfl
section
variable {fa : List He.Fa} {fn : List He.DefD} {fz : List Fz} {K : PySem.W.Frag}
theorem SaysZ.fact (c : SaysZ fa fn fz K) (i : Nat) {f : He.Fa} (h : fa[i]? = some f := by rfl) : f.ok K = true := He.SaysD.fact c.1 i h
theorem SaysZ.def_ (c : SaysZ fa fn fz K) (i : Nat) {d : He.DefD} (h : fn[i]? = some d := by rfl) : ∃ fd, FunD K d.name d.qual d.params d.body d.scope (d.dvs K) (d.kws K) (He.fAd K d.at_) fd := He.SaysD.def_ c.1 i h
theorem SaysZ.xf (c : SaysZ fa fn fz K) (i : Nat) {f : Fx} (h : fz[i]? = some (.x f) := by rfl) : f.ok K = true := List.all_eq_true.mp c.2 (.x f) (List.mem_of_getElem? h)
theorem SaysZ.yf (c : SaysZ fa fn fz K) (i : Nat) {f : Fy} (h : fz[i]? = some (.y f) := by rfl) : f.ok K = true := List.all_eq_true.mp c.2 (.y f) (List.mem_of_getElem? h)
theorem SaysZ.tf (c : SaysZ fa fn fz K) (i : Nat) {p : He.Defn} (h : fz[i]? = some (.t p) := by rfl) : hasTab K p = true := List.all_eq_true.mp c.2 (.t p) (List.mem_of_getElem? h)
end
end DL

set_option linter.all false
set_option autoImplicit false
set_option maxRecDepth 100000
set_option maxHeartbeats 4000000
namespace DL
open PySem PySem.Spec L2 LamX SrtO Srt
open PyProof.Rows hiding St

/-! ### a place that is new here, and untracked -/
structure NewA (X : Cx) (pins : List (Addr × Obj)) (H : Hp) (a : Addr) : Prop where
  hn : H a = none
  hL : a ≠ X.env.locals
  h1 : a ∈ X.ex ∨ X.s_0.heap.objs.size ≤ a
  h2 : ∀ x c, X.env.cells.lookup x = some c → c ≠ a
  h3 : ∀ p ∈ X.pn ++ pins, p.1 ≠ a
  h4 : a ∉ frs X.stack
section
variable {X : Cx} {pins : List (Addr × Obj)} {σ : L2.St} {H H' : Hp} {s s' : Shared} {a : Addr}
theorem newA (I : Inv X pins σ H s) (h : s.heap.objs.size ≤ a) : NewA X pins H a := by
  have lt : ∀ {b : Addr} {o : Obj}, s.heap.get? b = some o → b ≠ a := fun e z => by
    subst z
    exact absurd (Nat.lt_of_lt_of_le (Heap.lt_size e) h) (Nat.lt_irrefl _)
  refine ⟨I.hok.fresh h, fun z => ?_, .inr (Nat.le_trans I.sz h), fun x c e => ?_, fun p hp => lt (I.pin p hp).1, fun z => ?_⟩
  · rw [z] at h
    exact absurd (Nat.lt_of_lt_of_le I.lt h) (Nat.lt_irrefl _)
  · obtain ⟨v, o, ho, _⟩ := I.cell x c e
    exact lt ho
  · rcases List.mem_cons.mp (I.stkSub _ z) with e | e
    · rw [e] at h
      exact absurd (Nat.lt_of_lt_of_le I.lt h) (Nat.lt_irrefl _)
    · exact I.nofs h e
/-- behind a call -/
theorem NewA.un {o : Obj} (n : NewA X pins H a) (u : Un (frs X.stack) [] H H' s.heap s'.heap) (e : s.heap.get? a = some o) : NewA X pins H' a ∧ s'.heap.get? a = some o :=
  ⟨⟨u.free a o e n.hn (by simp), n.hL, n.h1, n.h2, n.h3, n.h4⟩, u.keep a o e n.hn n.h4 (by simp)⟩
/-- its object is written anew -/
theorem NewA.turn {h' : Heap} {t' : Nat} (n : NewA X pins H a) (I : Inv X pins σ H s) (k : ∀ b o, b ≠ a → s.heap.get? b = some o → h'.get? b = some o) : Inv X pins σ H { s with heap := h', toks := t' } :=
  I.turned k n.hn n.hL n.h1 n.h2 n.h3
/-- it is tracked from now on, as a list -/
theorem NewA.track {ws : List V} {us : List Value} {n : Nat} (w : NewA X pins H a) (I : Inv X pins σ H s) (e : s.heap.get? a = some (seqObj "list" us.toArray n)) (r : Vals ws us) (hz : ws.length ≤ sizeLine) : Inv X pins σ (upd H a (.lst ws)) s := by
  have ne : ∀ b u, H b = some u → b ≠ a := fun b u e z => by rw [z, w.hn] at e; cases e
  have := I.step (h' := s.heap) (H' := upd H a (.lst ws)) (g' := s.gens) (d' := s.drawn) (t' := s.toks) (ch := [a]) (fun b hb => ?_) (fun _ _ _ _ _ e _ => e) (fun b o _ _ _ e _ => ⟨o.slots, e⟩) (fun b o hb _ n => by rw [upd_ne (by simpa using hb)]; exact n) (fun b o _ e => ⟨o, e⟩)
    (fun b xs e => by rw [upd_ne (ne b _ e)]; exact e) (fun b o u e => by rw [upd_ne (ne b _ e)]; exact e) (fun b ps e => ⟨#[], by rw [upd_ne (ne b _ e), e]; simp⟩) (fun m hm => hm) (fun b u eb => ?_) I.bare
  · exact this
  · have : b = a := by simpa using hb
    subst this
    exact ⟨w.h1, w.hL, w.h2, w.h3⟩
  · by_cases q : b = a
    · subst q
      rw [upd_same] at eb
      cases eb
      exact ⟨hz, us, n, r, e⟩
    · rw [upd_ne q] at eb
      refine (I.hok b u eb).stay (fun c v _ q => q) (fun c q => by rw [upd_ne (ne c _ q)]; exact q) fun c xs q => by rw [upd_ne (ne c _ q)]; exact q

/-! ### sorted(l, key=f) -/
/-- what a key's call does -/
def KeyStep (X : Cx) (A : Around) (f : Value) (pins : List (Addr × Obj)) (σ : L2.St) (u : Value) (Ψ : Value → Hp → Prop) (H : Hp) : Prop :=
  ∀ s, Inv X pins σ H s → wpAny (model X.prog X.w) A (call f [u]) (fun k s' => ∃ H', s'.os = s.os ∧ AllBare s'.gens ∧ Un (frs X.stack) [] H H' s.heap s'.heap ∧ HOk X.prog X.w H' s'.heap ∧ Ψ k H') (fun _ _ => False) s
abbrev ltF (ltk : Value → Value → Bool) : Keyed → Keyed → Bool := fun p q => ltk p.1 q.1
theorem swoF {ltk : Value → Value → Bool} (O : Swo ltk) : Swo (ltF ltk) := ⟨fun x y => O.asym x.1 y.1, fun x y z => O.tr x.1 y.1 z.1⟩
/-- the keys can be compared -/
def KeysOk (X : Cx) (A : Around) (ks : List Value) (ltk : Value → Value → Bool) (s : Shared) : Prop := ∃ κ,
  (∀ (Q : SortKind → Shared → Prop) (E : Value → Shared → Prop), Q κ s → wpAny (model X.prog X.w) A (keyKind' ks.toArray) Q E s) ∧ Cmp X.prog X.w A s κ (fun p => p.1 ∈ ks) (ltF ltk)
/-- what is known when all keys are made -/
def KeysEnd (X : Cx) (A : Around) (pins : List (Addr × Obj)) (σ : L2.St) (its : List Value) (Q : VK) (ks : List Value) (H : Hp) : Prop :=
  ∀ s, Inv X pins σ H s → ∃ ltk : Value → Value → Bool, Swo ltk ∧ (2 ≤ its.length → KeysOk X A ks ltk s) ∧
    ∀ xs : List Keyed, Srtd (ltF ltk) xs → Stb (ltF ltk) xs (ks.zip its) → ∃ ws : List V, Vals ws (xs.map (·.2)) ∧ ∀ d, H d = none → Q (.ref d) (upd H d (.lst ws))
theorem sorted_key {l f : Addr} {its : List Value} {Q : VK} {E : Value → Shared → Prop} (Φ : Nat → List Value → Hp → Prop) (I : Inv X pins σ H s) (hl : s.heap.IsList l its.toArray) (hz : its.length ≤ sizeLine) (h0 : Φ 0 [] H)
    (hstep : ∀ j u ks H1, its[j]? = some u → Φ j ks H1 → KeyStep X X.A.in1.in1 (.ref f) pins σ u (fun k H2 => Φ (j + 1) (ks ++ [k]) H2) H1)
    (hend : ∀ ks H1, ks.length = its.length → Φ its.length ks H1 → KeysEnd X X.A.in1.in1 pins σ its Q ks H1) :
    wpAny (model X.prog X.w) X.A (call (.builtin "sorted") [.ref l] [(Str.ofString "key", .ref f)]) (EP X pins σ Q) E s := by
  refine call_function_entry_kw kind_sorted plain_sorted entry_sorted (ksk_s1 _ _) ?_
  unfold Builtin.«sorted»
  refine wpAny_bind (m := checkCount "sorted" 1 1 _) (wpAny_pure ?_)
  refine wpAny_bind (collect_list hl ?_ hz)
  refine wpAny_bind (wpAny_newList ?_ hz)
  have hsz : ((s.heap.push (seqObj "list" #[] 0)).update s.heap.objs.size (Obj.mapSeq (· ++ its.toArray))).objs.size = s.heap.objs.size + 1 := by
    rw [Heap.size_update, size_push']
  have hoL : (((s.heap.push (seqObj "list" #[] 0)).update s.heap.objs.size (Obj.mapSeq (· ++ its.toArray))).push (seqObj "list" its.toArray 0)).get? (s.heap.objs.size + 1) = some (seqObj "list" its.toArray 0) := by
    rw [← hsz]; exact Heap.get?_push_size _ rfl
  have keep : ∀ b o, s.heap.get? b = some o → (((s.heap.push (seqObj "list" #[] 0)).update s.heap.objs.size (Obj.mapSeq (· ++ its.toArray))).push (seqObj "list" its.toArray 0)).get? b = some o := fun b o q => by
    have hlt : b < s.heap.objs.size := Heap.lt_size q
    refine Heap.get?_push_of_some _ ?_
    rw [Heap.get?_update_ne _ _ _ _ (Nat.ne_of_lt hlt)]
    exact Heap.get?_push_of_some _ q
  show wpAny _ _ _ _ _ { s with heap := ((s.heap.push (seqObj "list" #[] 0)).update s.heap.objs.size (Obj.mapSeq (· ++ its.toArray))).push (seqObj "list" its.toArray 0) }
  rw [hsz]
  generalize hA : s.heap.objs.size + 1 = a at hoL ⊢
  have I0 := I.kept (t' := s.toks) keep
  have nA : NewA X pins H a := newA I (by omega)
  generalize ((s.heap.push (seqObj "list" #[] 0)).update s.heap.objs.size (Obj.mapSeq (· ++ its.toArray))).push (seqObj "list" its.toArray 0) = g0 at hoL I0 ⊢
  refine wpAny_bind (wpAny_holding (wpAny_call_entry_kw slot_list_sort ⟨_, hoL, rfl⟩ entry_list_sort ?body (ksk_l1 _ _)))
  case body =>
  show wpAny (model X.prog X.w) X.A.in1.in1 (Builtin.«list.sort» ⟨[.ref a], [(Str.ofString "key", .ref f)]⟩) _ _ _
  rw [ksk_t1]
  unfold ksk_tree
  refine wpAny_bind (listItems_at hoL rfl ?_)
  refine wpAny_bind (listUpdate_at hoL rfl ?_ (by rw [List.size_toArray]; exact hz) (Nat.zero_le _))
  obtain ⟨e1, ho1⟩ : ∃ e1, (g0.update a (Obj.mapSeq fun _ => (#[] : Array Value))).get? a = some (seqObj "list" #[] e1) := ⟨_, get?_update_seq hoL fun _ => #[]⟩
  have I1 := nA.turn (t' := s.toks) I0 (h' := g0.update a (Obj.mapSeq fun _ => (#[] : Array Value))) fun b o hb e => (Heap.get?_update_ne _ _ _ _ hb).trans e
  generalize g0.update a (Obj.mapSeq fun _ => (#[] : Array Value)) = g1 at ho1 I1 ⊢
  refine wpAny_bind (seqEpoch_at ho1 rfl ?_)
  refine wpAny_bind (wpAny_newTuple ?_ (by show its.length ≤ _; exact hz))
  refine wpAny_bind (wpAny_newList ?_ (Nat.zero_le _))
  refine wpAny_holding ?_
  have I2 := I1.kept (t' := s.toks) (h' := (g1.push (seqObj "tuple" its.toArray 0)).push (seqObj "list" #[] 0)) fun b u e => Heap.get?_push_of_some _ (Heap.get?_push_of_some _ e)
  have nS : NewA X pins H (g1.push (seqObj "tuple" its.toArray 0)).objs.size := newA I1 (by rw [size_push']; exact Nat.le_succ _)
  have hka : (g1.push (seqObj "tuple" its.toArray 0)).objs.size ≠ a := by
    rw [size_push']
    exact Nat.ne_of_gt (Nat.lt_succ_of_lt (Heap.lt_size ho1))
  have oS : ((g1.push (seqObj "tuple" its.toArray 0)).push (seqObj "list" #[] 0)).get? (g1.push (seqObj "tuple" its.toArray 0)).objs.size = some (seqObj "list" #[] 0) := Heap.get?_push_size _ rfl
  have ho2 : ((g1.push (seqObj "tuple" its.toArray 0)).push (seqObj "list" #[] 0)).get? a = some (seqObj "list" #[] e1) := Heap.get?_push_of_some _ (Heap.get?_push_of_some _ ho1)
  show wpAny _ _ (ksk_rest a (.ref f) false its.toArray e1 (.ref (g1.push (seqObj "tuple" its.toArray 0)).objs.size)) _ _ { s with heap := (g1.push (seqObj "tuple" its.toArray 0)).push (seqObj "list" #[] 0) }
  generalize (g1.push (seqObj "tuple" its.toArray 0)).objs.size = kS at nS hka oS ⊢
  generalize (g1.push (seqObj "tuple" its.toArray 0)).push (seqObj "list" #[] 0) = g2 at ho2 oS I2 ⊢
  unfold ksk_rest
  refine wpAny_bind (wpAny_rule ?_)
  first
    | rw [List.forIn_toArray]
    | (rw [← Array.forIn_toList]; simp only [List.toList_toArray])
    | rw [← Array.forIn_toList]
  refine wpAny_bind (ksk_fold (fun j s' => ∃ H1 ks e, Inv X pins σ H1 s' ∧ Φ j ks H1 ∧ NewA X pins H1 kS ∧ NewA X pins H1 a ∧ ks.length = j ∧ s'.heap.get? kS = some (seqObj "list" ks.toArray e) ∧ s'.heap.get? a = some (seqObj "list" #[] e1)) its 0 _
    ⟨H, [], 0, I2, h0, nS, nA, rfl, oS, ho2⟩ ?step ?done)
  case step =>
    rintro j u s' hu ⟨H1, ks, e, J, φ, n1, n2, hlen, o1, o2⟩
    simp only [Nat.zero_add] at φ hlen ⊢
    have hj : j < its.length := (List.getElem?_eq_some_iff.mp hu).1
    refine wpAny_bind (wpAny_attempt (wpAny_mono (hstep j u ks H1 hu φ s' J) (fun k s'' hk => ?_) fun _ _ hF => hF.elim))
    obtain ⟨H2, os, gs, un, hok, φ2⟩ := hk
    have J2 := J.call' os un hok gs fun b z => nomatch z
    obtain ⟨n1', o1'⟩ := n1.un (s := s') (s' := s'') un o1
    obtain ⟨n2', o2'⟩ := n2.un (s := s') (s' := s'') un o2
    try dsimp only
    have ea : ks.toArray.push k = (ks ++ [k]).toArray := by simp
    obtain ⟨c2, hc2⟩ : ∃ c2, (s''.heap.update kS (Obj.mapSeq (·.push k))).get? kS = some (seqObj "list" (ks ++ [k]).toArray c2) := ⟨_, by rw [← ea]; exact get?_update_seq o1' (·.push k)⟩
    refine wpAny_bind (listUpdate_at o1' rfl ?_ (by rw [List.size_toArray]; omega) (by rw [ea, List.size_toArray, List.length_append, List.length_singleton]; omega))
    refine wpAny_pure ⟨rfl, H2, ks ++ [k], c2, n1'.turn (t' := s''.toks) J2 (fun b o hb e => (Heap.get?_update_ne _ _ _ _ hb).trans e), φ2, n1', n2', by rw [List.length_append, hlen, List.length_singleton], hc2, (Heap.get?_update_ne _ _ _ _ hka.symm).trans o2'⟩
  case done =>
    rintro s' ⟨H1, ks, e, J, φ, n1, n2, hlen, o1, o2⟩
    simp only [Nat.zero_add] at φ hlen
    obtain ⟨ltk, O, hcmp, hout⟩ := hend ks H1 hlen φ s' J
    try dsimp only
    refine wpAny_bind (listItems_at o1 rfl ?_)
    unfold ksk_end
    try dsimp only
    simp only [Bool.false_eq_true, if_false]
    have hzip : (ks.toArray.zip its.toArray).toList = ks.zip its := by simp
    have tail : ∀ st : SortSt, Srtd (ltF ltk) (arrOf st).toList → Stb (ltF ltk) (arrOf st).toList (ks.zip its) → failedOf st = none →
        wpAny (model X.prog X.w) X.A.in1.in1 (ksk_tail a false e1 (.ref kS) st) (fun fin s' => ∃ v, fin = .done (.ret v) ∧ wpAny (model X.prog X.w) X.A.in1 (ret (.ref a)) (fun fin s' => ∃ v, fin = .done (.ret v) ∧ EP X pins σ Q v s') E s') E s' := by
      intro st h1 h2 hf
      obtain ⟨ws, rv, hq⟩ := hout _ h1 h2
      have hsz2 : ((arrOf st).map (·.2)).size = its.length := by
        rw [Array.size_map, ← Array.length_toList, h2.len, List.length_zip, hlen, Nat.min_self]
      unfold ksk_tail
      try dsimp only
      refine wpAny_bind (listUpdate_at o1 rfl ?_ (by rw [List.size_toArray]; omega) (Nat.zero_le _))
      have J3 := n1.turn (t' := s'.toks) J (h' := s'.heap.update kS (Obj.mapSeq fun _ => (#[] : Array Value))) fun b o hb e => (Heap.get?_update_ne _ _ _ _ hb).trans e
      have o3 : (s'.heap.update kS (Obj.mapSeq fun _ => (#[] : Array Value))).get? a = some (seqObj "list" #[] e1) := (Heap.get?_update_ne _ _ _ _ hka.symm).trans o2
      generalize s'.heap.update kS (Obj.mapSeq fun _ => (#[] : Array Value)) = g3 at J3 o3 ⊢
      refine wpAny_bind (wpAny_letGo ?_)
      refine wpAny_bind (seqEpoch_at o3 rfl ?_)
      simp only [Bool.false_eq_true, if_false]
      refine wpAny_bind (listUpdate_at o3 rfl ?_ (Nat.zero_le _) (by rw [hsz2]; omega))
      have J4 := n2.turn (t' := s'.toks) J3 (h' := g3.update a (Obj.mapSeq fun _ => (arrOf st).map (·.2))) fun b o hb e => (Heap.get?_update_ne _ _ _ _ hb).trans e
      obtain ⟨c4, o4⟩ : ∃ c4, (g3.update a (Obj.mapSeq fun _ => (arrOf st).map (·.2))).get? a = some (seqObj "list" ((arrOf st).map (·.2)) c4) := ⟨_, get?_update_seq o3 fun _ => (arrOf st).map (·.2)⟩
      generalize g3.update a (Obj.mapSeq fun _ => (arrOf st).map (·.2)) = g4 at J4 o4 ⊢
      rw [hf]
      simp only [bne_self_eq_false, Bool.false_eq_true, if_false]
      refine wpAny_pure ⟨_, rfl, wpAny_pure ⟨_, rfl, .ref a, _, n2.track J4 (us := (arrOf st).toList.map (·.2)) (n := c4) (ws := ws) ?_ rv ?_, rfl, hq a n2.hn⟩⟩
      · have : ((arrOf st).toList.map (·.2)).toArray = (arrOf st).map (·.2) := by rw [← Array.toList_map, Array.toArray_toList]
        rw [this]; exact o4
      · rw [rv.length, List.length_map, Array.length_toList]
        rw [Array.size_map] at hsz2
        omega
    by_cases h2 : its.toArray.size < 2
    · rw [if_pos h2, if_pos h2]
      refine wpAny_bind (wpAny_pure ?_)
      rw [StateT.run_pure]
      refine wpAny_bind (wpAny_pure ?_)
      try dsimp only
      refine tail (SortSt.mk' general' (ks.toArray.zip its.toArray) #[] 7 none) ?_ (Stb.of_eq hzip) rfl
      show Srtd _ (ks.toArray.zip its.toArray).toList
      rw [hzip]
      rw [List.size_toArray] at h2
      have hl : (ks.zip its).length < 2 := by rw [List.length_zip]; omega
      match ks.zip its, hl with
      | [], _ => exact List.Pairwise.nil
      | [v], _ => exact List.pairwise_singleton _ _
      | _ :: _ :: l, h => exact absurd h (by rw [List.length_cons, List.length_cons]; omega)
    · rw [if_neg h2, if_neg h2]
      rw [List.size_toArray] at h2
      obtain ⟨κ, hkind, hT⟩ := hcmp (by omega)
      refine wpAny_bind (hkind _ _ ?_)
      have hall : AllL (fun p : Keyed => p.1 ∈ ks) (ks.toArray.zip its.toArray).toList := fun p hm => by
        rw [hzip] at hm
        obtain ⟨p1, p2⟩ := p
        exact (List.of_mem_zip hm).1
      refine wpAny_bind (wpAny_mono (wpS_sortO (st0 := SortSt.mk' κ (ks.toArray.zip its.toArray) #[] 7 none)
        (Q := fun _ st' => Srtd (ltF ltk) (arrOf st').toList ∧ Stb (ltF ltk) (arrOf st').toList (ks.toArray.zip its.toArray).toList ∧ failedOf st' = none) (swoF O) hT rfl hall rfl rfl fun st' a1 a2 a3 => ⟨a1, a2, a3⟩) ?_ fun _ _ e => e)
      rintro ⟨⟨⟩, st'⟩ s'' ⟨rfl, hp1, hp2, hf⟩
      try dsimp only
      rw [hzip] at hp2
      exact tail st' hp1 hp2 hf
end
end DL

set_option linter.all false
set_option autoImplicit false
set_option maxRecDepth 100000
set_option maxHeartbeats 4000000
namespace DL
open PySem PySem.Spec L2 LamX SrtO Srt
open PyProof.Rows hiding St

/-! ### the making of a lambda -/
abbrev lamQ (X : Cx) : Str := X.env.qual ++ "<lambda>"
abbrev lamO (X : Cx) (params : Arguments) (body : Expr) (scope : Scope) (pm : Value) (c' : Addr) (ctv : Value) : Obj :=
  PySem.W.kla_obj "<lambda>" (lamQ X) params body scope (cloFrom X.env.cells scope.names []) pm c' ctv
section
variable {X : Cx} {pins : List (Addr × Obj)} {σ : L2.St} {I H : Hp} {s : Shared}
/-- the lambda is made: its code is new, or was known -/
theorem lam_make3 {cc P : Addr} {params : Arguments} {body : Expr} {scope : Scope} {pos : Pos} {E : Value → Shared → Prop} {Q : Value → Shared → Prop} (J : Inv X pins σ H s) (sb : SubH X.K I H) (inj : ∀ P q q', IsTab X.K P q → IsTab X.K P q' → q = q')
    (it : IsTab X.K P (lamQ X)) (TB : TabB X.base X.mg cc P) (hcode : X.env.code = .ref cc) (hdef : defaultsOf params X.env = ([], [])) (hfree : ∀ y ∈ scope.names, y.2 = .free → ∃ c, X.env.cells.lookup y.1 = some c)
    (h : ∀ (f c' : Addr) (pm ctv : Value) (I1 H1 : Hp) (s' : Shared), Inv X pins σ H1 s' → SubH X.K I1 H1 → Ev I H no I1 H1 no → I1 c' = some (CodeO c' (lamQ X)) →
      s'.heap.get? f = some (lamO X params body scope pm c' ctv) → NewA X pins H1 f → Q (.ref f) s') :
    wpAny (model X.prog X.w) X.A (eval (.Lambda params body scope pos) X.env) Q E s := by
  obtain ⟨nP, ps, hP, ht, ha⟩ := sb.tab P _ it
  refine PySem.W.kla_eval hdef ?_
  have bP := TB.bm.keeps J.bk
  have oP : s.heap.get? P = some { cls := .none, data := .fields ps } := J.hok P _ hP
  cases hc : codeAmong pos ps.toList with
  | some cv =>
    obtain ⟨c', rfl, hco⟩ := ha pos cv hc
    refine PySem.W.kla_makeFunctionHit (mg := X.mg) (c := cc) (P := P) (ps := ps) (closure_ok hfree) J.ok.glob (J.mod.glob.keeps J.bk) hcode (TB.code.keeps J.bk) oP ht hc bP fun ctv g tk hx hsz => ?_
    have J1 : Inv X pins σ H { s with heap := g.push (lamO X params body scope ((X.mg "__name__").getD .none) c' ctv), toks := tk } := J.kept fun b o e => Heap.get?_push_of_some _ (hx b o e)
    exact h g.objs.size c' ((X.mg "__name__").getD .none) ctv I H _ J1 sb Ev.refl hco (Heap.get?_push_size _ rfl) (newA J hsz)
  | none =>
    refine PySem.W.kla_makeFunction (mg := X.mg) (c := cc) (P := P) (ps := ps) (closure_ok hfree) J.ok.glob (J.mod.glob.keeps J.bk) hcode (TB.code.keeps J.bk) oP ht hc TB.gP bP fun c' ctv g tk hx hge hlt hrec htb => ?_
    obtain ⟨c2, oc, vs, t, e2, hoc, hd, hv⟩ := hrec
    cases e2
    have hsz := Nat.le_trans hge (Nat.le_of_lt hlt)
    have nC : H c' = none := J.hok.fresh hge
    have nPC : P ≠ c' := ne_of_none hP nC
    have J1 := inv_table (t' := tk) (more := #[rawInt pos.line, rawInt pos.col, .ref c']) (h' := g.push (lamO X params body scope ((X.mg "__name__").getD .none) c' ctv)) J hP
      (fun b o hb e => Heap.get?_push_of_some _ (hx b o hb e)) (Heap.get?_push_of_some _ htb) hge ⟨oc, vs, t, Heap.get?_push_of_some _ hoc, hd, hv⟩
    have eL : (ps ++ #[rawInt pos.line, rawInt pos.col, .ref c']).toList = ps.toList ++ [rawInt pos.line, rawInt pos.col, .ref c'] := by simp
    have other : ∀ b o, H b = some o → NTb o → upd (upd H P (.tbl (ps ++ #[rawInt pos.line, rawInt pos.col, .ref c']))) c' (CodeO c' (lamQ X)) b = some o := fun b o e n => by
      rw [upd_ne (ne_of_none e nC), upd_ne fun z => by subst z; rw [hP] at e; exact n ps (Option.some.inj e).symm]
      exact e
    have nI : I c' = none := sb.new nC
    have sub1 : SubH X.K (upd I c' (CodeO c' (lamQ X))) (upd (upd H P (.tbl (ps ++ #[rawInt pos.line, rawInt pos.col, .ref c']))) c' (CodeO c' (lamQ X))) := by
      refine ⟨fun a o e => ?_, fun P2 q2 i2 => ?_⟩
      · by_cases z : a = c'
        · subst z; rw [upd_same] at e ⊢; exact e
        · rw [upd_ne z] at e
          rcases ntb o with n | ⟨ts, n⟩
          · exact other a o (sb.sub a o e) n
          · subst n
            have e2 := sb.sub a _ e
            by_cases zz : a = P
            · subst zz; rw [nP] at e; cases e
            · rw [upd_ne z, upd_ne zz]; exact e2
      · obtain ⟨n2, ps2, h2, t2, a2⟩ := sb.tab P2 q2 i2
        have z2 : P2 ≠ c' := ne_of_none h2 nC
        refine ⟨by rw [upd_ne z2]; exact n2, ?_⟩
        by_cases zz : P2 = P
        · subst zz
          obtain rfl := inj P2 _ _ i2 it
          rw [hP] at h2; cases h2
          refine ⟨_, by rw [upd_ne z2, upd_same], by rw [eL]; exact PySem.TriplesOk_snoc _ _ _ _ ht, fun pos' cv' q => ?_⟩
          rw [eL] at q
          rcases among_app _ ht q with q | q
          · obtain ⟨c0, e1, e2⟩ := ha pos' cv' q
            exact ⟨c0, e1, by rw [upd_ne (fun w => by subst w; rw [nI] at e2; cases e2)]; exact e2⟩
          · exact ⟨c', q, upd_same⟩
        · refine ⟨ps2, by rw [upd_ne z2, upd_ne zz]; exact h2, t2, fun pos' cv' q => ?_⟩
          obtain ⟨c0, e1, e2⟩ := a2 pos' cv' q
          exact ⟨c0, e1, by rw [upd_ne (fun w => by subst w; rw [nI] at e2; cases e2)]; exact e2⟩
    have ev1 : Ev I H no (upd I c' (CodeO c' (lamQ X))) (upd (upd H P (.tbl (ps ++ #[rawInt pos.line, rawInt pos.col, .ref c']))) c' (CodeO c' (lamQ X))) no := by
      refine ⟨fun a o e => by rw [upd_ne (fun w => by subst w; rw [nI] at e; cases e)]; exact e, fun a o e _ n => other a o e n, fun a ts e => ?_, fun a z => z.elim, fun a z => ?_⟩
      · by_cases zz : a = P
        · subst zz; exact ⟨_, by rw [upd_ne nPC, upd_same]⟩
        · exact ⟨ts, by rw [upd_ne (ne_of_none e nC), upd_ne zz]; exact e⟩
      · by_cases w : a = c'
        · subst w; exact .inr (.inr nC)
        · rw [upd_ne w] at z; exact .inl z
    have nF := newA J hsz
    have n1 : g.objs.size ≠ c' := Nat.ne_of_gt hlt
    have n2 : g.objs.size ≠ P := fun z => by
      have := nF.hn
      rw [z, hP] at this; cases this
    refine h g.objs.size c' ((X.mg "__name__").getD .none) ctv _ _ _ J1 sub1 ev1 upd_same (Heap.get?_push_size _ rfl) ⟨by rw [upd_ne n1, upd_ne n2]; exact nF.hn, nF.hL, nF.h1, nF.h2, nF.h3, nF.h4⟩

/-! ### its call -/
/-- one parameter, captured names, globals -/
structure LamP (sc scope : Scope) (p : Str) : Prop where
  kind : scope.kind = .function
  co : scope.isCoroutine = false
  gen : scope.isGenerator = false
  par : scope.names.lookup p = some .local
  own : ∀ y ∈ scope.names, y.2 ≠ .cell ∧ (y.2 = .local → y.1 = p)
  free : ∀ y ∈ scope.names, y.2 = .free → sc.names.lookup y.1 = some .cell ∨ sc.names.lookup y.1 = some .free
def lamPB (sc scope : Scope) (p : Str) : Bool :=
  decide (scope.kind = .function) && (!scope.isCoroutine && (!scope.isGenerator && (decide (scope.names.lookup p = some .local) && scope.names.all fun y => !decide (y.2 = .cell) && ((!decide (y.2 = .local) || decide (y.1 = p)) && (!decide (y.2 = .free) || (decide (sc.names.lookup y.1 = some .cell) || decide (sc.names.lookup y.1 = some .free)))))))
theorem lamP_by {sc scope : Scope} {p : Str} (h : lamPB sc scope p = true) : LamP sc scope p := by
  unfold lamPB at h
  simp only [Bool.and_eq_true, Bool.or_eq_true, Bool.not_eq_true', decide_eq_true_eq, decide_eq_false_iff_not, List.all_eq_true] at h
  obtain ⟨h1, h2, h3, h4, h5⟩ := h
  refine ⟨h1, h2, h3, h4, fun y hy => ⟨(h5 y hy).1, fun e => ((h5 y hy).2.1).resolve_left fun z => z e⟩, fun y hy e => ((h5 y hy).2.2).resolve_left fun z => z e⟩
theorem LamP.has {X : Cx} {scope : Scope} {p : Str} (L : LamP X.env.scope scope p) (ok : X.Ok) : ∀ y ∈ scope.names, y.2 = .free → ∃ c, X.env.cells.lookup y.1 = some c := fun y hy e => ok.has _ (L.free y hy e)
theorem lam_start3 {A : Around} {E : XK} {scope : Scope} {f c' : Addr} {h₁ : Heap} {tk i : Nat} {p : Str} {u : Value} {v : V} (J : Inv X pins σ H s) (L : LamP X.env.scope scope p) (e0 : Env0 X.prog X.w X.K X.mg X.base A X.stack s H) (hd : A.handled = none)
    (hns : h₁.Ns s.heap.objs.size fun y => ([(p, u)] : List (Str × Value)).reverse.lookup y) (kp : ∀ b o, s.heap.get? b = some o → h₁.get? b = some o) (hN : X.N.Nodup) (hi : X.N[i]? = some p) (r : RelV v u) :
    Inv (lamCx X A X.stack s H E scope f c') [] (σ.set i (some v)) H { s with heap := h₁, toks := tk } := by
  have hfree := L.has J.ok
  have iσ : i < σ.length := by rw [J.len]; exact (List.getElem?_eq_some_iff.mp hi).1
  have cm : ∀ {y c}, (cloFrom X.env.cells scope.names []).lookup y = some c → X.env.cells.lookup y = some c := fun {y c} e => by
    rcases cloFrom_mem (PySem.mem_of_lookup e) with z | ⟨z1, z2⟩
    · cases z
    · obtain ⟨c1, (hc : X.env.cells.lookup y = some c1)⟩ := hfree _ z1 rfl
      obtain rfl : c = c1 := by rw [z2, hc] <;> rfl
      exact hc
  have look : ∀ {y}, scope.names.lookup y = some .free → ∃ c, (cloFrom X.env.cells scope.names []).lookup y = some c := fun {y} hl =>
    mem_lookup (cloFrom_has (cells := X.env.cells) (acc := []) (PySem.mem_of_lookup hl))
  have cellK : ∀ {c : Addr} {w : Option Value}, s.heap.IsCell c w → h₁.IsCell c w := fun {c w} ⟨o, ho, hd⟩ => ⟨o, kp _ _ ho, hd⟩
  have noA : ∀ b : Addr, b ∉ (lamCx X A X.stack s H E scope f c').ex := fun b z => absurd (show b ∈ ([] : List Addr) from z) (by simp)
  refine ⟨⟨e0.mod, L.kind, rfl, rfl, Nat.le_refl _, fun y z c a b => J.ok.inj y z c (cm a) (cm b), fun y hy => ?_, fun y c z _ => ?_, fun _ => hd, Around.frames_deeper e0.frames, .inr ⟨rfl, rfl⟩, fun b z => absurd z (noA b), e0.bs, e0.bsz, fun b _ _ => noA b,
      fun b z => absurd z (noA b), e0.funs, e0.frf⟩,
    rfl, e0.bare, Un.kept kp, ⟨_, hns, fun j y w a b d => ?_⟩, fun y c e => ?_, e0.hok.fresh (Nat.le_refl _), fun y c e => J.freeC y c (cm e), fun q hq => absurd (show q ∈ ([] : List (Addr × Obj)) ++ [] from hq) (by simp), e0.hok.kept kp, by rw [List.length_set]; exact J.len⟩
  · rcases (show scope.names.lookup y = some .cell ∨ scope.names.lookup y = some .free from hy) with hy | hy
    · exact absurd rfl (L.own _ (PySem.mem_of_lookup hy)).1
    · exact look hy
  · cases (show false = true from z)
  · rcases (show Vis scope y from d) with k | k | k
    · obtain rfl : y = p := (L.own _ (PySem.mem_of_lookup k)).2 rfl
      obtain rfl : j = i := nodup_ix hN a hi
      rw [List.getElem?_set_self iσ] at b
      cases b
      exact ⟨u, r, .inl ⟨k, by simp⟩⟩
    · exact absurd rfl (L.own _ (PySem.mem_of_lookup k)).1
    · have yp : y ≠ p := fun z => by subst z; rw [L.par] at k; cases k
      have ji : j ≠ i := fun z => by
        subst z
        have a' : X.N[j]? = some y := a
        rw [hi] at a'; exact yp (Option.some.inj a').symm
      rw [List.getElem?_set_ne (Ne.symm ji)] at b
      obtain ⟨m, hn, hl⟩ := J.loc
      obtain ⟨w', r', q⟩ := hl j y w a b (.inr (L.free _ (PySem.mem_of_lookup k) rfl))
      obtain ⟨c2, h2⟩ := look k
      refine ⟨w', r', .inr ⟨.inr k, c2, h2, ?_⟩⟩
      have c1 := cm h2
      rcases q with ⟨(k' : X.env.scope.names.lookup y = some .local), _⟩ | ⟨_, c3, e', z⟩
      · rcases L.free _ (PySem.mem_of_lookup k) rfl with k2 | k2 <;> rw [show X.env.scope.names.lookup y = _ from k2] at k' <;> cases k'
      · rw [c1] at e'; cases e'
        exact cellK z
  · obtain ⟨w', z⟩ := J.cell y c (cm e)
    exact ⟨w', cellK z⟩
/-- f(u) -/
theorem lam_run {A : Around} {scope : Scope} {f c' : Addr} {params : Arguments} {body : Expr} {pm ctv u : Value} {v : V} {k i : Nat} {p : Str} {tb : TE} {Q : VK} (J : Inv X pins σ H s) (L : LamP X.env.scope scope p) (hA : A.frames = some X.stack) (hr : Room (k + 1) A)
    (hf : s.heap.get? f = some (lamO X params body scope pm c' ctv)) (hco : H c' = some (CodeO c' (lamQ X))) (hbind : bindArgs (PySem.W.kla_fn "<lambda>" (lamQ X) params body scope (cloFrom X.env.cells scope.names []) pm (.ref c') ctv) ⟨[u], []⟩ = pure [(p, u)])
    (hN : X.N.Nodup) (hi : X.N[i]? = some p) (r : RelV v u)
    (hbody : PE (lamCx X A X.stack s H (fun _ _ _ => False) scope f c') body tb) (ht : tb (σ.set i (some v)) H Q) :
    wpAny (model X.prog X.w) A (call (.ref f) [u]) (fun k s' => ∃ w H', s'.os = s.os ∧ AllBare s'.gens ∧ Un (frs X.stack) [] H H' s.heap s'.heap ∧ HOk X.prog X.w H' s'.heap ∧ RelV w k ∧ Q w H') (fun _ _ => False) s := by
  have e1 := J.env0
  have e0 : Env0 X.prog X.w X.K X.mg X.base A X.stack s H := ⟨hA, e1.mod, e1.bs, e1.bsz, e1.funs, e1.frf, e1.hok, e1.bare⟩
  obtain ⟨⟨oc, vs, t, hoc, hdc, hvc⟩, _, _⟩ := J.hok c' _ hco
  have rc : codeAny (model X.prog X.w) A (.call (.ref f) ⟨[u], []⟩) (CR (L2.CX X.prog X.w) X.stack X.prog X.w H s Q fun _ _ _ => False) s := by
    refine PySem.W.kla_callFunE hr.depth hf rfl L.co L.gen rfl ⟨c', oc, vs, t, rfl, hoc, hdc, hvc⟩ ?_
    rw [hbind]
    refine wpAny_pure (wpAny_newFunctionEnv (fun y hy => (L.own y hy).1) (fun y hy => ?_) (fun h₁ hns hsb => ⟨J.nolimit.fresh _ hsb, ?_⟩) L.kind)
    · rw [List.mem_singleton.mp hy]; exact L.par
    · show codeAny _ _ (.expr body (lamEnv X scope s.heap.objs.size f c')) _ _
      have kp : ∀ b o, s.heap.get? b = some o → h₁.get? b = some o := fun b o e => hsb.extBut b o (Nat.ne_of_lt (Heap.lt_size e)) (Heap.get?_push_of_some _ e)
      have J2 := lam_start3 (tk := s.toks + ([(p, u)] : List (Str × Value)).length) (E := fun _ _ _ => False) (f := f) (c' := c') J L e0 hr.hd hns kp hN hi r
      refine PySem.W.kla_codeExpr (wpAny_mono (hbody.run [] _ _ H Q J2 ht) (fun x s' ⟨w', H', J', rv, q⟩ => ?_) fun e s' hq => hq)
      exact ⟨w', H', J'.os, J'.bare, J'.base, J'.hok, rv, q⟩
  refine wpAny_call (codeAny_mono rc fun r s' hq => ?_)
  cases r with
  | error e =>
    obtain ⟨_, _, _, _, _, _, _, _, _, _, _, _, z⟩ := (show L2.CX X.prog X.w X.stack H s (fun _ _ _ => False) e s' from hq)
    exact z
  | ok fl =>
    cases fl with
    | ret x => exact hq
    | next => exact False.elim hq
    | brk => exact False.elim hq
    | cont => exact False.elim hq
end
end DL

set_option linter.all false
set_option autoImplicit false
set_option maxRecDepth 100000
set_option maxHeartbeats 4000000
namespace DL
open PySem PySem.Spec L2 LamX SrtO Srt
open PyProof.Rows hiding St

/-! ### stable sorts -/
section
variable {α β : Type}
theorem ms_srtd {lt : α → α → Bool} (O : Swo lt) (l : List α) : Srtd lt (l.mergeSort fun x y => !lt y x) := by
  have := List.pairwise_mergeSort (le := fun x y => !lt y x) (fun a b c h1 h2 => by
    simp only [Bool.not_eq_true'] at *
    exact O.tr a b c h1 h2) (fun a b => by
    simp only [Bool.or_eq_true, Bool.not_eq_true']
    cases h : lt b a with
    | false => exact .inl rfl
    | true => exact .inr (O.asym b a h)) l
  exact this.imp fun h => by simpa using h
theorem ms_stb {lt : α → α → Bool} (O : Swo lt) (l : List α) : Stb lt (l.mergeSort fun x y => !lt y x) l := by
  refine ⟨List.mergeSort_perm _ _, fun x => ?_⟩
  have hp : (l.filter (eqv lt x)).Pairwise fun a b => (!lt b a) = true := by
    refine List.pairwise_iff_getElem.mpr fun i j hi hj _ => ?_
    have h1 := eqv_iff.mp (List.mem_filter.mp (List.getElem_mem hi)).2
    have h2 := eqv_iff.mp (List.mem_filter.mp (List.getElem_mem hj)).2
    rw [O.tr _ x _ h1.1 h2.2]; rfl
  have hs := List.sublist_mergeSort (le := fun x y => !lt y x) (fun a b c h1 h2 => by
    simp only [Bool.not_eq_true'] at *
    exact O.tr a b c h1 h2) (fun a b => by
    simp only [Bool.or_eq_true, Bool.not_eq_true']
    cases h : lt b a with
    | false => exact .inl rfl
    | true => exact .inr (O.asym b a h)) hp List.filter_sublist
  have h3 := hs.filter (eqv lt x)
  rw [List.filter_filter] at h3
  simp only [Bool.and_self] at h3
  exact (h3.eq_of_length (((List.mergeSort_perm l _).filter _).length_eq).symm).symm
end
/-! ### the keys, as data -/
def ltPy (x y : PyData) : Bool := PySem.W.dataLt x y
def allAlike (kz : List PyData) : Bool := kz.all fun x => kz.all fun y => PySem.W.alike x y
def isTup1 : PyData → Bool
  | .tuple (_ :: _) => true
  | _ => false
def isOth : PyData → Bool
  | .tuple _ => false
  | .none => false
  | _ => true
def canSort (kz : List PyData) : Bool := allAlike kz && ((kz.all isTup1 || kz.all isOth) && kz.all fun d => decide (d.depth ≤ 8))
theorem canSort_ok {kz : List PyData} (h : canSort kz = true) : PySem.W.AllAlike kz ∧ PySem.W.Sortable kz ∧ ∀ d ∈ kz, d.depth ≤ 8 := by
  unfold canSort at h
  simp only [Bool.and_eq_true, Bool.or_eq_true, List.all_eq_true, decide_eq_true_eq, allAlike] at h
  obtain ⟨h1, h2, h3⟩ := h
  refine ⟨h1, h2.imp (fun h d hd => ?_) (fun h d hd => ?_), h3⟩
  · have := h d hd
    cases d <;> simp [isTup1] at this
    rename_i xs
    cases xs with
    | nil => simp [isTup1] at this
    | cons x r => exact ⟨x, r, rfl⟩
  · have := h d hd
    cases d <;> simp [isOth] at this ⊢
def sortBy {α : Type} (kz : List PyData) (ds : List α) : List α := ((kz.zip ds).mergeSort fun p q => !ltPy q.1 p.1).map (·.2)
noncomputable def keyT (h : Heap) (kz : List PyData) (v : Value) : List (Int ⊕ List Nat) := ((PySem.W.dataKind h kz).keyOf v).getD []
noncomputable def ltT (h : Heap) (kz : List PyData) : Value → Value → Bool := fun v u => lexLt itemOrd (keyT h kz v) (keyT h kz u)
theorem swo_toks {α : Type} (f : α → List (Int ⊕ List Nat)) : Swo fun x y => lexLt itemOrd (f x) (f y) := by
  refine ⟨fun x y h => ?_, fun x y z h1 h2 => ?_⟩
  · cases h' : lexLt itemOrd (f y) (f x) with
    | false => rfl
    | true =>
      have := lex_trans (O := itemOrd) _ _ _ h h'
      rw [lex_irrefl] at this; cases this
  · cases h' : lexLt itemOrd (f z) (f x) with
    | false => rfl
    | true =>
      rcases lex_negTrans (O := itemOrd) _ (f y) _ h' with z | z
      · rw [z] at h2; cases h2
      · rw [z] at h1; cases h1
theorem swo_ltT (h : Heap) (kz : List PyData) : Swo (ltT h kz) := swo_toks (keyT h kz)
theorem keyT_eq {h : Heap} {kz : List PyData} (al : PySem.W.AllAlike kz) {v : Value} {d : PyData} {as : List Addr} (hd : d ∈ kz) (r : Reads h v d as) : keyT h kz v = PySem.W.keyToks d := by
  unfold keyT
  rw [PySem.W.dataKind_some al hd r]
  rfl
theorem each_of {R : Value → PyData → Prop} : ∀ {ks : List Value} {kz : List PyData}, ks.length = kz.length → (∀ (j : Nat) v d, ks[j]? = some v → kz[j]? = some d → R v d) → PySem.W.EachIs R ks kz
  | [], [], _, _ => .nil
  | v :: ks, d :: kz, hl, h => .cons (h 0 v d rfl rfl) (each_of (by simpa using hl) fun j v d a b => h (j + 1) v d (by simpa using a) (by simpa using b))
  | [], _ :: _, hl, _ => by simp at hl
  | _ :: _, [], hl, _ => by simp at hl
/-- what the sort leaves, told of the data -/
theorem sort_told {h : Heap} {ks its : List Value} {kz : List PyData} {ds : List D} {vs : List V} (al : PySem.W.AllAlike kz) (l1 : ks.length = its.length) (l2 : kz.length = its.length) (l3 : ds.length = its.length) (rv : Vals vs its)
    (hr : ∀ (j : Nat) v d, ks[j]? = some v → kz[j]? = some d → ∃ as, Reads h v d as) (xs : List Keyed) (h1 : Srtd (ltF (ltT h kz)) xs) (h2 : Stb (ltF (ltT h kz)) xs (ks.zip its)) :
    ∃ τ : List Nat, (∀ j ∈ τ, j < its.length) ∧ xs.map (·.2) = τ.map (fun j => its.getD j .none) ∧ sortBy kz ds = τ.map (fun j => ds.getD j .non) := by
  let f : Nat → Keyed := fun j => (ks.getD j .none, its.getD j .none)
  let g : Nat → PyData × D := fun j => (kz.getD j .none, ds.getD j .non)
  have ef : (List.range its.length).map f = ks.zip its := by
    refine List.ext_getElem (by simp [l1]) fun j a b => ?_
    have hj : j < its.length := by simpa using a
    simp [f, List.getD, List.getElem?_eq_getElem hj, List.getElem?_eq_getElem (show j < ks.length by omega)]
  have eg : (List.range its.length).map g = kz.zip ds := by
    refine List.ext_getElem (by simp [l2, l3]) fun j a b => ?_
    have hj : j < its.length := by simpa using a
    simp [g, List.getD, List.getElem?_eq_getElem (show j < kz.length by omega), List.getElem?_eq_getElem (show j < ds.length by omega)]
  have cmp : ∀ j k, j < its.length → k < its.length → ltF (ltT h kz) (f j) (f k) = ltPy (g j).1 (g k).1 := fun j k hj hk => by
    have rd : ∀ j, j < its.length → keyT h kz (ks.getD j .none) = PySem.W.keyToks (kz.getD j .none) := fun j hj => by
      have e1 : ks[j]? = some (ks[j]'(by omega)) := List.getElem?_eq_getElem _
      have e2 : kz[j]? = some (kz[j]'(by omega)) := List.getElem?_eq_getElem _
      obtain ⟨as, r⟩ := hr j _ _ e1 e2
      have := keyT_eq al (List.getElem_mem (by omega)) r
      simpa [List.getD, e1, e2] using this
    show lexLt itemOrd (keyT h kz (ks.getD j .none)) (keyT h kz (ks.getD k .none)) = PySem.W.dataLt (kz.getD j .none) (kz.getD k .none)
    rw [rd j hj, rd k hk]
    rfl
  let lt : Nat → Nat → Bool := fun j k => ltPy (g j).1 (g k).1
  have O : Swo lt := swo_toks fun j => PySem.W.keyToks (g j).1
  let τ := (List.range its.length).mergeSort fun x y => !lt y x
  have mem : ∀ j ∈ τ, j < its.length := fun j hj => List.mem_range.mp ((List.mergeSort_perm _ _).mem_iff.mp hj)
  refine ⟨τ, mem, ?_, ?_⟩
  · have e : xs = τ.map f := by
      have e3 : τ.map f = ((List.range its.length).map f).mergeSort fun x y => !ltF (ltT h kz) y x :=
        List.map_mergeSort (r := fun x y => !lt y x) (s := fun x y => !ltF (ltT h kz) y x) (f := f) (fun a ha b hb => by
          rw [cmp b a (List.mem_range.mp hb) (List.mem_range.mp ha)])
      have O2 : Swo (ltF (ltT h kz)) := swoF (swo_ltT h kz)
      rw [ef] at e3
      rw [e3]
      have s2 := ms_stb O2 (ks.zip its)
      refine stb_uniq O2 h1 (ms_srtd O2 _) (h2.trans ⟨s2.perm.symm, fun x => (s2.cls x).symm⟩)
    rw [e, List.map_map]
    rfl
  · unfold sortBy
    rw [← eg, ← List.map_mergeSort (r := fun x y => !lt y x) (s := fun p q : PyData × D => !ltPy q.1 p.1) (f := g) (fun a _ b _ => rfl), List.map_map]
    rfl

/-! ### sorted(e, key=lambda p: body) -/
def icy (δ : Env) : Env := δ.map fun s => ⟨true, true, if ice s.d = true then s.d else .hole⟩
def keyAt (kf : EF) (i : Nat) (δ : Env) (d : D) : Option D := match kf ((icy δ).set i ⟨true, true, d⟩) with
  | .ok (.tmp k) _ => if ice k = true then some k else none
  | _ => none
def keysL (kf : EF) (i : Nat) (δ : Env) : List D → Option (List D)
  | [] => some []
  | d :: ds => match keyAt kf i δ d, keysL kf i δ ds with
    | some k, some ks => some (k :: ks)
    | _, _ => none
def sortK (ks ds : List D) : Option D := match toPys ks with
  | some kz => if canSort kz = true ∧ ds.length ≤ sizeLine then some (.lst true (sortBy kz ds)) else none
  | none => none
def eSortKey (fe kf : EF) (i : Nat) : EF := fun δ => (fe δ).bind fun o δ1 => match rdO o δ1 with
  | some (.lst _ ds) => if ices ds = true then match keysL kf i δ1 ds with
      | some ks => match sortK ks ds with
        | some r => .ok (.tmp r) δ1
        | none => .stk
      | none => .stk
    else .stk
  | _ => .stk
theorem keysL_get {kf : EF} {i : Nat} {δ : Env} : ∀ {ds ks : List D}, keysL kf i δ ds = some ks → ks.length = ds.length ∧ ∀ (j : Nat) d, ds[j]? = some d → ∃ k, ks[j]? = some k ∧ keyAt kf i δ d = some k
  | [], ks, h => by simp [keysL] at h; subst h; exact ⟨rfl, fun j d e => by simp at e⟩
  | d :: ds, ks, h => by
    simp only [keysL] at h
    cases q1 : keyAt kf i δ d with
    | none => rw [q1] at h; simp at h
    | some k =>
      cases q2 : keysL kf i δ ds with
      | none => rw [q1, q2] at h; simp at h
      | some ks' =>
        rw [q1, q2] at h; simp at h; subst h
        obtain ⟨h1, h2⟩ := keysL_get q2
        refine ⟨by simp [h1], fun j d' e => ?_⟩
        cases j with
        | zero => simp at e; subst e; exact ⟨k, by simp, q1⟩
        | succ j => obtain ⟨k', e1, e2⟩ := h2 j d' (by simpa using e); exact ⟨k', by simpa using e1, e2⟩
theorem toPys_len : ∀ {ks : List D} {kz : List PyData}, toPys ks = some kz → kz.length = ks.length
  | [], kz, h => by simp [toPys] at h; subst h; rfl
  | d :: ds, kz, h => by
    simp only [toPys] at h
    cases q1 : toPy d with
    | none => rw [q1] at h; simp at h
    | some y =>
      cases q2 : toPys ds with
      | none => rw [q1, q2] at h; simp at h
      | some ys => rw [q1, q2] at h; simp at h; subst h; simp [toPys_len q2]
theorem toPys_get : ∀ {ks : List D} {kz : List PyData} {j : Nat} {y : PyData}, toPys ks = some kz → kz[j]? = some y → ∃ k, ks[j]? = some k ∧ toPy k = some y
  | [], kz, j, y, h, e => by simp [toPys] at h; subst h; simp at e
  | d :: ds, kz, j, y, h, e => by
    simp only [toPys] at h
    cases q1 : toPy d with
    | none => rw [q1] at h; simp at h
    | some y0 =>
      cases q2 : toPys ds with
      | none => rw [q1, q2] at h; simp at h
      | some ys =>
        rw [q1, q2] at h; simp at h; subst h
        cases j with
        | zero => simp at e; subst e; exact ⟨d, by simp, q1⟩
        | succ j => obtain ⟨k, a, b⟩ := toPys_get q2 (by simpa using e); exact ⟨k, by simpa using a, b⟩
section
variable {X : Cx} {W : WX} {I H I1 H1 I2 H2 : Hp} {δ δ1 : Env} {σ : L2.St} {F F1 : FF} {B : FP} {d : D} {v : V} {i : Nat} {ds : List D} {vs : List V}
theorem icy_get {j : Nat} {s : Sl} (h : (icy δ)[j]? = some s) : ∃ s0, δ[j]? = some s0 ∧ s = ⟨true, true, if ice s0.d = true then s0.d else .hole⟩ := by
  unfold icy at h
  rw [List.getElem?_map] at h
  cases q : δ[j]? with
  | none => rw [q] at h; cases h
  | some s0 => rw [q] at h; cases h; exact ⟨s0, rfl, rfl⟩
theorem stt_icy (s : Stt X.K X.mg I H δ σ F) (r : Rep X.K X.mg I H d v no) : Stt X.K X.mg I H ((icy δ).set i ⟨true, true, d⟩) (σ.set i (some v)) fun _ => no := by
  refine ⟨s.sub, fun _ => own_no, fun _ _ _ => no_dis, fun j sl e => ?_, fun _ _ => rfl, by simp [icy, s.len]⟩
  by_cases q : j = i
  · subst q
    have hj : j < (icy δ).length := by
      have := (List.getElem?_eq_some_iff.mp e).1
      simpa using this
    rw [List.getElem?_set_self hj] at e
    cases e
    exact .inr ⟨v, List.getElem?_set_self (by simpa [icy, s.len] using hj), r⟩
  · rw [List.getElem?_set_ne (Ne.symm q)] at e
    obtain ⟨s0, e0, rfl⟩ := icy_get e
    simp only
    by_cases c : ice s0.d = true
    · rw [if_pos c]
      rcases s.rep j s0 e0 with z | ⟨w, h1, h2⟩
      · exact .inl z
      · exact .inr ⟨w, by rw [List.getElem?_set_ne (Ne.symm q)]; exact h1, Rep.ice h2 c⟩
    · rw [if_neg c]; exact .inl rfl
/-- the weakest reading -/
def tD (X : Cx) (W : WX) (f : EF) : TE := fun σ H Q => ∃ I δ F, Stt X.K X.mg I H δ σ F ∧ EO X W I H δ σ F Q (f δ)
theorem se_D {f : EF} : SE X W (tD X W f) f := fun I H δ σ F Q s h => ⟨I, δ, F, s, h⟩
theorem Reps.pick (rs : Reps X.K X.mg I H ds vs no) : ∀ {τ : List Nat}, (∀ j ∈ τ, j < ds.length) → Reps X.K X.mg I H (τ.map fun j => ds.getD j .non) (τ.map fun j => vs.getD j .non) no
  | [], _ => .nil
  | j :: τ, h => by
    have hj := h j (List.mem_cons_self ..)
    obtain ⟨w, e, r⟩ := rs.get (List.getElem?_eq_getElem hj)
    refine .cons (B := no) (C := no) ?_ (Reps.pick rs fun k hk => h k (List.mem_cons_of_mem _ hk)) no_le no_le dis_no
    have e1 : ds.getD j .non = ds[j] := by simp [List.getD, List.getElem?_eq_getElem hj]
    have e2 : vs.getD j .non = w := by simp [List.getD, e]
    show Rep X.K X.mg I H (ds.getD j .non) (vs.getD j .non) no
    rw [e1, e2]; exact r
theorem vals_pick {its : List Value} (rv : Vals vs its) : ∀ {τ : List Nat}, (∀ j ∈ τ, j < its.length) → Vals (τ.map fun j => vs.getD j .non) (τ.map fun j => its.getD j .none)
  | [], _ => .nil
  | j :: τ, h => by
    have hj := h j (List.mem_cons_self ..)
    have hv : j < vs.length := by rw [rv.length]; exact hj
    obtain ⟨u, e, r⟩ := rv.get (List.getElem?_eq_getElem hv)
    refine .cons ?_ (vals_pick rv fun k hk => h k (List.mem_cons_of_mem _ hk))
    have e1 : vs.getD j .non = vs[j] := by simp [List.getD, List.getElem?_eq_getElem hv]
    have e2 : its.getD j .none = u := by simp [List.getD, e]
    show RelV (vs.getD j .non) (its.getD j .none)
    rw [e1, e2]; exact r
theorem Vals.snoc {ws : List V} {us : List Value} {w : V} {u : Value} (r : Vals ws us) (h : RelV w u) : Vals (ws ++ [w]) (us ++ [u]) := r.append (.cons h .nil)
theorem Vals.getV : ∀ {ws : List V} {us : List Value} {j : Nat} {u : Value}, Vals ws us → us[j]? = some u → ∃ w, ws[j]? = some w ∧ RelV w u
  | _, _, _, _, .nil, e => by simp at e
  | _, _, 0, _, .cons r _, e => by simp at e; subst e; exact ⟨_, by simp, r⟩
  | _, _, j + 1, _, .cons _ t, e => by
    obtain ⟨w, a, b⟩ := Vals.getV t (show _ = _ by simpa using e)
    exact ⟨w, by simpa using a, b⟩
def SK (X : Cx) (I H : Hp) (δ : Env) (σ : L2.St) (F : FF) (kf : EF) (i : Nat) (Q : VK) (x : V) (H1 : Hp) : Prop := ∃ (I1 : Hp) (δ1 : Env) (F1 : FF) (B : FP) (o : Opd) (b : Bool) (ls ks : List D) (r : D),
  Go X.K X.mg I H δ σ F I1 H1 δ1 σ F1 B ∧ ORep X.K X.mg I1 H1 δ1 σ F1 o x B ∧ rdO o δ1 = some (.lst b ls) ∧ ices ls = true ∧ keysL kf i δ1 ls = some ks ∧ sortK ks ls = some r ∧
      ∀ v I' H' F' B', Go X.K X.mg I H δ σ F I' H' δ1 σ F' B' → Rep X.K X.mg I' H' r v B' → Q v H'
theorem sqL_ev {a : Addr} {xs : List V} (ev : Ev I H no I1 H1 no) (h : SqL X.K H a xs) : SqL X.K H1 a xs := by
  rcases h with (h | ⟨o, h⟩) | h
  · exact .inl (.inl (ev.out _ _ h id fun ps z => by cases z))
  · exact .inl (.inr ⟨o, ev.out _ _ h id fun ps z => by cases z⟩)
  · exact .inr h
theorem newA_fs {pins : List (Addr × Obj)} {s : Shared} {a : Addr} (J : Inv X pins σ H s) (n : NewA X pins H a) : a ∉ X.fs := fun z => n.h4 (by
  rcases J.ok.stk with e | ⟨e, _⟩
  · rw [e]; exact z
  · rw [e]
    have z' : a ∈ X.outer.filterMap (·.frame) := z
    show a ∈ (X.env :: X.outer).filterMap (·.frame)
    rw [List.filterMap_cons]
    split
    · exact z'
    · exact List.mem_cons_of_mem _ z')
theorem keyAt_ok {kf : EF} {k : D} (h : keyAt kf i δ d = some k) : ice k = true ∧ ∃ δ', kf ((icy δ).set i ⟨true, true, d⟩) = .ok (.tmp k) δ' := by
  unfold keyAt at h
  split at h
  · rename_i k' δ' e
    split at h
    · rename_i c; cases h; exact ⟨c, δ', e⟩
    · cases h
  · cases h
theorem de_sortKey {e body : Expr} {fe kf : EF} {params : Arguments} {scope : Scope} {p lpos kpos pos : Pos} {pn q : Str} {key : He.Defn} (hcalm : X.calm = true) (hr : Room 3 X.A) (TB : TbB X.K X.mg X.base) (hk : (key, q) ∈ lamKeys) (ht : hasTab X.K key = true) (hcode : X.env.code = .ref (He.codeOf X.K key)) (hq : lamQ X = q)
    (he : DE X W e fe) (L : LamP X.env.scope scope pn) (hN : X.N.Nodup) (hi : X.N[i]? = some pn) (hdef : defaultsOf params X.env = ([], []))
    (hbind : ∀ (q : Str) (cl : List (Str × Addr)) (pm cv ctv u : Value), bindArgs (PySem.W.kla_fn "<lambda>" q params body scope cl pm cv ctv) ⟨[u], []⟩ = pure [(pn, u)])
    (hbody : ∀ (s : Shared) (H : Hp) (f c' : Addr), Room 0 (lamCx X X.A.in1.in1 X.stack s H (fun _ _ _ => False) scope f c').A → DE (lamCx X X.A.in1.in1 X.stack s H (fun _ _ _ => False) scope f c') Wf body kf)
    (hg : Gl X "sorted") (hm : X.mg "sorted" = none) (hv : bootBuiltins "sorted" = some (.builtin "sorted"))
    (hs : starEach [e] X.env = (false, eval e X.env) :: starEach [] X.env := by rfl) (hsp : backTo pos (starEach [e] X.env) = (false, eval e X.env) :: backTo pos (starEach [] X.env) := by rfl) (hpl : (backTo pos (starEach [e] X.env)).any (·.1) = false := by rfl)
    (hall : (backToKw pos (keywordEach [⟨some "key", .Lambda params body scope lpos, kpos⟩] X.env)).all (·.1.isSome) = true := by rfl) (hnone : (backToKw pos (keywordEach [⟨some "key", .Lambda params body scope lpos, kpos⟩] X.env)).any (·.1.isNone) = false := by rfl)
    (hkw : (backToKw pos (keywordEach [⟨some "key", .Lambda params body scope lpos, kpos⟩] X.env)).filterMap (·.1) = [("key" : Str)] := by rfl) :
    DE X W (.Call (.Name "sorted" p) [e] [⟨some "key", .Lambda params body scope lpos, kpos⟩] pos) (eSortKey fe kf i) := by
  obtain ⟨te, pe, qe⟩ := he
  refine ⟨tD X W (eSortKey fe kf i), ⟨fun pins s σ H Q J h => ?_⟩, se_D⟩
  obtain ⟨I, δ, F, st, eo⟩ := h
  refine wpAny_Call_Name_kw (ld_blt J hg hm hv ?_)
  refine PyProof.Rows.callWith_kw ?_ hsp hpl hall hnone
  rw [hkw]
  -- the list
  have h1 : te σ H (SK X I H δ σ F kf i Q) := by
    refine qe I H δ σ F _ st ?_
    unfold eSortKey at eo
    cases q0 : fe δ with
    | stk => rw [q0] at eo; exact eo.elim
    | er x δ' => rw [q0] at eo; exact eo
    | ok o δ1 =>
      rw [q0] at eo
      intro x I1 H1 F1 B go ro
      change EO X W I H δ σ F Q (match rdO o δ1 with
        | some (.lst _ ds) => if ices ds = true then match keysL kf i δ1 ds with
            | some ks => match sortK ks ds with
              | some r => .ok (.tmp r) δ1
              | none => .stk
            | none => .stk
          else .stk
        | _ => .stk) at eo
      split at eo
      · rename_i b ls q1
        split at eo
        · rename_i hic
          split at eo
          · rename_i ks q2
            split at eo
            · rename_i r q3
              exact ⟨I1, δ1, F1, B, o, b, ls, ks, r, go, ro, q1, hic, q2, q3, fun v I' H' F' B' g r => eo v I' H' F' B' g r⟩
            · exact eo.elim
          · exact eo.elim
        · exact eo.elim
      · exact eo.elim
  rw [hsp]
  refine Calls.spliced_cons (thn (pe.run pins s σ H _ J h1) fun u s1 ⟨x, H1, J1, rx, q1⟩ => Calls.spliced_nil ?_)
  obtain ⟨I1, δ1, F1, B, o, b, ls, ks, r, go, ro, e1, hic, e2, e3, fin⟩ := q1
  obtain ⟨C, rC, oC, _⟩ := rd_ok go.st go.own ro e1
  obtain ⟨a, vs, rfl, hsq, rs⟩ := rep_sqL go.st.sub rC
  have rs := rs.ice hic
  obtain rfl : u = .ref a := rx
  -- the lambda
  show wpAny _ _ (evalAll [do let v ← eval (.Lambda params body scope lpos) X.env; standAt pos; pure v]) _ _ s1
  refine wpAny_evalAll_cons (wpAny_bind (lam_make3 J1 go.st.sub TB.inj ⟨key, by rw [hq]; exact hk, ht, rfl⟩ (TB.at_ key q hk ht) hcode hdef (L.has J1.ok) fun f c' pm ctv I2 H2 s2 J2 sub2 ev2 hco hf nF => wpAny_bind (wpAny_standAt (wpAny_pure (wpAny_evalAll_nil ?_)))))
  have nv2 : NewV X.K X.mg I1 H1 .non .non I2 H2 no := ⟨ev2, sub2, own_no, .non⟩
  have g2 := go.trans0 (Go.new go.st nv2)
  have rs2 : Reps X.K X.mg I2 H2 ls vs no := rs.frame ev2.inc fun _ _ z => z.elim
  let pins' := (f, lamO X params body scope pm c' ctv) :: pins
  have J3 : Inv X pins' σ H2 s2 := J2.pins_of fun p hp => by
    rcases List.mem_cons.mp hp with rfl | hp
    · exact ⟨hf, nF.hn, nF.hL, newA_fs J2 nF, fun v z => by cases z⟩
    · exact J2.pin p (List.mem_append_right _ hp)
  obtain ⟨its, rv, hl, hz⟩ := J3.list (sqL_ev ev2 hsq)
  obtain ⟨lk, kg⟩ := keysL_get e2
  have l1 : ls.length = its.length := by rw [rs.length, rv.length]
  have fA : X.A.in1.in1.frames = some X.stack := J2.ok.frames
  have rA : Room (0 + 1) X.A.in1.in1 := Room.in1 (Room.in1 hr)
  refine thn (sorted_key (Q := Q) (E := X.xe) (its := its) (fun j kvs H' => ∃ I' ws, Go X.K X.mg I H δ σ F I' H' δ1 σ F1 no ∧ Vals ws kvs ∧ Reps X.K X.mg I' H' (ks.take j) ws no ∧ Reps X.K X.mg I' H' ls vs no ∧ I' c' = some (CodeO c' (lamQ X)))
    J3 hl.isList (by rw [← rv.length]; exact hz) ⟨I2, [], g2, .nil, .nil, rs2, hco⟩ ?step ?fin) fun v s' ⟨w, H', J', rw', qw⟩ => ⟨w, H', J'.pins_of fun p hp => J'.pin p (List.mem_append_right _ (List.mem_cons_of_mem _ hp)), rw', qw⟩
  case step =>
    rintro j u kvs H' hu ⟨I', ws, g, rvk, rk, rl, hc⟩ s J
    obtain ⟨v, ev, rvu⟩ := Vals.getV rv hu
    have hj : j < ls.length := by rw [l1]; exact (List.getElem?_eq_some_iff.mp hu).1
    obtain ⟨v', ev', rd⟩ := rl.get (List.getElem?_eq_getElem hj)
    rw [ev] at ev'; cases ev'
    obtain ⟨k, ek, hk⟩ := kg j _ (List.getElem?_eq_getElem hj)
    obtain ⟨ik, δ', ekf⟩ := keyAt_ok hk
    obtain ⟨tb, pb, sb⟩ := hbody s H' f c' (rA.deeper _)
    obtain ⟨pf, _⟩ := J.pin (f, lamO X params body scope pm c' ctv) (List.mem_append_right _ (List.mem_cons_self ..))
    refine thn (lam_run (Q := fun w H'' => ∃ I'', NewV X.K X.mg I' H' k w I'' H'' no) J L fA rA pf (g.st.sub _ _ hc) (hbind _ _ _ _ _ _) hN hi rvu pb (sb I' H' _ _ (fun _ => no) _ (stt_icy g.st rd) ?_)) fun kv s' hq => ?_
    · rw [ekf]
      intro w I'' H'' F'' B'' gg rr
      exact ⟨I'', gg.ev.mono (fun a ⟨_, _, _, _, z⟩ => z) fun a z => z.elim, gg.st.sub, own_no, Rep.ice rr ik⟩
    · obtain ⟨w, H'', os, gs, un, hok, rwk, I'', n⟩ := hq
      refine ⟨H'', os, gs, un, hok, I'', ws ++ [w], g.trans0 (Go.new g.st n), Vals.snoc rvk rwk, ?_, rl.frame n.ev.inc fun _ _ z => z.elim, n.ev.inc _ _ hc⟩
      rw [List.take_add_one, ek]
      exact (Reps.snoc (rk.frame n.ev.inc fun _ _ z => z.elim) n.rep no_dis).mono fun a z => z.elim id id
  case fin =>
    rintro kvs H' hlen ⟨I', ws, g, rvk, rk, rl, hc⟩ s J
    unfold sortK at e3
    cases q5 : toPys ks with
    | none => rw [q5] at e3; cases e3
    | some kz =>
      rw [q5] at e3
      simp only at e3
      split at e3
      · rename_i cc
        cases e3
        obtain ⟨al, sk, dp⟩ := canSort_ok cc.1
        have lz := toPys_len q5
        have rk' : Reps X.K X.mg I' H' ks ws no := by
          have : ks.take its.length = ks := List.take_of_length_le (by omega)
          rw [this] at rk; exact rk
        have rds : ∀ (j : Nat) v d, kvs[j]? = some v → kz[j]? = some d → ∃ as, Reads s.heap v d as := fun j v d a b => by
          obtain ⟨w, ew, rw0⟩ := Vals.getV rvk a
          obtain ⟨k, ek, tk⟩ := toPys_get q5 b
          obtain ⟨w', ew', rp⟩ := rk'.get ek
          rw [ew] at ew'; cases ew'
          exact Dp.reads J d w v (Rep.dp g.st.sub rp tk) rw0
        refine ⟨ltT s.heap kz, swo_ltT _ _, fun h2 => ?_, fun xs h1 h2 => ?_⟩
        · obtain ⟨hkeys, kd, hlt, hkind⟩ := PySem.W.SortsAt.data (prog := X.prog) (w := X.w) (A := X.A.in1.in1) (s := s) (vs := kvs) (ds := kz) (each_of (by omega) rds) al sk fun d hd => by
            have := dp d hd
            have := hr.units
            show X.A.units + 1 + 1 + d.depth < cLine
            omega
          refine ⟨kd, fun Q E hq => hkind (by omega) E hq, fun p q hp hq => ?_⟩
          obtain ⟨ka, hka⟩ := hkeys _ hp
          obtain ⟨kb, hkb⟩ := hkeys _ hq
          refine hlt _ p.1 q.1 ka kb hka hkb ⟨rfl, ?_⟩
          show _ = PyProof.Rows.lexLt itemOrd (keyT s.heap kz p.1) (keyT s.heap kz q.1)
          unfold keyT
          rw [hka, hkb]
          rfl
        · obtain ⟨τ, ht, t1, t2⟩ := sort_told (ds := ls) (its := its) (vs := vs) al hlen (by omega) l1 rv rds xs h1 h2
          refine ⟨τ.map fun j => vs.getD j .non, by rw [t1]; exact vals_pick rv ht, fun d hd => ?_⟩
          obtain ⟨B, n⟩ := newV_lst (X := X) g.st.sub hd (Reps.pick rl fun j hj => by rw [l1]; exact ht j hj)
          refine fin (.ref d) _ _ F1 B (g.trans0 (Go.new g.st n)) ?_
          rw [t2]
          exact n.rep
      · cases e3
end
end DL

set_option linter.all false
set_option autoImplicit false
set_option maxRecDepth 100000
namespace DL
open PySem PySem.Spec L2
open PyProof.Rows hiding St
/-! ### the head's facts, with the tables -/
def SaysT (fa : List He.Fa) (fn : List He.DefD) (fz : List Fz) (K : PySem.W.Frag) (h : Heap) : Prop := SaysZ fa fn fz K ∧ (TabsEmpty K h ∧ injB K = true)
def obsTG (n : Nat) (fa : List He.Fa) (fn : List He.DefD) (fz : List Fz) (g : Addr → Option Obj) : AlX :=
  (He.obsD fa fn (He.frT g (He.asD g n)), (fz.all fun f => f.ok (He.frT g (He.asD g n))) && (emptyB g (He.frT g (He.asD g n)) && injB (He.frT g (He.asD g n))))
def hookT (n : Nat) (fa : List He.Fa) (fn : List He.DefD) (fz : List Fz) : PySem.W.Hook where
  α := AlX
  obs := fun s => obsTG n fa fn fz s.heap.get?
  val := fun _ => (He.valD fn, true)
  says := fun _ h => ∃ K : PySem.W.Frag, K.In h ∧ SaysT fa fn fz K h
  of := fun _ s e => by
    have e2 := congrArg (fun z : AlX => z.2) e
    obtain ⟨h1, h2⟩ := He.ba (show (_ && _) = true from e2)
    obtain ⟨h3, h4⟩ := He.ba h2
    exact ⟨_, He.frT_in, ⟨congrArg (fun z : AlX => z.1) e, h1⟩, emptyB_ok h3, h4⟩
  keeps := fun _ _ _ ⟨K, hK, c⟩ k => ⟨K, PySem.W.Frag.In.keeps hK k, c.1, fun p q m t => k _ _ (c.2.1 p q m t), c.2.2⟩
theorem obsTG_eq {n : Nat} {fa : List He.Fa} {fn : List He.DefD} {fz : List Fz} {g : Addr → Option Obj} {s : Shared} (h : ∀ a, g a = s.heap.get? a) : obsTG n fa fn fz g = (hookT n fa fn fz).obs s := by
  have e : g = s.heap.get? := funext h
  rw [e] <;> rfl
/-- the same as fn_d, the code object told -/
theorem fn_dl {P : Program} {w : World} {K : PySem.W.Frag} {mg : Str → Option Value} {base : Heap} {x qual : Str} {params : Arguments} {body : List Stmt} {scope : Scope} {dvs : List V} {kws : List (Str × V)} {key : He.Defn} {fd : FuncData}
    {N ps : List Str} {k : Nat} {bf : SF} (Fn : FunD K x qual params body scope dvs kws (He.fAd K key) fd) (S : FnScope N ps scope)
    (hbody : ∀ (cdv : Value) (A : Around) (outer : List PySem.Env) (s : Shared) (H : Hp) (E : XK), cdv = .ref (He.codeOf K key) → Room k (A.deeper (envOfC qual scope s.heap.objs.size (He.fAd K key) cdv)) →
      Takes (cxOf (L2.CX P w) P w K mg base N qual scope (He.fAd K key) cdv A outer s H E) (fun cls d _ H => E cls d H) →
      PassesOwn (model P w) (A.deeper (envOfC qual scope s.heap.objs.size (He.fAd K key) cdv)) (envOfC qual scope s.heap.objs.size (He.fAd K key) cdv) (cxOf (L2.CX P w) P w K mg base N qual scope (He.fAd K key) cdv A outer s H E).xe →
      DSs (cxOf (L2.CX P w) P w K mg base N qual scope (He.fAd K key) cdv A outer s H E) (fun cls d _ H => E cls d H) body bf) :
    FnOk P w K mg base (L2.CX P w) (k + 1) (He.fAd K key) fd ps (spD K mg ps.length (mkFn N.length bf)) := by
  obtain ⟨oc, od, dV, kV, doc, pm, an, cdv, ct, osl, rfl, lk, hcd, _, _⟩ := Fn.ex
  obtain ⟨c, rfl⟩ := He.codeIn_ref hcd
  have ec : (.ref c : Value) = .ref (He.codeOf K key) := by rw [He.codeOf_eq lk rfl]
  refine fn_of lk hcd S (fun vs H Q E h => h.1) fun A outer s H vs Q E hr hsp => ?_
  obtain ⟨hl, as, I, F, st, h⟩ := hsp
  obtain ⟨t, p, q⟩ := hbody (.ref c) A outer s H E ec hr (takes_of rfl rfl rfl rfl) (passes_of rfl)
  have hN : as.length ≤ N.length := by
    have h1 : as.length = vs.length := by have := st.len; simpa [aE] using this
    have h2 := congrArg List.length S.pre
    rw [List.length_take] at h2
    omega
  refine ⟨t, p, q I H (fE N.length as) (L2.start N vs) (F0 as F) _ (stt_start st hN) ?_⟩
  unfold mkFn at h
  cases e : bf (fE N.length as) with
  | nx δ' => rw [e] at h; exact fun I' H' σ' F' g => h .non I' H' _ no (go_end st hN g) .non
  | rt d δ' => rw [e] at h; exact fun v I' H' σ' F' B g r => h v I' H' _ B (go_end st hN g) r
  | er x δ' => rw [e] at h; exact fun cls dx I' H' σ' F' g r => h cls dx I' H' _ (go_end st hN g) r
  | bk δ' => rw [e] at h; exact h.elim
  | ct δ' => rw [e] at h; exact h.elim
  | stk => rw [e] at h; exact h.elim
end DL

set_option linter.all false
set_option autoImplicit false
set_option maxRecDepth 100000
set_option maxHeartbeats 4000000
namespace DL
open PySem PySem.Spec L2
open PyProof.Rows hiding St
section
variable {X : Cx} {W : WX} {I H : Hp} {δ : Env} {σ : L2.St} {F : FF}

/-! ### sorted(xs), xs any alike data -/
def rSortedDt (K : PySem.W.Frag) : List V → Hp → VK → Prop := fun vs H Q => ∃ (a : Addr) (xs : List V) (kz : List PyData), vs = [V.ref a] ∧ SqL K H a xs ∧ DpAll K H xs kz ∧ canSort kz = true ∧ xs.length ≤ sizeLine ∧
  ∀ p, H p = none → Q (.ref p) (upd H p (.lst (((xs.zip kz).mergeSort fun p q => !ltPy q.2 p.2).map (·.1))))
theorem dpAll_len {K : PySem.W.Frag} : ∀ {xs : List V} {kz : List PyData}, DpAll K H xs kz → xs.length = kz.length
  | _, _, .nil => rfl
  | _, _, .cons _ t => by simp [dpAll_len t]
theorem dpAll_get {K : PySem.W.Frag} : ∀ {xs : List V} {kz : List PyData} {j : Nat} {y : PyData}, DpAll K H xs kz → kz[j]? = some y → ∃ x, xs[j]? = some x ∧ Dp K H x y
  | _, _, _, _, .nil, e => by simp at e
  | _, _, 0, _, .cons h _, e => by simp at e; subst e; exact ⟨_, by simp, h⟩
  | _, _, j + 1, _, .cons _ t, e => by obtain ⟨x, a, b⟩ := dpAll_get t (by simpa using e); exact ⟨x, by simpa using a, b⟩
theorem each_of2 {β : Type} {R : Value → β → Prop} : ∀ {ks : List Value} {kz : List β}, ks.length = kz.length → (∀ (j : Nat) v d, ks[j]? = some v → kz[j]? = some d → R v d) → PySem.W.EachIs R ks kz
  | [], [], _, _ => .nil
  | v :: ks, d :: kz, hl, h => .cons (h 0 v d rfl rfl) (each_of2 (by simpa using hl) fun j v d a b => h (j + 1) v d (by simpa using a) (by simpa using b))
  | [], _ :: _, hl, _ => by simp at hl
  | _ :: _, [], hl, _ => by simp at hl
theorem each_vals {β : Type} {f : β → V} : ∀ {out : List Value} {bs : List β}, PySem.W.EachIs (fun v b => RelV (f b) v) out bs → Vals (bs.map f) out
  | _, _, .nil => .nil
  | _, _, .cons h t => .cons h (each_vals t)
theorem cr_sortedDt (hu : X.A.units + 64 < cLine) : CallR X (.builtin "sorted") (rSortedDt X.K) := by
  intro pins s σ H vs us Q J r h
  obtain ⟨a, xs, kz, rfl, hs, hd, cs, hz, q⟩ := h
  obtain ⟨al, sk, dp⟩ := canSort_ok cs
  obtain ⟨its, rv, hl, hz2⟩ := J.list hs
  obtain ⟨u, rfl, ru⟩ := vals1 r
  obtain rfl : u = Value.ref a := ru
  have l0 := dpAll_len hd
  have l1 := rv.length
  have lz : (xs.zip kz).length = its.length := by rw [List.length_zip]; omega
  have em : (xs.zip kz).map (·.2) = kz := List.map_snd_zip (by omega)
  have get : ∀ (j : Nat) v b, its[j]? = some v → (xs.zip kz)[j]? = some b → RelV b.1 v ∧ Dp X.K H b.1 b.2 := fun j v b e1 e2 => by
    obtain ⟨e3, e4⟩ := List.getElem?_zip_eq_some.mp e2
    obtain ⟨u, e5, rr⟩ := rv.get e3
    rw [e1] at e5; cases e5
    obtain ⟨x, e6, dd⟩ := dpAll_get hd e4
    rw [e3] at e6; cases e6
    exact ⟨rr, dd⟩
  refine PySem.W.sorted_data (β := V × PyData) (R := fun v b => RelV b.1 v) (enc := (·.2)) (bs := xs.zip kz) hl.isList (each_of2 (by omega) fun j v b e1 e2 => (get j v b e1 e2).1) (each_of2 (by omega) fun j v b e1 e2 => Dp.reads J b.2 b.1 v (get j v b e1 e2).2 (get j v b e1 e2).1)
    (by rw [em]; exact al) (by rw [em]; exact sk) (by omega) (fun b hb => ?_) fun out hlo ho => ?_
  · have := dp b.2 (by rw [← em]; exact List.mem_map_of_mem hb)
    omega
  · have rvals := each_vals (f := fun b : V × PyData => b.1) ho
    rw [PySem.W.dataLe_eq] at rvals
    obtain ⟨ep, he'⟩ := PyProof.Rows.sortedAll_at s.heap its out.toArray
    have e0 : out.toArray.toList.toArray = out.toArray := by simp
    refine ⟨.ref _, _, J.laid (t' := s.toks) (fun _ _ => PyProof.Rows.sortedAll_old) (Nat.le_succ _) (show ObjOk X.prog X.w _ _ _ (.lst _) from ⟨?_, out, ep, rvals, he'⟩), rfl, q _ (J.hok.fresh (Nat.le_succ _))⟩
    rw [rvals.length]; omega
theorem sortBy_two {ds : List D} {vs : List V} {kz : List PyData} (l1 : ds.length = vs.length) (l2 : kz.length = vs.length) :
    ∃ τ : List Nat, (∀ j ∈ τ, j < vs.length) ∧ (((vs.zip kz).mergeSort fun p q => !ltPy q.2 p.2).map (·.1)) = τ.map (fun j => vs.getD j .non) ∧ sortBy kz ds = τ.map (fun j => ds.getD j .non) := by
  let f : Nat → V × PyData := fun j => (vs.getD j .non, kz.getD j .none)
  let g : Nat → PyData × D := fun j => (kz.getD j .none, ds.getD j .non)
  have ef : (List.range vs.length).map f = vs.zip kz := by
    refine List.ext_getElem (by simp [l2]) fun j a b => ?_
    have hj : j < vs.length := by simpa using a
    simp [f, List.getD, List.getElem?_eq_getElem hj, List.getElem?_eq_getElem (show j < kz.length by omega)]
  have eg : (List.range vs.length).map g = kz.zip ds := by
    refine List.ext_getElem (by simp [l1, l2]) fun j a b => ?_
    have hj : j < vs.length := by simpa using a
    simp [g, List.getD, List.getElem?_eq_getElem (show j < kz.length by omega), List.getElem?_eq_getElem (show j < ds.length by omega)]
  let lt : Nat → Nat → Bool := fun j k => ltPy (g j).1 (g k).1
  refine ⟨(List.range vs.length).mergeSort fun x y => !lt y x, fun j hj => List.mem_range.mp ((List.mergeSort_perm _ _).mem_iff.mp hj), ?_, ?_⟩
  · rw [← ef, ← List.map_mergeSort (r := fun x y => !lt y x) (s := fun p q : V × PyData => !ltPy q.2 p.2) (f := f) (fun a _ b _ => rfl), List.map_map]
    rfl
  · unfold sortBy
    rw [← eg, ← List.map_mergeSort (r := fun x y => !lt y x) (s := fun p q : PyData × D => !ltPy q.1 p.1) (f := g) (fun a _ b _ => rfl), List.map_map]
    rfl
def gSortX : D → Option D
  | .lst o ds => match gSortL (.lst o ds) with
    | some r => some r
    | none => if ices ds = true then sortK ds ds else none
  | _ => none
def rSortX (K : PySem.W.Frag) : List V → Hp → VK → Prop := fun vs H Q => rSortL K vs H Q ∨ rSortedDt K vs H Q
theorem cr_sortX (hu : X.A.units + 64 < cLine) : CallR X (.builtin "sorted") (rSortX X.K) := by
  intro pins s σ H vs us Q J r h
  exact h.elim (cr_sortL pins s σ H vs us Q J r) (cr_sortedDt hu pins s σ H vs us Q J r)
theorem snd_sortX : Snd X (rSortX X.K) (g1L gSortX) := Snd1.snd (by
  intro I H x d1 d B1 Q hs r1 o1 e hq
  cases d1 <;> simp only [gSortX, reduceCtorEq] at e
  rename_i o ds
  cases q : gSortL (.lst o ds) with
  | some r =>
    rw [q] at e
    cases e
    exact .inl (snd_sortL (X := X) I H [.lst o ds] [x] _ Q hs (.cons B1 r1 o1 .nil) (by simp [g1L, q]) hq)
  | none =>
    rw [q] at e
    simp only at e
    split at e
    · rename_i hic
      obtain ⟨a, vs, rfl, h1, rs⟩ := rep_sqL hs r1
      have rs := rs.ice hic
      unfold sortK at e
      cases q5 : toPys ds with
      | none => rw [q5] at e; cases e
      | some kz =>
        rw [q5] at e
        simp only at e
        split at e
        · rename_i cc
          cases e
          obtain ⟨τ, t0, t1, t2⟩ := sortBy_two (ds := ds) (vs := vs) (kz := kz) rs.length (by rw [toPys_len q5, rs.length])
          refine .inr ⟨a, vs, kz, rfl, h1, Reps.dp hs rs q5, cc.1, by rw [← rs.length]; exact cc.2, fun p hp => ?_⟩
          rw [t1]
          rw [t2] at hq
          obtain ⟨B, n⟩ := newV_lst (X := X) hs hp (Reps.pick rs fun j hj => by rw [rs.length]; exact t0 j hj)
          exact hq _ _ _ _ n
        · cases e
    · cases e)

/-! ### tuple(xs) -/
def gTupOf : D → Option D
  | .lst _ ds => if ices ds = true then some (.tup ds) else none
  | .tup ds => if ices ds = true then some (.tup ds) else none
  | _ => none
def rTupOf (K : PySem.W.Frag) : List V → Hp → VK → Prop := fun xs H Q => ∃ p ys, xs = [.ref p] ∧ ((SqL K H p ys ∧ ∀ l, H l = none → Q (.ref l) (upd H l (.tup ys))) ∨ (SqT K H p ys ∧ Q (.ref p) H))
theorem snd_tupOf : Snd X (rTupOf X.K) (g1L gTupOf) := Snd1.snd (by
  intro I H x d1 d B1 Q hs r1 o1 e hq
  cases d1 <;> simp only [gTupOf, reduceCtorEq] at e
  · rename_i o ds
    split at e
    · rename_i hi
      cases e
      obtain ⟨a, vs, rfl, h1, rs⟩ := rep_sqL hs r1
      refine ⟨a, vs, rfl, .inl ⟨h1, fun p hp => ?_⟩⟩
      obtain ⟨I', n⟩ := newV_tup (X := X) hs hp (rs.ice hi)
      exact hq _ _ _ _ n
    · cases e
  · rename_i ds
    split at e
    · rename_i hi
      cases e
      have r1' := r1.ice (by simpa [ice] using hi)
      cases r1 with
      | tup h rs =>
        rename_i a vs
        exact ⟨a, vs, rfl, .inr ⟨SqT.of (hs _ _ h), hq _ I H no (NewV.same hs r1')⟩⟩
    · cases e)

/-! ### xs.index(y), xs.count(y) -/
def gIndexL : List D → Option D
  | [.lst _ ds, y] => match toPys ds, toPy y with
    | some zs, some z => if SeqAt.shaped (.list zs) = true ∧ SeqAt.shaped z = true then match zs.findIdx? (fun w => PyData.eqv w z) with
        | some j => some (.int j)
        | none => none
      else none
    | _, _ => none
  | _ => none
theorem snd_indexL : Snd X (rMt (rIndexD X.K)) gIndexL := by
  intro I H ds vs d Q hs rd e hq
  unfold gIndexL at e
  split at e
  · rename_i o ds y
    cases rd with
    | cons B r1 o1 rd =>
      cases rd with
      | cons B2 r2 o2 rd =>
        cases rd
        split at e
        · rename_i zs z q1 q2
          split at e
          · rename_i sh
            split at e
            · rename_i j q3
              cases e
              have D1 : Dp X.K H _ (.list zs) := Rep.dp hs r1 (by simp only [toPy, q1])
              have D2 := Rep.dp hs r2 q2
              obtain ⟨a, vs, rfl, h1, rs⟩ := rep_sqL hs r1
              obtain ⟨hj, h3, h4⟩ := List.findIdx?_eq_some_iff_getElem.mp q3
              refine ⟨a, _, z, zs, j, zs[j], rfl, rfl, D1, D2, sh.1, sh.2, List.getElem?_eq_getElem hj, h3, fun m z' hm hz' => ?_, hq _ I H no (NewV.same hs .int)⟩
              obtain ⟨hm2, rfl⟩ := List.getElem?_eq_some_iff.mp hz'
              simpa using h4 m hm
            · cases e
          · cases e
        · cases e
  · cases e
def rCountD (K : PySem.W.Frag) : V → List V → Hp → VK → Prop := fun x xs H Q => ∃ (a : Addr) (y : V) (d : PyData) (ds : List PyData), x = V.ref a ∧ xs = [y] ∧ Dp K H (V.ref a) (.list ds) ∧ Dp K H y d ∧
  PyData.plainAll ds = true ∧ d.plain = true ∧ d.depth ≤ 8 ∧ Q (.int (ds.countP fun z => PyData.eqv z d : Nat)) H
theorem mt_countD (hu : X.A.units + 64 < cLine) : MtR X "list.count" (rCountD X.K) := by
  intro pins s σ H x xs v us Q J rx rxs h
  obtain ⟨a, y, d, ds, rfl, rfl, hl, hy, pl, pd, dd, q⟩ := h
  cases rx
  cases rxs with
  | cons ry rt =>
    cases rt
    obtain ⟨bs, r1⟩ := Dp.reads J d y _ hy ry
    cases hl with
    | lst hs ha =>
      obtain ⟨its, rv, hl, hlen⟩ := J.list hs
      obtain ⟨as, h4⟩ := Dp.readsAll J ds _ its ha rv
      refine PySem.SeqAt.count_list_data (vs := its.toArray) hl.isList h4 r1 pl pd (by omega) ⟨.int _, H, J.tok _, ⟨_, rfl⟩, q⟩
def gCountL : List D → Option D
  | [.lst _ ds, y] => match toPys ds, toPy y with
    | some zs, some z => if PyData.plainAll zs = true ∧ (z.plain = true ∧ z.depth ≤ 8) then some (.int (zs.countP (fun w => PyData.eqv w z) : Nat)) else none
    | _, _ => none
  | _ => none
theorem snd_countL : Snd X (rMt (rCountD X.K)) gCountL := by
  intro I H ds vs d Q hs rd e hq
  unfold gCountL at e
  split at e
  · rename_i o ds y
    cases rd with
    | cons B r1 o1 rd =>
      cases rd with
      | cons B2 r2 o2 rd =>
        cases rd
        split at e
        · rename_i zs z q1 q2
          split at e
          · rename_i sh
            cases e
            have D1 : Dp X.K H _ (.list zs) := Rep.dp hs r1 (by simp only [toPy, q1])
            have D2 := Rep.dp hs r2 q2
            obtain ⟨a, vs, rfl, h1, rs⟩ := rep_sqL hs r1
            exact ⟨a, _, z, zs, rfl, rfl, D1, D2, sh.1, sh.2.1, sh.2.2, hq _ I H no (NewV.same hs .int)⟩
          · cases e
        · cases e
  · cases e

/-! ### xs.extend(ys) -/
theorem reps_app {K : PySem.W.Frag} {mg : Str → Option Value} {I H : Hp} : ∀ {ds : List D} {vs : List V} {A : FP} {es : List D} {us : List V} {C : FP}, Reps K mg I H ds vs A → Reps K mg I H es us C → Dis A C → Reps K mg I H (ds ++ es) (vs ++ us) (A.or C)
  | _, _, _, _, _, _, .nil, r2, _ => r2.mono le_r
  | _, _, _, _, _, _, .cons (B := B') (C := C') r rs x y z, r2, dd => .cons (B := B') (C := C'.or _) r (reps_app rs r2 (dd.mono y Le.refl)) (x.trans le_l) (fun p q => q.elim (fun q => .inl (y p q)) .inr) fun p q w => w.elim (z p q) (dd p (x p q))
def mExtend : List D → Option (D × List D)
  | [.lst true xs, .lst true ys] => if xs.length + ys.length ≤ sizeLine then some (.non, [.lst true (xs ++ ys), .hole]) else none
  | _ => none
theorem snd_extend : SndU X (rMt rExtend) mExtend := by
  intro ds vs I H F Q res ds' s e hlen hq
  unfold mExtend at e
  split at e
  · rename_i xs ys
    split at e
    · rename_i hz
      cases e
      obtain ⟨v0, v1, rfl⟩ := vs2 (u_len s)
      obtain ⟨_, e0, r0⟩ := u_rep s (k := 0) rfl
      obtain ⟨_, e1, r1⟩ := u_rep s (k := 1) rfl
      cases e0; cases e1
      cases r0 with
      | lstO hA h rs hB nB =>
        rename_i a ws B0
        cases r1 with
        | lstO hA1 h1 rs1 hB1 nB1 =>
          rename_i a1 ws1 B1
          have g1 := go_out (i := 1) s rfl rfl
          have n1 : ¬ B1 a := fun z => s.dis 0 1 (by decide) a hA (hB1 a z)
          have g2 := go_upd (i := 0) (a := a) (o := .lst (ws ++ ws1)) (d := .lst true (xs ++ ys)) (v := .ref a) (A' := (F 0).or (F 1)) (B' := no) g1 (show _ = some ⟨true, false, .lst true xs⟩ from rfl) rfl rfl (by rw [FF.set_ne (by decide)]; exact hA)
            (by rw [FF.set_ne (by decide)]; exact Le.refl) no_le dis_no
            (.lstO (B := B0.or B1) (.inl hA) upd_same (reps_app (rs.updF nB) (rs1.updF n1) fun b p q => s.dis 0 1 (by decide) b (hB b p) (hB1 b q)) (fun b z => z.elim (fun z => .inl (hB b z)) fun z => .inr (hB1 b z)) fun z => z.elim nB n1)
          exact ⟨a, a1, ws, ws1, rfl, rfl, h, h1, by rw [← rs.length, ← rs1.length]; exact hz, hq _ _ _ _ _ g2 .non⟩
    · cases e
  · cases e
end
end DL

set_option linter.all false
set_option autoImplicit false
set_option maxRecDepth 100000
set_option maxHeartbeats 4000000
namespace DL
open PySem PySem.Spec L2
open PyProof.Rows hiding St
theorem Room.u65 {k : Nat} {A : Around} (r : Room k A) : A.units + 65 < cLine := by have := r.un; omega
/-! ### dict(pairs) -/
def putD (l : List (KD × D)) (k : KD) (d : D) : List (KD × D) := match ixK (l.map (·.1)) k with
  | some j => l.set j (k, d)
  | none => l ++ [(k, d)]
def pairsD : List D → Option (List (KD × D))
  | [] => some []
  | .tup [k, d] :: ds => match keyD k, pairsD ds with
    | some q, some r => if isSc q = true then some ((q, d) :: r) else none
    | _, _ => none
  | _ => none
def mergeD (l : List (KD × D)) (ps : List (KD × D)) : List (KD × D) := ps.foldl (fun acc p => putD acc p.1 p.2) l
def gDictP : D → Option D
  | .lst _ ds => if ices ds = true then match pairsD ds with
      | some ps => some (.dic true ((mergeD [] ps).map (·.1)) ((mergeD [] ps).map (·.2)))
      | none => none
    else none
  | _ => none
section
variable {X : Cx} {W : WX} {I H : Hp} {δ : Env} {σ : L2.St} {F : FF}
structure RK (K : PySem.W.Frag) (mg : Str → Option Value) (I H : Hp) (l : List (KD × D)) (kvs : List (Key × V)) : Prop where
  hk : kvs.map (fun p => kdK p.1) = l.map (·.1)
  nd : (l.map (·.1)).Nodup
  r : Reps K mg I H (l.map (·.2)) (kvs.map (·.2)) no
theorem reps_set : ∀ {ds : List D} {vs : List V} {j : Nat} {d : D} {v : V} {K : PySem.W.Frag} {mg : Str → Option Value}, Reps K mg I H ds vs no → Rep K mg I H d v no → Reps K mg I H (ds.set j d) (vs.set j v) no
  | _, _, _, _, _, _, _, .nil, _ => .nil
  | _, _, 0, _, _, _, _, .cons r rs x y z, h => .cons (B := no) (C := no) h (rs.mono y) no_le no_le dis_no
  | _, _, j + 1, _, _, _, _, .cons r rs x y z, h => .cons (B := no) (C := no) (r.mono x) (reps_set (rs.mono y) h) no_le no_le dis_no
theorem RK.put {l : List (KD × D)} {kvs : List (Key × V)} {k : Key} {d : D} {v : V} (h : RK X.K X.mg I H l kvs) (r : Rep X.K X.mg I H d v no) : RK X.K X.mg I H (putD l (kdK k) d) (putK kvs k v) := by
  obtain ⟨hk, nd, rs⟩ := h
  have nd' : (kvs.map (·.1)).Nodup := by
    rw [← hk] at nd
    have : kvs.map (fun p => kdK p.1) = (kvs.map (·.1)).map kdK := by simp
    rw [this] at nd
    exact nodup_of_map nd
  unfold putD
  cases q : ixK (l.map (·.1)) (kdK k) with
  | some j =>
    have q2 := q
    rw [← hk, ixK_findK] at q2
    obtain ⟨p1, p2⟩ := putK_at (v := v) q2 nd'
    have hj : (l.map (·.1))[j]? = some (kdK k) := by
      unfold ixK at q
      obtain ⟨h1, h2, _⟩ := List.findIdx?_eq_some_iff_getElem.mp q
      rw [List.getElem?_eq_getElem h1]
      simpa using h2
    have e1 : (l.set j (kdK k, d)).map (·.1) = l.map (·.1) := by
      rw [List.map_set]
      exact List.ext_getElem? fun m => by
        by_cases hm : m = j
        · subst hm
          have hl := (List.getElem?_eq_some_iff.mp hj).1
          rw [List.getElem?_set_self hl, hj]
        · rw [List.getElem?_set_ne (Ne.symm hm)]
    simp only
    refine ⟨?_, by rw [e1]; exact nd, ?_⟩
    · rw [e1, ← hk]
      have : (putK kvs k v).map (fun p => kdK p.1) = ((putK kvs k v).map (·.1)).map kdK := by simp
      rw [this, p1]; simp
    · rw [List.map_set, p2]
      exact reps_set rs r
  | none =>
    have hn := ixK_new q
    rw [← hk, ixK_findK] at q
    have p := putK_new' (v := v) q
    simp only
    refine ⟨by rw [p, List.map_append, List.map_append, hk]; rfl, by rw [List.map_append]; exact nodup_snoc nd hn, ?_⟩
    rw [p, List.map_append, List.map_append]
    exact (Reps.snoc rs r no_dis).mono fun a z => z.elim id id
theorem RK.merge : ∀ {ps : List (KD × D)} {l : List (KD × D)} {kvs more : List (Key × V)}, RK X.K X.mg I H l kvs → more.map (fun p => kdK p.1) = ps.map (·.1) → Reps X.K X.mg I H (ps.map (·.2)) (more.map (·.2)) no → RK X.K X.mg I H (mergeD l ps) (mergeK kvs more)
  | [], l, kvs, more, h, e, r => by
    have : more = [] := by cases more with
      | nil => rfl
      | cons _ _ => simp at e
    subst this
    exact h
  | p :: ps, l, kvs, [], h, e, r => by simp at e
  | p :: ps, l, kvs, m :: more, h, e, r => by
    simp only [List.map_cons, List.cons.injEq] at e
    rw [List.map_cons, List.map_cons] at r
    cases r with
    | cons r rs x y z =>
      show RK X.K X.mg I H (mergeD (putD l p.1 p.2) ps) (mergeK (putK kvs m.1 m.2) more)
      have h1 := h.put (k := m.1) (r.mono x)
      rw [e.1] at h1
      exact h1.merge e.2 (rs.mono y)
def rDictP (K : PySem.W.Frag) : List V → Hp → VK → Prop := fun xs H Q => ∃ (a : Addr) (ps : List Addr) (kvs : List (Key × V)), xs = [.ref a] ∧ SqL K H a (ps.map V.ref) ∧ Paired (fun p kv => SqT K H p [kV kv.1, kv.2]) ps kvs ∧ ∀ p, H p = none → Q (.ref p) (upd H p (.dK (mergeK [] kvs)))
theorem pairsD_ok (hs : SubH X.K I H) : ∀ {ds : List D} {vs : List V} {ps : List (KD × D)}, Reps X.K X.mg I H ds vs no → pairsD ds = some ps → ∃ (as : List Addr) (kvs : List (Key × V)), vs = as.map V.ref ∧ Paired (fun p kv => SqT X.K H p [kV kv.1, kv.2]) as kvs ∧ kvs.map (fun p => kdK p.1) = ps.map (·.1) ∧ Reps X.K X.mg I H (ps.map (·.2)) (kvs.map (·.2)) no
  | _, _, ps, .nil, e => by simp [pairsD] at e; subst e; exact ⟨[], [], rfl, .nil, rfl, .nil⟩
  | _, _, ps, .cons (d := d) (ds := ds) r rs x y z, e => by
    unfold pairsD at e
    split at e
    · rename_i z1; cases z1
    · rename_i k d' ds' z1
      cases z1
      split at e
      · rename_i q r' q1 q2
        split at e
        · rename_i sc
          cases e
          cases r with
          | tup h rs0 =>
            rename_i a ws
            cases rs0 with
            | cons r1 rs1 x1 y1 z1 =>
              cases rs1 with
              | cons r2 rs2 x2 y2 z2 =>
                cases rs2
                rcases keyD_rep hs r1 q1 with ⟨qq, rfl, rfl⟩ | ⟨kk, b, rfl, _, _⟩
                · obtain ⟨as, kvs, rfl, e1, e2, e3⟩ := pairsD_ok hs (rs.mono y) q2
                  exact ⟨a :: as, (qq, _) :: kvs, rfl, .cons (SqT.of (hs _ _ h)) e1, by simp [e2], .cons (B := no) (C := no) ((((r2.mono x2).mono y1).mono x)) e3 no_le no_le dis_no⟩
                · simp [isSc] at sc
        · cases e
      · cases e
    · cases e
theorem snd_dictP : Snd X (rDictP X.K) (g1L gDictP) := Snd1.snd (by
  intro I H x d1 d B1 Q hs r1 o1 e hq
  cases d1 <;> simp only [gDictP, reduceCtorEq] at e
  rename_i o ds
  split at e
  · rename_i hic
    split at e
    · rename_i ps q
      cases e
      obtain ⟨a, vs, rfl, h1, rs⟩ := rep_sqL hs r1
      obtain ⟨as, kvs, rfl, e1, e2, e3⟩ := pairsD_ok hs (rs.ice hic) q
      have k := RK.merge (X := X) (I := I) (H := H) (l := []) (kvs := []) ⟨rfl, List.nodup_nil, .nil⟩ e2 e3
      refine ⟨a, as, kvs, rfl, h1, e1, fun p hp => ?_⟩
      have n := newM_dic (X := X) hs hp k.hk k.nd k.r
      exact hq _ _ _ _ n.newV
    · cases e
  · cases e)

/-! ### len(set(xs)), whole numbers -/
def dedupI (ns : List Int) : List Int := firstMet (fun i => ns.getD i 0) ns.length
def gLenSet : D → Option D
  | .lst _ ds => match intsD ds with
    | some ns => if ns.length ≤ 4000 then some (.int (dedupI ns).length) else none
    | none => none
  | _ => none
def eLenSet (fe : EF) : EF := eRd (g1L gLenSet) (eCons fe eNil)
def rLenSet (K : PySem.W.Frag) : List V → Hp → VK → Prop := fun vs H Q => ∃ (l : Addr) (ns : List Int), vs = [.ref l] ∧ SqL K H l (ns.map V.int) ∧ ns.length ≤ 4000 ∧ Q (.int ((dedupI ns).length : Nat)) H
theorem pe_lenSet {a : Expr} {ta : TA} {p p2 q pos : Pos} (hg : Gl X "len") (hm : X.mg "len" = none) (hg2 : Gl X "set") (hm2 : X.mg "set" = none) (ha : PA X [a] ta) (hc : X.calm = true)
    (na : starEach [a] X.env = (false, eval a X.env) :: starEach [] X.env := by rfl) : PE X (.Call (.Name "len" p) [.Call (.Name "set" p2) [a] [] q] [] pos) (fun σ H Q => ta σ H fun vs H1 => rLenSet X.K vs H1 Q) := by
  refine ⟨fun pins s σ H Q J h => ?_⟩
  refine Call_ (ld_blt J hg hm boot_len ?_)
  refine PyProof.Rows.callWith_builtin1 (PyProof.Rows.args_cons ?_ rfl) rfl rfl
  refine Call_ (ld_blt J hg2 hm2 boot_set ?_)
  refine PyProof.Rows.callWith_type1 (thn (ha.run q pins s σ H _ J h) fun us s1 ⟨vs, H1, J1, r1, q1⟩ => ?_) na rfl
  obtain ⟨l, ns, rfl, hq, hl, q1⟩ := q1
  obtain ⟨u, rfl, ru⟩ := vals1 r1
  obtain rfl : u = .ref l := ru
  obtain ⟨its, r, pl, hz⟩ := J1.list hq
  have hlen : its.toArray.size = ns.length := by rw [List.size_toArray, ← r.length, List.length_map]
  refine call_set_list (J1.ok.hd hc) pl.isList (by simpa using RZ.intsAre_vals r) (by rw [hlen]; unfold scanBound; omega) fun h' tk hS hk => ?_
  refine PyProof.Rows.args_nil ?_
  rw [hlen] at hS
  obtain ⟨o, es, ep, t, ho, hex, hd, _, _, _, hf, hn⟩ := hS
  have J2 : Inv X pins σ H1 { s1 with heap := h', toks := tk } := J1.kept fun b o e => hk b o (Heap.lt_size e) e
  have le := firstMet_length_le (fun i => ns.getD i 0) ns.length
  exact call_len_set ho hex hd hf (by rw [hn] <;> omega) ⟨.int _, H1, J2.tok _, ⟨_, by rw [hn]; rfl⟩, q1⟩
theorem de_lenSet {a : Expr} {fe : EF} {p p2 q pos : Pos} (hg : Gl X "len") (hm : X.mg "len" = none) (hg2 : Gl X "set") (hm2 : X.mg "set" = none) (ha : DE X W a fe) (hc : X.calm = true)
    (na : starEach [a] X.env = (false, eval a X.env) :: starEach [] X.env := by rfl) : DE X W (.Call (.Name "len" p) [.Call (.Name "set" p2) [a] [] q] [] pos) (eLenSet fe) := by
  obtain ⟨t, pa, qa⟩ := da_cons ha da_nil na
  refine ⟨_, pe_lenSet hg hm hg2 hm2 pa hc na, se_rd (Snd1.snd ?_) qa⟩
  intro I H x d1 d B1 Q hs r1 o1 e hq
  unfold gLenSet at e
  split at e
  · rename_i o ds
    split at e
    · rename_i ns q
      split at e
      · rename_i hl
        cases e
        obtain ⟨a, vs, rfl, h1, rs⟩ := rep_sqL hs r1
        obtain rfl := intsD_ok rs q
        exact ⟨a, ns, rfl, h1, hl, hq _ I H no (NewV.same hs .int)⟩
      · cases e
    · cases e
  · cases e

/-! ### for x in reversed(xs): a list whose items are frozen -/
def iRv (fa : AF) : IF := fun δ => (fa δ).bind fun os δ1 => match tmpL os with
  | some [.lst _ xs] => .ok ((fzs xs).reverse, []) δ1
  | _ => .stk
theorem si_rev {t : TA} {fa : AF} (q : SA X W t fa) : SI X W (iRev X.K t) (iRv fa) := by
  intro I H δ σ F R s h
  refine q I H δ σ F _ s ?_
  unfold iRv at h
  cases q1 : fa δ with
  | stk => rw [q1] at h; exact h.elim
  | er x δ' => rw [q1] at h; exact h
  | ok os δ1 =>
    rw [q1] at h
    intro vs I1 H1 F1 B go rs
    change IO X W I H δ σ F R (match tmpL os with
      | some [.lst _ xs] => .ok ((fzs xs).reverse, []) δ1
      | _ => .stk) at h
    split at h
    · rename_i b xs q2
      have rt := tmpL_ok rs q2
      cases rt with
      | cons r rs2 _ _ _ =>
        cases rs2
        obtain ⟨I2, g2, rz⟩ := go_frz go (d := .lst b xs) (r.mono (by assumption))
        simp only [fz] at rz
        cases rz with
        | lstF hsq rk =>
          rename_i a ws
          refine ⟨a, ws, rfl, g2.st.sub.sqL hsq, ?_⟩
          have hl : (fzs xs).reverse.length = ws.length := by rw [List.length_reverse, rk.length]
          refine h I2 H1 F1 (g2.less no_le) _ _ _ (by rw [hl]; exact walk_rev) fun I3 H3 δ3 σ3 F3 B3 g3 => ⟨?_, fun i d y H4 ed hy => ?_⟩
          · exact g3.st.sub.sqL (by
              rcases hsq with (z | ⟨o, z⟩) | z
              · exact .inl (.inl (g3.ev.inc _ _ z))
              · exact .inl (.inr ⟨o, g3.ev.inc _ _ z⟩)
              · exact .inr z)
          · obtain ⟨rfl, hy⟩ := hy
            have hi : i < (fzs xs).length := by
              have := (List.getElem?_eq_some_iff.mp ed).1
              simpa using this
            rw [List.getElem?_reverse hi, rk.length] at ed
            obtain ⟨w, ew, rw_⟩ := rk.get ed
            rw [ew] at hy; cases hy
            exact ⟨I3, NewV.same g3.st.sub (rw_.frame g3.ev.inc fun _ _ z => z.elim)⟩
    · exact h.elim
theorem di_rev {tg e : Expr} {fa : AF} {p pos : Pos} (ha : DA X W [e] fa) (hp : ∀ {t}, PA X [e] t → PI X tg (.Call (.Name "reversed" p) [e] [] pos) (iRev X.K t)) : DI X W tg (.Call (.Name "reversed" p) [e] [] pos) (iRv fa) :=
  let ⟨_, pa, qa⟩ := ha; ⟨_, hp pa, si_rev qa⟩
end
end DL

set_option linter.all false
set_option autoImplicit false
set_option maxRecDepth 100000
set_option maxHeartbeats 4000000
namespace DL
open PySem PySem.Spec L2 LamX
open PyProof.Rows hiding St

/-! ### order of alike data: tuples, lists -/
def rOrdD (K : PySem.W.Frag) (f : PyData → PyData → Bool) : R2 := fun x y H Q => ∃ d e, Dp K H x d ∧ Dp K H y e ∧ PySem.W.alike d e = true ∧ d ≠ .none ∧ d.depth ≤ 8 ∧ Q (.bl (f d e)) H
section
variable {X : Cx} {W : WX} {I H I1 H1 : Hp} {δ δ1 : Env} {σ : L2.St} {F F1 : FF} {B : FP}
theorem op_ltD (hu : X.A.units + 64 < cLine) : OpR X (compareOp .Lt) (rOrdD X.K fun d e => PySem.W.dataLt d e) := by
  intro pins s σ H x y v u Q I rx ry h
  obtain ⟨d, e, hd, he, al, nn, dp, q⟩ := h
  obtain ⟨as, r1⟩ := Dp.reads I d x v hd rx
  obtain ⟨bs, r2⟩ := Dp.reads I e y u he ry
  exact PySem.W.lt_data r1 r2 al nn (by omega) ⟨.bl _, H, I, rfl, q⟩
theorem op_gtD (hu : X.A.units + 64 < cLine) : OpR X (compareOp .Gt) (rOrdD X.K fun d e => PySem.W.dataLt e d) := by
  intro pins s σ H x y v u Q I rx ry h
  obtain ⟨d, e, hd, he, al, nn, dp, q⟩ := h
  obtain ⟨as, r1⟩ := Dp.reads I d x v hd rx
  obtain ⟨bs, r2⟩ := Dp.reads I e y u he ry
  exact PySem.W.gt_data r1 r2 al nn (by omega) ⟨.bl _, H, I, rfl, q⟩
theorem op_leD (hu : X.A.units + 64 < cLine) : OpR X (compareOp .LtE) (rOrdD X.K fun d e => !PySem.W.dataLt e d) := by
  intro pins s σ H x y v u Q I rx ry h
  obtain ⟨d, e, hd, he, al, nn, dp, q⟩ := h
  obtain ⟨as, r1⟩ := Dp.reads I d x v hd rx
  obtain ⟨bs, r2⟩ := Dp.reads I e y u he ry
  exact PySem.W.le_data r1 r2 al nn (by omega) ⟨.bl _, H, I, rfl, q⟩
theorem op_geD (hu : X.A.units + 64 < cLine) : OpR X (compareOp .GtE) (rOrdD X.K fun d e => !PySem.W.dataLt d e) := by
  intro pins s σ H x y v u Q I rx ry h
  obtain ⟨d, e, hd, he, al, nn, dp, q⟩ := h
  obtain ⟨as, r1⟩ := Dp.reads I d x v hd rx
  obtain ⟨bs, r2⟩ := Dp.reads I e y u he ry
  exact PySem.W.ge_data r1 r2 al nn (by omega) ⟨.bl _, H, I, rfl, q⟩
def isNon : PyData → Bool
  | .none => true
  | _ => false
/-- the order of alike data -/
def gOrd (f : PyData → PyData → Bool) (x y : D) : Option D := match toPy x, toPy y with
  | some d, some e => if PySem.W.alike d e = true ∧ isNon d = false ∧ d.depth ≤ 8 then some (.bl (f d e)) else none
  | _, _ => none
theorem snd_ord {f : PyData → PyData → Bool} : Snd2 X (rOrdD X.K f) (gOrd f) := by
  intro I H x y d1 d2 d B1 B2 Q hs r1 o1 r2 o2 e hq
  unfold gOrd at e
  cases q1 : toPy d1 with
  | none => rw [q1] at e; simp at e
  | some u =>
    cases q2 : toPy d2 with
    | none => rw [q1, q2] at e; simp at e
    | some w =>
      rw [q1, q2] at e
      simp only at e
      split at e
      · rename_i c
        cases e
        exact ⟨u, w, r1.dp hs q1, r2.dp hs q2, c.1, fun z => by rw [z] at c; simp [isNon] at c, c.2.2, hq _ I H no (NewV.same hs .bl)⟩
      · cases e
abbrev gLtX := gOrd fun d e => ltPy d e
abbrev gGtX := gOrd fun d e => ltPy e d
abbrev gLeX := gOrd fun d e => !ltPy e d
abbrev gGeX := gOrd fun d e => !ltPy d e
theorem opx_ltX (hu : X.A.units + 64 < cLine) : OpR X (compareOp .Lt) (rOrdD X.K fun d e => ltPy d e) := op_ltD hu
theorem opx_gtX (hu : X.A.units + 64 < cLine) : OpR X (compareOp .Gt) (rOrdD X.K fun d e => ltPy e d) := op_gtD hu
theorem opx_leX (hu : X.A.units + 64 < cLine) : OpR X (compareOp .LtE) (rOrdD X.K fun d e => !ltPy e d) := op_leD hu
theorem opx_geX (hu : X.A.units + 64 < cLine) : OpR X (compareOp .GtE) (rOrdD X.K fun d e => !ltPy d e) := op_geD hu

/-! ### a[i], b[j] = x, y: plain values -/
def plainS : D → Option V
  | .int i => some (.int i)
  | .str x => some (.str x)
  | .bl b => some (.bl b)
  | .non => some .non
  | _ => none
theorem plainS_rep {d : D} {v : V} (h : plainS d = some v) (I H : Hp) : Rep X.K X.mg I H d v no := by
  cases d <;> simp only [plainS, Option.some.injEq, reduceCtorEq] at h <;> subst h
  · exact .non
  · exact .bl
  · exact .int
  · exact .str
theorem plainS_uniq {d : D} {v w : V} (h : plainS d = some v) (r : Rep X.K X.mg I H d w B) : w = v := by
  cases d <;> simp only [plainS, Option.some.injEq, reduceCtorEq] at h <;> subst h <;> cases r <;> rfl
def swpK (fo1 fi1 fo2 fi2 : EF) (o : Opd) (δ1 : Env) : Out := match o with
  | .tmp (.tup [a, b]) => if (plainS a).isSome = true ∧ (plainS b).isSome = true then sSeq (sSub (eC a) fo1 fi1) (sSub (eC b) fo2 fi2) δ1 else .stk
  | _ => .stk
def sSwp (f1 f2 fo1 fi1 fo2 fi2 : EF) : SF := fun δ => (eMk mkTup (eCons (eV f1) (eCons (eV f2) eNil)) δ).bindS fun o δ1 => swpK fo1 fi1 fo2 fi2 o δ1
theorem sub_step {to ti : TE} {fo fi : EF} (qo : SE X W to fo) (qi : SE X W ti fi) {d : D} {v : V} (hv : plainS d = some v) (E : Ends) (s : Stt X.K X.mg I H δ σ F) (h : SO X W E I H δ σ F (sSub (eC d) fo fi δ)) : L2.gSub to ti rSetX v σ H E.nx := by
  have key := se_callR (r := rSetV rSetX) snd_set.snd (sa_cons (se_val (se_c (plainS_rep hv))) (sa_cons qo (sa_cons qi (sa_nil (X := X) (W := W))))) I H δ σ F (fun _ H' => E.nx σ H') s ?_
  · exact key
  · unfold sSub at h
    cases q : eCall (liftG mSet) [] (eCons (eV (eC d)) (eCons fo (eCons fi eNil))) δ with
    | stk => rw [q] at h; exact h.elim
    | er x δ' => rw [q] at h; exact ErS.o h
    | ok o δ1 => rw [q] at h; exact fun v I' H' F' B g _ => h I' H' σ F' (g.less no_le)
theorem ds_swp {o1 i1 o2 i2 e : Expr} {f1 f2 fo1 fi1 fo2 fi2 : EF} {p1 p2 pt pos : Pos} {kt : Nat} (hu : X.A.units + 1 < cLine) (hc : X.calm = true)
    (he : DE X W e (eMk mkTup (eCons (eV f1) (eCons (eV f2) eNil))))
    (ho1 : DE X W o1 fo1) (hi1 : DE X W i1 fi1) (ho2 : DE X W o2 fo2) (hi2 : DE X W i2 fi2)
    (ha1 : ∀ v, assign (.Subscript o1 i1 p1) X.env v = (do
      let ov ← holding [v] (eval o1 X.env)
      let iv ← holding [v, ov] (eval i1 X.env)
      standAt p1
      holding [v, ov, iv] (setItem ov iv v)
      release [v, ov, iv] []) := by intro _; rfl)
    (ha2 : ∀ v, assign (.Subscript o2 i2 p2) X.env v = (do
      let ov ← holding [v] (eval o2 X.env)
      let iv ← holding [v, ov] (eval i2 X.env)
      standAt p2
      holding [v, ov, iv] (setItem ov iv v)
      release [v, ov, iv] []) := by intro _; rfl)
    (hn : (assignEach [.Subscript o1 i1 p1, .Subscript o2 i2 p2] X.env).length = 2 := by rfl) (hst : (assignEach [.Subscript o1 i1 p1, .Subscript o2 i2 p2] X.env).findIdx? (·.1) = none := by rfl)
    (hs1 : (assignEach [.Subscript o1 i1 p1, .Subscript o2 i2 p2] X.env).map (·.2) = assign (.Subscript o1 i1 p1) X.env :: (assignEach [.Subscript o2 i2 p2] X.env).map (·.2) := by rfl)
    (hs2 : (assignEach [.Subscript o2 i2 p2] X.env).map (·.2) = assign (.Subscript o2 i2 p2) X.env :: (assignEach [] X.env).map (·.2) := by rfl)
    (h1 : (assignEach [.Tuple [.Subscript o1 i1 p1, .Subscript o2 i2 p2] kt pt] X.env).map (·.2) = [assign (.Tuple [.Subscript o1 i1 p1, .Subscript o2 i2 p2] kt pt) X.env] := by rfl)
    (hs : swapsWithSole [.Tuple [.Subscript o1 i1 p1, .Subscript o2 i2 p2] kt pt] e pos.line X.env = pure false := by rfl) (hw : swappedStores [.Tuple [.Subscript o1 i1 p1, .Subscript o2 i2 p2] kt pt] e X.env = pure none := by rfl) :
    DS X W (.Assign [.Tuple [.Subscript o1 i1 p1, .Subscript o2 i2 p2] kt pt] e pos) (sSwp f1 f2 fo1 fi1 fo2 fi2) := by
  obtain ⟨to1, po1, qo1⟩ := ho1
  obtain ⟨ti1, pi1, qi1⟩ := hi1
  obtain ⟨to2, po2, qo2⟩ := ho2
  obtain ⟨ti2, pi2, qi2⟩ := hi2
  obtain ⟨te, pe, qe⟩ := he
  refine ⟨_, ps_asg pe (pg_tup hc (pgs_cons (pg_sub po1 pi1 (set_all hu) ha1) (pgs_cons (pg_sub po2 pi2 (set_all hu) ha2) pgs_nil hs2) hs1) hn hst) hs hw h1, fun I H δ σ F E s h => ?_⟩
  refine qe I H δ σ F _ s ?_
  unfold sSwp at h
  cases q : eMk mkTup (eCons (eV f1) (eCons (eV f2) eNil)) δ with
  | stk => rw [q] at h; exact h.elim
  | er x δ' => rw [q] at h; exact ErS.o h
  | ok o δ1 =>
    rw [q] at h
    intro x I1 H1 F1 B g ro
    change SO X W E I H δ σ F (swpK fo1 fi1 fo2 fi2 o δ1) at h
    clear q
    unfold swpK at h
    split at h
    · rename_i a b
      split at h
      · rename_i c
        obtain ⟨v1, e1⟩ := Option.isSome_iff_exists.mp c.1
        obtain ⟨v2, e2⟩ := Option.isSome_iff_exists.mp c.2
        have rp : Rep X.K X.mg I1 H1 (.tup [a, b]) x B := ro
        cases rp with
        | tup hq rs =>
          cases rs with
          | cons r1 rs x1 y1 z1 =>
            cases rs with
            | cons r2 rs x2 y2 z2 =>
              cases rs
              obtain rfl := plainS_uniq e1 r1
              obtain rfl := plainS_uniq e2 r2
              refine ⟨_, _, rfl, SqT.of (g.st.sub _ _ hq), rfl, ?_⟩
              have g0 := g.less no_le
              have h' := SO.trans g0 h
              refine ⟨_, _, rfl, ?_⟩
              have g00 : Stt X.K X.mg I1 H1 δ1 σ F1 := g.st
              refine sub_step qo1 qi1 e1 { nx := fun σ' H' => ∃ u vr, [_] = u :: vr ∧ L2.gSub to2 ti2 rSetX u σ' H' fun σ'' H'' => gNil vr σ'' H'' E.nx, rt := E.rt, bk := E.bk, ct := E.ct } g00 ?_
              unfold sSeq at h'
              cases q2 : sSub (eC a) fo1 fi1 δ1 with
              | nx δ2 =>
                rw [q2] at h'
                intro I2 H2 σ2 F2 g2
                refine ⟨_, _, rfl, ?_⟩
                refine sub_step qo2 qi2 e2 { nx := fun σ'' H'' => gNil [] σ'' H'' E.nx, rt := E.rt, bk := E.bk, ct := E.ct } g2.st ?_
                have h2 : SO X W E I2 H2 δ2 σ2 F2 (sSub (eC b) fo2 fi2 δ2) := SO.trans g2 h'
                cases q3 : sSub (eC b) fo2 fi2 δ2 with
                | nx δ3 =>
                  rw [q3] at h2
                  intro I3 H3 σ3 F3 g3
                  exact ⟨rfl, h2 I3 H3 σ3 F3 g3⟩
                | bk δ' => rw [q3] at h2; exact h2
                | ct δ' => rw [q3] at h2; exact h2
                | rt d δ' => rw [q3] at h2; exact h2
                | er x δ' => rw [q3] at h2; exact h2
                | stk => rw [q3] at h2; exact h2
              | bk δ' => rw [q2] at h'; exact h'
              | ct δ' => rw [q2] at h'; exact h'
              | rt d δ' => rw [q2] at h'; exact h'
              | er x δ' => rw [q2] at h'; exact h'
              | stk => rw [q2] at h'; exact h'
      · exact h.elim
    · exact h.elim
end
end DL

set_option linter.all false
set_option autoImplicit false
set_option maxRecDepth 100000
set_option maxHeartbeats 4000000
namespace DL
open PySem PySem.Spec L2 LamX
open PyProof.Rows hiding St
section
variable {X : Cx} {W : WX} {I H I1 H1 : Hp} {δ δ1 : Env} {σ : L2.St} {F F1 : FF} {B : FP}
/-- list(range(n)) -/
def lrgK (o : Opd) (δ1 : Env) : R Opd := match rdO o δ1 with
  | some (.int n) => if 0 ≤ n ∧ n ≤ 16777216 then .ok (.tmp (.lst true ((List.range n.toNat).map fun i => .int (i : Nat)))) δ1 else .stk
  | _ => .stk
def eLRg (f : EF) : EF := fun δ => (f δ).bind fun o δ1 => lrgK o δ1
theorem de_listRg {a : Expr} {fa : EF} {p p2 pos pos2 : Pos} (hc : X.calm = true) (ha : DE X W a fa) (hg : Gl X "list") (hm : X.mg "list" = none) (hg2 : Gl X "range") (hm2 : X.mg "range" = none)
    (na : starEach [.Call (.Name "range" p2) [a] [] pos2] X.env = (false, eval (.Call (.Name "range" p2) [a] [] pos2) X.env) :: starEach [] X.env := by rfl) (na2 : starEach [a] X.env = (false, eval a X.env) :: starEach [] X.env := by rfl) :
    DE X W (.Call (.Name "list" p) [.Call (.Name "range" p2) [a] [] pos2] [] pos) (eLRg fa) := by
  obtain ⟨te, pe, qe⟩ := ha
  refine ⟨_, pe_listRg hc hg hm (prg_1 hg2 hm2 pe na2) na, fun I H δ σ F Q s h => ?_⟩
  refine qe I H δ σ F _ s ?_
  unfold eLRg at h
  cases q : fa δ with
  | stk => rw [q] at h; exact h.elim
  | er x δ' => rw [q] at h; exact h
  | ok o δ1 =>
    rw [q] at h
    intro x I1 H1 F1 B go ro
    change EO X W I H δ σ F Q (lrgK o δ1) at h
    clear q
    unfold lrgK at h
    split at h
    · rename_i n e1
      split at h
      · rename_i c
        obtain ⟨C, rC, oC, _⟩ := rd_ok go.st go.own ro e1
        cases rC
        refine ⟨n, rfl, RgOk.of_le (by omega) c.2 (by omega) c.1, fun q hq => ?_⟩
        have hr : rgV 0 n = ((List.range n.toNat).map fun i => ((i : Nat) : Int)).map V.int := by
          unfold rgV
          rw [List.map_map, Int.sub_zero]
          refine List.map_congr_left fun i _ => ?_
          simp
        have hd : ((List.range n.toNat).map fun i => D.int (i : Nat)) = ((List.range n.toNat).map fun i => ((i : Nat) : Int)).map D.int := by rw [List.map_map]; rfl
        obtain ⟨B', nv⟩ := newV_lst (X := X) go.st.sub hq (reps_ints (K := X.K) (mg := X.mg) (I := I1) (H := H1) ((List.range n.toNat).map fun i => ((i : Nat) : Int)))
        rw [hr]
        rw [hd] at h
        exact h _ _ _ F1 B' (go.trans0 (Go.new go.st nv)) nv.rep
      · exact h.elim
    · exact h.elim
theorem ds_setLend {i k : Nat} {y : Str} {py : Pos} {elt tg iter : Expr} {ifs : List Expr} {scope : Scope} {own : List (Str × Nat)} {ws : List Nat} {pos spos : Pos} {it : IF} {gd : D → Env → Option Env} {tt : BF} {te : EF} (hc : X.calm = true) (hN : X.N.Nodup) (hy : X.N[i]? = some y) (hyl : X.env.scope.names.lookup y = some .local)
    (hsw : swapsWith (.ListComp elt [⟨tg, iter, ifs, 0⟩] scope pos) (some (.Name y py)) spos.line X.env = pure true) (hi : DI X W tg iter it) (ok : BlkOk X.N X.env.scope scope own) (hw : ∀ j ∈ ws, j ∈ own.map (·.2))
    (hg : ∀ (s : Shared) (H : Hp) (C : Addr) (cl : List (Str × Addr)) (fp : List Addr), DG (X.blk s H scope (compEnvC scope cl C X.env) fp) ws tg gd)
    (ht : ∀ (s : Shared) (H : Hp) (C : Addr) (cl : List (Str × Addr)) (fp : List Addr), DPs (X.blk s H scope (compEnvC scope cl C X.env) fp) Wf ifs tt)
    (he : ∀ (s : Shared) (H : Hp) (C : Addr) (cl : List (Str × Addr)) (fp : List Addr), DE (X.blk s H scope (compEnvC scope cl C X.env) fp) Wf elt te)
    (hs : ∀ x, foldedSetIterable iter X.env x = pure x := by intro _; rfl) : DS X W (.Assign [.Name y py] (.ListComp elt [⟨tg, iter, ifs, 0⟩] scope pos) spos) (sSet i (eLend k (eLc (own.map (·.2)) it gd tt te))) := by
  obtain ⟨wi, pi, qi⟩ := hi
  exact ⟨_, ps_setLc (g := gOf X ws gd) (tt := bOf X Wf tt) (te := tOf X Wf te) hc hN hy hyl hsw pi ok (fun s H C cl fp => (hg s H C cl fp).tof) (fun s H C cl fp => (ht s H C cl fp).tof) (fun s H C cl fp => (he s H C cl fp).tof) hs, ss_set (se_lend (se_lc hw qi))⟩
end
end DL

set_option linter.all false
set_option autoImplicit false
namespace DL
/-! ### loops on data -/
theorem forL_inv {gd : D → Env → Option Env} {bf : SF} (P : Nat → Env → Prop) : ∀ (ds : List D) (i : Nat) (δ : Env), P i δ →
    (∀ (k : Nat) d δ, ds[k]? = some d → P (i + k) δ → ∃ δ1 δ2, gd d δ = some δ1 ∧ (bf δ1 = .nx δ2 ∨ bf δ1 = .ct δ2) ∧ P (i + k + 1) δ2) → ∃ δ', forL gd bf ds δ = .nx δ' ∧ P (i + ds.length) δ'
  | [], i, δ, h, _ => ⟨δ, rfl, h⟩
  | d :: ds, i, δ, h, hs => by
    obtain ⟨δ1, δ2, h1, h2, h3⟩ := hs 0 d δ (by simp) h
    obtain ⟨δ', h4, h5⟩ := forL_inv P ds (i + 1) δ2 h3 fun k d δ e p => by
      obtain ⟨a, b, c1, c2, c3⟩ := hs (k + 1) d δ (by simpa using e) (by rw [show i + (k + 1) = i + 1 + k by omega]; exact p)
      exact ⟨a, b, c1, c2, by rw [show i + 1 + k + 1 = i + (k + 1) + 1 by omega]; exact c3⟩
    refine ⟨δ', ?_, by rw [List.length_cons, show i + (ds.length + 1) = i + 1 + ds.length by omega]; exact h5⟩
    simp only [forL, h1]
    rcases h2 with h2 | h2 <;> rw [h2] <;> exact h4
theorem lcL_pure {own : List Nat} {gd : D → Env → Option Env} {tt : BF} {te : EF} {δ : Env} (f : D → Option D) : ∀ (ds acc : List D), acc.length + ds.length ≤ PySem.sizeLine →
    (∀ d ∈ ds, ∃ δ1, gd d δ = some δ1 ∧ ((∃ δ2 δ3 x, tt δ1 = .ok true δ2 ∧ eV te δ2 = .ok (.tmp x) δ3 ∧ wipeE own δ3 = some δ ∧ f d = some x) ∨ ∃ δ2, tt δ1 = .ok false δ2 ∧ wipeE own δ2 = some δ ∧ f d = none)) →
    lcL own gd tt te ds δ acc = .ok (acc ++ ds.filterMap f) δ
  | [], acc, _, _ => by simp [lcL]
  | d :: ds, acc, hl, h => by
    obtain ⟨δ1, h1, h2⟩ := h d List.mem_cons_self
    have ih := fun acc' hl' => lcL_pure f ds acc' hl' fun e he => h e (List.mem_cons_of_mem _ he)
    simp only [List.length_cons] at hl
    rcases h2 with ⟨δ2, δ3, x, a, b, c, e⟩ | ⟨δ2, a, c, e⟩
    · simp only [lcL, h1, a, b, c]
      rw [if_pos (by omega), ih (acc ++ [x]) (by simp; omega)]
      simp [List.filterMap_cons, e]
    · simp only [lcL, h1, a, c]
      rw [ih acc (by omega)]
      simp [List.filterMap_cons, e]
theorem lcL_map {own : List Nat} {gd : D → Env → Option Env} {te : EF} {δ : Env} (f : D → D) (ds : List D) (hl : ds.length ≤ PySem.sizeLine)
    (h : ∀ d ∈ ds, ∃ δ1 δ3, gd d δ = some δ1 ∧ eV te δ1 = .ok (.tmp (f d)) δ3 ∧ wipeE own δ3 = some δ) : lcL own gd bYes te ds δ [] = .ok (ds.map f) δ := by
  have := lcL_pure (own := own) (gd := gd) (tt := bYes) (te := te) (δ := δ) (fun d => some (f d)) ds [] (by simpa using hl) fun d hd => by
    obtain ⟨δ1, δ3, a, b, c⟩ := h d hd
    exact ⟨δ1, a, .inl ⟨δ1, δ3, f d, rfl, b, c, rfl⟩⟩
  simpa using this
theorem line24 : PySem.sizeLine = 16777216 := by rfl
theorem intsD_map (ns : List Int) : intsD (ns.map D.int) = some ns := by induction ns with
  | nil => rfl
  | cons n ns ih => simp [intsD, ih]
theorem blsD_map (ns : List Bool) : blsD (ns.map D.bl) = some ns := by induction ns with
  | nil => rfl
  | cons n ns ih => simp [blsD, ih]
theorem strsD_map (ns : List PySem.Str) : strsD (ns.map D.str) = some ns := by induction ns with
  | nil => rfl
  | cons n ns ih => simp [strsD, ih]
theorem ices_ints (ns : List Int) : ices (ns.map D.int) = true := by induction ns with
  | nil => rfl
  | cons n ns ih => simp [ices, ice, ih]
theorem ices_strs (ns : List PySem.Str) : ices (ns.map D.str) = true := by induction ns with
  | nil => rfl
  | cons n ns ih => simp [ices, ice, ih]
theorem ices_bls (ns : List Bool) : ices (ns.map D.bl) = true := by induction ns with
  | nil => rfl
  | cons n ns ih => simp [ices, ice, ih]
theorem ices_app (xs ys : List D) : ices (xs ++ ys) = (ices xs && ices ys) := by rw [ices_eq, ices_eq, ices_eq, List.all_append]
theorem fzs_app (xs ys : List D) : fzs (xs ++ ys) = fzs xs ++ fzs ys := by rw [fzs_eq, fzs_eq, fzs_eq, List.map_append]
theorem fzs_ints (ns : List Int) : fzs (ns.map D.int) = ns.map D.int := fzs_ice _ (ices_ints ns)
theorem fzs_strs (ns : List PySem.Str) : fzs (ns.map D.str) = ns.map D.str := fzs_ice _ (ices_strs ns)
theorem log2_small {n : Nat} {k : Nat} (h : n < 2 ^ k) (hk : 0 < k) : n.log2 < k := by
  by_cases z : n = 0
  · subst z; simpa using hk
  · exact (Nat.log2_lt z).mpr h
theorem str_app_len (x y : PySem.Str) : (x ++ y).length = x.length + y.length := Array.size_append
theorem fm_len {α β : Type} (p : α → Bool) (h : α → β) : ∀ L : List α, (L.filterMap fun c => if p c = true then some (h c) else none).length = (L.filter p).length
  | [] => rfl
  | c :: L => by by_cases q : p c = true <;> simp [List.filterMap_cons, q, fm_len p h L]
theorem fm_all {α β : Type} (p : α → Bool) (h : α → β) (L : List α) : decide ((L.filterMap fun c => if p c = true then some (h c) else none).length = L.length) = (L.map p).all id := by
  rw [fm_len, Bool.eq_iff_iff]
  simp [List.length_filter_eq_length_iff]
theorem int_len {i : Int} (h : i.natAbs.log2 < 1920) : (PySem.Str.ofString (toString i)).length ≤ 1921 := by
  rw [PyProof.Rows.ofString_len]
  exact PySem.int_text_length_le (by decide) h
theorem int_signs (i : Int) : ∀ c ∈ (PySem.Str.ofString (toString i)).cps.toList, c = 45 ∨ (48 ≤ c ∧ c ≤ 57) := by
  rw [PySem.Str.ofString_eq_toList]
  have nat : ∀ m : Nat, ∀ c ∈ (Nat.repr m).toList, 48 ≤ c.toNat ∧ c.toNat ≤ 57 := fun m c hc => by
    have e : (Nat.repr m).toList = Nat.toDigits 10 m := by simp [Nat.repr]
    rw [e] at hc
    have := Nat.isDigit_of_mem_toDigits (by decide) (by decide) hc
    simp only [Char.isDigit, Bool.and_eq_true, decide_eq_true_eq, UInt32.le_iff_toNat_le] at this
    exact this
  intro c hc
  simp only [List.mem_map] at hc
  obtain ⟨d, hd, rfl⟩ := hc
  cases i with
  | ofNat m => exact .inr (nat m d hd)
  | negSucc m =>
    have e : toString (Int.negSucc m) = "-" ++ Nat.repr (m + 1) := rfl
    rw [e, String.toList_append, List.mem_append] at hd
    rcases hd with hd | hd
    · left
      have : d = '-' := by simpa using hd
      rw [this]; rfl
    · exact .inr (nat _ d hd)
theorem int_ne (i : Int) : 0 < (PySem.Str.ofString (toString i)).length := by
  rw [PyProof.Rows.ofString_len]
  have nat : ∀ m : Nat, 0 < (Nat.repr m).length := fun m => by
    have e : (Nat.repr m).toList = Nat.toDigits 10 m := by simp [Nat.repr]
    rw [← String.length_toList, e]; exact Nat.length_toDigits_pos
  cases i with
  | ofNat m => exact nat m
  | negSucc m =>
    have e : toString (Int.negSucc m) = "-" ++ Nat.repr (m + 1) := rfl
    rw [e, String.length_append]; have := nat (m + 1); omega
theorem forL_each {gd : D → Env → Option Env} {bf : SF} (ev : D → Env) : ∀ (ds : List D) (d0 : D), (∀ d ∈ ds, ∀ e, gd d (ev e) = some (ev d)) → (∀ d ∈ ds, bf (ev d) = .nx (ev d)) → ∃ d', forL gd bf ds (ev d0) = .nx (ev d')
  | [], d0, _, _ => ⟨d0, rfl⟩
  | d :: ds, d0, h1, h2 => by
    obtain ⟨d', h⟩ := forL_each ev ds d (fun e he => h1 e (List.mem_cons_of_mem _ he)) (fun e he => h2 e (List.mem_cons_of_mem _ he))
    refine ⟨d', ?_⟩
    simp only [forL, h1 d List.mem_cons_self d0, h2 d List.mem_cons_self]
    exact h
theorem atI_some {α : Type} {xs : List α} {i : Int} (h0 : 0 ≤ i) (h1 : i < xs.length) : ∃ c, L2.atI xs i = some c := by
  refine ⟨xs[i.toNat]'(by omega), ?_⟩
  unfold L2.atI L2.ixN
  rw [if_pos h0, if_pos h1]
  simp
end DL

set_option linter.all false
set_option autoImplicit false
namespace DL
theorem lcL_inv {own : List Nat} {gd : D → Env → Option Env} {te : EF} (P : Nat → List D → Env → Prop) : ∀ (ds acc : List D) (i : Nat) (δ : Env), acc.length + ds.length ≤ PySem.sizeLine → P i acc δ →
    (∀ (k : Nat) d acc δ, ds[k]? = some d → P (i + k) acc δ → ∃ δ1 x δ3 δ4, gd d δ = some δ1 ∧ eV te δ1 = .ok (.tmp x) δ3 ∧ wipeE own δ3 = some δ4 ∧ P (i + k + 1) (acc ++ [x]) δ4) →
    ∃ xs δ', lcL own gd bYes te ds δ acc = .ok xs δ' ∧ P (i + ds.length) xs δ'
  | [], acc, i, δ, _, h, _ => ⟨acc, δ, rfl, h⟩
  | d :: ds, acc, i, δ, hl, h, hs => by
    simp only [List.length_cons] at hl
    obtain ⟨δ1, x, δ3, δ4, h1, h2, h3, h4⟩ := hs 0 d acc δ (by simp) h
    obtain ⟨xs, δ', h5, h6⟩ := lcL_inv P ds (acc ++ [x]) (i + 1) δ4 (by simp; omega) h4 fun k d acc δ e p => by
      have := hs (k + 1) d acc δ (by simpa using e) (by rw [show i + (k + 1) = i + 1 + k by omega]; exact p)
      rw [show i + (k + 1) + 1 = i + 1 + k + 1 by omega] at this
      exact this
    refine ⟨xs, δ', ?_, by rw [List.length_cons, show i + (ds.length + 1) = i + 1 + ds.length by omega]; exact h6⟩
    simp only [lcL, h1, bYes, h2, h3]
    rw [if_pos (by omega)]
    exact h5
theorem eV_tmp {f : EF} {x : D} {δ δ' : Env} (h : f δ = .ok (.tmp x) δ') : eV f δ = .ok (.tmp x) δ' := by simp only [eV, vlO, R.bind, h]
/-- rows of numbers -/
def rowD (b : Bool) (r : List Int) : D := .lst b (r.map .int)
def matD (b : Bool) (rows : List (List Int)) : D := .lst b (rows.map (rowD b))
theorem ice_row (r : List Int) : ice (rowD false r) = true := by simp [rowD, ice, ices_ints]
theorem ices_rows : ∀ rows : List (List Int), ices (rows.map (rowD false)) = true
  | [] => rfl
  | r :: rows => by simp [ices, ice_row, ices_rows rows]
theorem fz_row (b : Bool) (r : List Int) : fz (rowD b r) = rowD false r := by simp [rowD, fz, fzs_ints]
theorem fzs_rows (b : Bool) : ∀ rows : List (List Int), fzs (rows.map (rowD b)) = rows.map (rowD false)
  | [] => rfl
  | r :: rows => by simp [fzs, fz_row, fzs_rows b rows]
theorem ice_mat (rows : List (List Int)) : ice (matD false rows) = true := by simp [matD, ice, ices_rows]
theorem fz_mat (b : Bool) (rows : List (List Int)) : fz (matD b rows) = matD false rows := by simp [matD, fz, fzs_rows]
/-- walking lists: rows[i][j] -/
def cell (rows : List (List Int)) (i j : Int) : Int := ((L2.atI rows i).bind fun r => L2.atI r j).getD 0
def wk (rows : List (List Int)) : Int → List Int → Int
  | _, [] => 0
  | here, h :: t => cell rows here h + wk rows h t
def lastD (here : Int) : List Int → Int
  | [] => here
  | h :: t => lastD h t
theorem wk_app (rows : List (List Int)) : ∀ (a b : List Int) (here : Int), wk rows here (a ++ b) = wk rows here a + wk rows (lastD here a) b
  | [], b, here => by simp [wk, lastD]
  | h :: a, b, here => by simp [wk, lastD, wk_app rows a b h]; omega
theorem lastD_take : ∀ (hs : List Int) (i : Int) (k : Nat) (x : Int), hs[k]? = some x → lastD i (hs.take (k + 1)) = x
  | [], _, _, _, h => by simp at h
  | h :: hs, i, 0, x, e => by simp at e; simp [lastD, e]
  | h :: hs, i, k + 1, x, e => by rw [List.take_succ_cons]; exact lastD_take hs h k x (by simpa using e)
/-! ### == of lists of numbers -/
theorem gEq_of {x y : D} {p q : PySem.PyData} (hx : toPy x = some p) (hy : toPy y = some q) (sp : PySem.SeqAt.shaped p = true) (sq : PySem.SeqAt.shaped q = true) (hl : ∃ o xs, x = .lst o xs) : gEq x y = some (.bl (PySem.PyData.eqv p q)) := by
  obtain ⟨o, xs, rfl⟩ := hl
  unfold gEq
  split <;> first
    | (rename_i h; cases h; done)
    | (rename_i h _; cases h; done)
    | (simp only [hx, hy, sp, sq, and_self, if_true])
theorem toPys_ints : ∀ ns : List Int, toPys (ns.map D.int) = some (ns.map PySem.PyData.int)
  | [] => rfl
  | n :: ns => by simp [toPys, toPy, toPys_ints ns]
theorem lay_ints : ∀ ns : List Int, PySem.PyData.canLayAll0 (ns.map PySem.PyData.int) = true
  | [] => rfl
  | n :: ns => by simp [PySem.PyData.canLayAll0, PySem.PyData.canLay0, lay_ints ns]
theorem dep_ints : ∀ ns : List Int, PySem.PyData.depthAll (ns.map PySem.PyData.int) = 0
  | [] => rfl
  | n :: ns => by simp [PySem.PyData.depthAll, PySem.PyData.depth, dep_ints ns]
theorem eqvAll_ints : ∀ ns ms : List Int, PySem.PyData.eqvAll (ns.map PySem.PyData.int) (ms.map PySem.PyData.int) = decide (ns = ms)
  | [], [] => rfl
  | [], _ :: _ => rfl
  | _ :: _, [] => rfl
  | n :: ns, m :: ms => by
    have e : (n == m) = decide (n = m) := rfl
    simp only [List.map_cons, PySem.PyData.eqvAll, PySem.PyData.eqv, eqvAll_ints ns ms, e, List.cons.injEq]
    by_cases h1 : n = m <;> by_cases h2 : ns = ms <;> simp [h1, h2]
theorem sh_ints (ns : List Int) : PySem.SeqAt.shaped (.list (ns.map PySem.PyData.int)) = true := by
  simp [PySem.SeqAt.shaped, PySem.PyData.canLay0, PySem.PyData.depth, lay_ints, dep_ints]
theorem gEq_ints (o o' : Bool) (ns ms : List Int) : gEq (.lst o (ns.map .int)) (.lst o' (ms.map .int)) = some (.bl (decide (ns = ms))) := by
  rw [gEq_of (p := .list (ns.map .int)) (q := .list (ms.map .int)) (by simp [toPy, toPys_ints]) (by simp [toPy, toPys_ints]) (sh_ints ns) (sh_ints ms) ⟨_, _, rfl⟩]
  simp only [PySem.PyData.eqv, eqvAll_ints]
def rowP (r : List Int) : PySem.PyData := .list (r.map .int)
theorem toPy_row (b : Bool) (r : List Int) : toPy (rowD b r) = some (rowP r) := by simp [rowD, toPy, toPys_ints, rowP]
theorem toPys_rows (b : Bool) : ∀ rows : List (List Int), toPys (rows.map (rowD b)) = some (rows.map rowP)
  | [] => rfl
  | r :: rows => by simp [toPys, toPy_row, toPys_rows b rows]
theorem lay_rows : ∀ rows : List (List Int), PySem.PyData.canLayAll0 (rows.map rowP) = true
  | [] => rfl
  | n :: ns => by simp [PySem.PyData.canLayAll0, rowP, PySem.PyData.canLay0, lay_ints]; exact lay_rows ns
theorem dep_rows : ∀ rows : List (List Int), PySem.PyData.depthAll (rows.map rowP) ≤ 1
  | [] => by simp [PySem.PyData.depthAll]
  | n :: ns => by have := dep_rows ns; simp [PySem.PyData.depthAll, rowP, PySem.PyData.depth, dep_ints]; omega
theorem sh_rows (rows : List (List Int)) : PySem.SeqAt.shaped (.list (rows.map rowP)) = true := by
  have := dep_rows rows
  simp [PySem.SeqAt.shaped, PySem.PyData.canLay0, PySem.PyData.depth, lay_rows]; omega
theorem eqv_row (r s : List Int) : PySem.PyData.eqv (rowP r) (rowP s) = decide (r = s) := by simp only [rowP, PySem.PyData.eqv, eqvAll_ints]
theorem eqvAll_rows : ∀ ns ms : List (List Int), PySem.PyData.eqvAll (ns.map rowP) (ms.map rowP) = decide (ns = ms)
  | [], [] => rfl
  | [], _ :: _ => rfl
  | _ :: _, [] => rfl
  | n :: ns, m :: ms => by
    simp only [List.map_cons, PySem.PyData.eqvAll, eqv_row, eqvAll_rows ns ms, List.cons.injEq]
    by_cases h1 : n = m <;> by_cases h2 : ns = ms <;> simp [h1, h2]
theorem gEq_mat (b c : Bool) (rows rows' : List (List Int)) : gEq (matD b rows) (matD c rows') = some (.bl (decide (rows = rows'))) := by
  unfold matD
  rw [gEq_of (p := .list (rows.map rowP)) (q := .list (rows'.map rowP)) (by simp [toPy, toPys_rows]) (by simp [toPy, toPys_rows]) (sh_rows rows) (sh_rows rows') ⟨_, _, rfl⟩]
  simp only [PySem.PyData.eqv, eqvAll_rows]
theorem gEq_ii (i j : Int) : gEq (.int i) (.int j) = some (.bl (decide (i = j))) := rfl
theorem gEq_ss (i j : PySem.Str) : gEq (.str i) (.str j) = some (.bl (decide (i = j))) := rfl
theorem gEq_bb (i j : Bool) : gEq (.bl i) (.bl j) = some (.bl (decide (i = j))) := rfl
theorem gEq_nn : gEq .non .non = some (.bl true) := rfl
theorem gEq_in (i : Int) : gEq (.int i) .non = some (.bl false) := rfl
theorem gEq_ni (i : Int) : gEq .non (.int i) = some (.bl false) := rfl
theorem gEq_sn (i : PySem.Str) : gEq (.str i) .non = some (.bl false) := rfl
theorem gEq_ns (i : PySem.Str) : gEq .non (.str i) = some (.bl false) := rfl
/-! ### slices -/
theorem cutD_map {α : Type} (f : α → D) (xs : List α) (lo hi : Option Int) : ∃ ys : List α, cutD (xs.map f) lo hi = ys.map f ∧ ys = (xs.drop (HT.sIx xs.length 0 lo)).take (HT.sIx xs.length xs.length hi - HT.sIx xs.length 0 lo) :=
  ⟨_, by unfold cutD; simp [List.map_take, List.map_drop], rfl⟩
theorem cutD_to {α : Type} (f : α → D) (xs : List α) (k : Nat) : cutD (xs.map f) none (some (k : Int)) = (xs.take k).map f := by
  obtain ⟨ys, h, e⟩ := cutD_map f xs none (some (k : Int))
  rw [h, e, HT.sIx_nat, HT.sIx_none]
  simp only [List.drop_zero, Nat.sub_zero]
  congr 1
  rw [List.take_eq_take_iff]; omega
theorem cutD_from {α : Type} (f : α → D) (xs : List α) (k : Nat) : cutD (xs.map f) (some (k : Int)) none = (xs.drop k).map f := by
  obtain ⟨ys, h, e⟩ := cutD_map f xs (some (k : Int)) none
  rw [h, e, HT.sIx_nat, HT.sIx_none]
  congr 1
  by_cases hk : k ≤ xs.length
  · rw [Nat.min_eq_left hk]
    exact List.take_of_length_le (by simp)
  · rw [Nat.min_eq_right (by omega), List.drop_of_length_le (Nat.le_refl _), List.drop_of_length_le (by omega)]
    simp
/-! ### things that are alike -/
theorem gEq_same {x y : D} {p : PySem.PyData} (hx : toPy x = some p) (hy : toPy y = some p) (sp : PySem.SeqAt.shaped p = true) (hl : ∃ o xs, x = .lst o xs) : gEq x y = some (.bl true) := by
  rw [gEq_of hx hy sp sp hl, PySem.SeqAt.eqv_refl p (PySem.SeqAt.canLay_of_shaped sp)]
def SOk (x : PySem.Str) : Prop := PySem.PyData.strOk x = true
theorem toPys_strs : ∀ ns : List PySem.Str, toPys (ns.map D.str) = some (ns.map PySem.PyData.str)
  | [] => rfl
  | n :: ns => by simp [toPys, toPy, toPys_strs ns]
theorem lay_strs : ∀ ns : List PySem.Str, (∀ x ∈ ns, SOk x) → PySem.PyData.canLayAll0 (ns.map PySem.PyData.str) = true
  | [], _ => rfl
  | n :: ns, h => by
    have h1 : PySem.PyData.strOk n = true := h n List.mem_cons_self
    simp only [List.map_cons, PySem.PyData.canLayAll0, PySem.PyData.canLay0, h1, lay_strs ns fun x hx => h x (List.mem_cons_of_mem _ hx), Bool.and_true]
theorem dep_strs : ∀ ns : List PySem.Str, PySem.PyData.depthAll (ns.map PySem.PyData.str) = 0
  | [] => rfl
  | n :: ns => by simp [PySem.PyData.depthAll, PySem.PyData.depth, dep_strs ns]
theorem gEq_strs (o o' : Bool) (ns : List PySem.Str) (h : ∀ x ∈ ns, SOk x) : gEq (.lst o (ns.map .str)) (.lst o' (ns.map .str)) = some (.bl true) :=
  gEq_same (p := .list (ns.map .str)) (by simp [toPy, toPys_strs]) (by simp [toPy, toPys_strs]) (by simp [PySem.SeqAt.shaped, PySem.PyData.canLay0, PySem.PyData.depth, lay_strs ns h, dep_strs]) ⟨_, _, rfl⟩
/-- pairs of numbers -/
def pD (p : Nat × Nat) : D := .tup [.int p.1, .int p.2]
def pP (p : Nat × Nat) : PySem.PyData := .tuple [.int p.1, .int p.2]
theorem ices_pairs : ∀ ms : List (Nat × Nat), ices (ms.map pD) = true
  | [] => rfl
  | m :: ms => by simp [ices, ice, pD, ices_pairs ms]
theorem fzs_pairs (ms : List (Nat × Nat)) : fzs (ms.map pD) = ms.map pD := fzs_ice _ (ices_pairs ms)
theorem toPys_pairs : ∀ ms : List (Nat × Nat), toPys (ms.map pD) = some (ms.map pP)
  | [] => rfl
  | m :: ms => by simp [toPys, toPy, pD, pP, toPys_pairs ms]
theorem lay_pairs : ∀ ms : List (Nat × Nat), PySem.PyData.canLayAll0 (ms.map pP) = true
  | [] => rfl
  | m :: ms => by simp [PySem.PyData.canLayAll0, PySem.PyData.canLay0, pP]; exact lay_pairs ms
theorem dep_pairs : ∀ ms : List (Nat × Nat), PySem.PyData.depthAll (ms.map pP) ≤ 1
  | [] => by simp [PySem.PyData.depthAll]
  | m :: ms => by have := dep_pairs ms; simp [PySem.PyData.depthAll, PySem.PyData.depth, pP]; omega
theorem gEq_pairs (o o' : Bool) (ms : List (Nat × Nat)) : gEq (.lst o (ms.map pD)) (.lst o' (ms.map pD)) = some (.bl true) :=
  gEq_same (p := .list (ms.map pP)) (by simp [toPy, toPys_pairs]) (by simp [toPy, toPys_pairs]) (by have := dep_pairs ms; simp [PySem.SeqAt.shaped, PySem.PyData.canLay0, PySem.PyData.depth, lay_pairs]; omega) ⟨_, _, rfl⟩
theorem ixN_nat {n k : Nat} (h : k < n) : L2.ixN n (k : Int) = some k := by unfold L2.ixN; rw [if_pos (by omega), if_pos (by omega)]; simp
end DL

set_option linter.all false
set_option autoImplicit false
namespace DL
/-! ### least sums of ways -/
section
variable {α : Type}
def gx (d : α) (S : List (List α)) (i j : Nat) : α := ((S[i]?.getD [])[j]?).getD d
def sx (S : List (List α)) (i j : Nat) (v : α) : List (List α) := S.set i ((S[i]?.getD []).set j v)
def Dim (m : Nat) (S : List (List α)) : Prop := S.length = m + 1 ∧ ∀ r ∈ S, r.length = m
theorem Dim.row {m : Nat} {S : List (List α)} (h : Dim m S) {i : Nat} (hi : i ≤ m) : ∃ r, S[i]? = some r ∧ r.length = m :=
  ⟨S[i]'(by rw [h.1]; omega), List.getElem?_eq_getElem _, h.2 _ (List.getElem_mem _)⟩
theorem Dim.get {m : Nat} {S : List (List α)} (h : Dim m S) (d : α) {i j : Nat} (hi : i ≤ m) (hj : j < m) : ∃ r, S[i]? = some r ∧ r.length = m ∧ r[j]? = some (gx d S i j) := by
  obtain ⟨r, h1, h2⟩ := h.row hi
  refine ⟨r, h1, h2, ?_⟩
  unfold gx
  rw [h1, Option.getD_some, List.getElem?_eq_getElem (by omega), Option.getD_some]
theorem Dim.set {m : Nat} {S : List (List α)} (h : Dim m S) (i j : Nat) (v : α) (hi : i ≤ m) : Dim m (sx S i j v) := by
  obtain ⟨r, h1, h2⟩ := h.row hi
  unfold sx
  rw [h1, Option.getD_some]
  refine ⟨by rw [List.length_set]; exact h.1, fun x hx => ?_⟩
  rcases List.mem_or_eq_of_mem_set hx with hx | hx
  · exact h.2 x hx
  · rw [hx, List.length_set]; exact h2
theorem gx_same {m : Nat} {S : List (List α)} (h : Dim m S) (d : α) {i j : Nat} (v : α) (hi : i ≤ m) (hj : j < m) : gx d (sx S i j v) i j = v := by
  obtain ⟨r, h1, h2⟩ := h.row hi
  unfold gx sx
  rw [h1, Option.getD_some, List.getElem?_set_self (by rw [h.1]; omega), Option.getD_some, List.getElem?_set_self (by omega), Option.getD_some]
theorem gx_ne {m : Nat} {S : List (List α)} (h : Dim m S) (d : α) {i j a b : Nat} (v : α) (hi : i ≤ m) (n : ¬ (a = i ∧ b = j)) : gx d (sx S i j v) a b = gx d S a b := by
  obtain ⟨r, h1, h2⟩ := h.row hi
  unfold gx sx
  rw [h1, Option.getD_some]
  by_cases e : a = i
  · subst e
    rw [List.getElem?_set_self (by rw [h.1]; omega), Option.getD_some, h1, Option.getD_some, List.getElem?_set_ne (fun z => n ⟨rfl, z.symm⟩)]
  · rw [List.getElem?_set_ne (fun z => e z.symm)]
end
def Nng (m : Nat) (rows : List (List Int)) : Prop := Dim m rows ∧ ∀ r ∈ rows, ∀ x ∈ r, 0 ≤ x
theorem cell_nat {m : Nat} {rows : List (List Int)} (h : Dim m rows) {i j : Nat} (hi : i ≤ m) (hj : j < m) : cell rows i j = gx 0 rows i j := by
  obtain ⟨r, h1, h2, h3⟩ := h.get 0 hi hj
  unfold cell L2.atI
  rw [ixN_nat (by rw [h.1]; omega)]
  simp only [Option.bind_some, h1]
  rw [ixN_nat (by omega)]
  simp only [Option.bind_some, h3, Option.getD_some]
theorem Nng.cell {m : Nat} {rows : List (List Int)} (h : Nng m rows) {i j : Int} (hi : 0 ≤ i) (hi2 : i ≤ m) (hj : 0 ≤ j) (hj2 : j < m) : 0 ≤ cell rows i j := by
  obtain ⟨a, rfl⟩ : ∃ a : Nat, i = a := ⟨i.toNat, by omega⟩
  obtain ⟨b, rfl⟩ : ∃ b : Nat, j = b := ⟨j.toNat, by omega⟩
  obtain ⟨r, h1, h2, h3⟩ := h.1.get 0 (i := a) (j := b) (by omega) (by omega)
  rw [cell_nat h.1 (by omega) (by omega)]
  exact h.2 r (List.mem_of_getElem? h1) _ (List.mem_of_getElem? h3)
/-- all in 0 .. t-1 -/
def In (t : Nat) (q : List Int) : Prop := ∀ h ∈ q, 0 ≤ h ∧ h < t
theorem In.mono {t u : Nat} {q : List Int} (h : In t q) (k : t ≤ u) : In u q := fun x hx => ⟨(h x hx).1, by have := (h x hx).2; omega⟩
theorem In.app {t : Nat} {p q : List Int} (h : In t p) (k : In t q) : In t (p ++ q) := fun x hx => (List.mem_append.mp hx).elim (h x) (k x)
theorem In.left {t : Nat} {p q : List Int} (h : In t (p ++ q)) : In t p := fun x hx => h x (List.mem_append_left _ hx)
theorem In.right {t : Nat} {p q : List Int} (h : In t (p ++ q)) : In t q := fun x hx => h x (List.mem_append_right _ hx)
theorem In.one {t : Nat} {x : Int} (h : 0 ≤ x) (k : x < t) : In t [x] := fun y hy => by rw [List.mem_singleton.mp hy]; exact ⟨h, k⟩
theorem lastD_snoc : ∀ (q : List Int) (here x : Int), lastD here (q ++ [x]) = x
  | [], _, _ => rfl
  | h :: q, _, x => by show lastD h (q ++ [x]) = x; exact lastD_snoc q h x
theorem wk_nn {m : Nat} {rows : List (List Int)} (g : Nng m rows) : ∀ (q : List Int) (here : Int), 0 ≤ here → here ≤ m → In m q → 0 ≤ wk rows here q
  | [], _, _, _, _ => by simp [wk]
  | h :: q, here, h0, h1, hq => by
    have hh := hq h List.mem_cons_self
    have := g.cell h0 h1 hh.1 hh.2
    have := wk_nn g q h hh.1 (by omega) fun x hx => hq x (List.mem_cons_of_mem _ hx)
    simp only [wk]; omega
theorem split_first {t : Int} : ∀ {q : List Int}, t ∈ q → ∃ a b, q = a ++ t :: b ∧ t ∉ a
  | x :: q, h => by
    by_cases e : x = t
    · exact ⟨[], q, by rw [e]; rfl, by simp⟩
    · have h' : t ∈ q := by
        rcases List.mem_cons.mp h with h | h
        · exact absurd h.symm e
        · exact h
      obtain ⟨a, b, h1, h2⟩ := split_first h'
      exact ⟨x :: a, b, by rw [h1]; rfl, by simp; exact ⟨fun z => e z.symm, h2⟩⟩
theorem In.less {t : Nat} {q : List Int} (h : In (t + 1) q) (n : (t : Int) ∉ q) : In t q := fun x hx => by
  have := h x hx
  refine ⟨this.1, ?_⟩
  have : x ≠ t := fun z => n (z ▸ hx)
  omega
/-- rounds through t are left out -/
theorem cut_t {m t : Nat} {rows : List (List Int)} (g : Nng m rows) (ht : t < m) (j : Int) (hj0 : 0 ≤ j) (hj1 : j < m) : ∀ (n : Nat) (r : List Int), r.length ≤ n → In (t + 1) r → ∃ r', In t r' ∧ wk rows t (r' ++ [j]) ≤ wk rows t (r ++ [j])
  | 0, r, hn, hr => ⟨[], fun x hx => (by simp at hx), by
    have : r = [] := List.length_eq_zero_iff.mp (by omega)
    subst this; exact Int.le_refl _⟩
  | n + 1, r, hn, hr => by
    by_cases hm : (t : Int) ∈ r
    · obtain ⟨a, b, e, ha⟩ := split_first hm
      subst e
      have hb : In (t + 1) b := fun x hx => hr x (List.mem_append_right _ (List.mem_cons_of_mem _ hx))
      obtain ⟨r', h1, h2⟩ := cut_t g ht j hj0 hj1 n b (by simp at hn; omega) hb
      refine ⟨r', h1, Int.le_trans h2 ?_⟩
      have e1 : (a ++ (t : Int) :: b) ++ [j] = (a ++ [(t : Int)]) ++ (b ++ [j]) := by simp
      rw [e1, wk_app rows (a ++ [(t : Int)]) (b ++ [j]), lastD_snoc]
      have : 0 ≤ wk rows t (a ++ [(t : Int)]) := wk_nn g _ _ (by omega) (by omega) (((hr.left).mono (by omega)).app (In.one (by omega) (by omega)))
      omega
    · exact ⟨r, hr.less hm, Int.le_refl _⟩
def Low (m : Nat) (rows S : List (List Int)) (t : Nat) : Prop := ∀ i j : Nat, i ≤ m → j < m → ∀ q, In t q → gx 0 S i j ≤ wk rows i (q ++ [(j : Int)])
theorem low_step {m t : Nat} {rows S0 S1 : List (List Int)} (g : Nng m rows) (ht : t < m) (L : Low m rows S0 t) (h1 : ∀ i j, i ≤ m → j < m → gx 0 S1 i j ≤ gx 0 S0 i j) (h2 : ∀ i j, i ≤ m → j < m → gx 0 S1 i j ≤ gx 0 S0 i t + gx 0 S0 t j) : Low m rows S1 (t + 1) := by
  intro i j hi hj q hq
  by_cases hm : (t : Int) ∈ q
  · obtain ⟨a, b, e, ha⟩ := split_first hm
    subst e
    have hb : In (t + 1) b := fun x hx => hq x (List.mem_append_right _ (List.mem_cons_of_mem _ hx))
    have hae : In t a := (hq.left).less ha
    obtain ⟨r', k1, k2⟩ := cut_t g ht j (by omega) (by omega) b.length b (Nat.le_refl _) hb
    have e1 : (a ++ (t : Int) :: b) ++ [(j : Int)] = (a ++ [(t : Int)]) ++ (b ++ [(j : Int)]) := by simp
    rw [e1, wk_app rows (a ++ [(t : Int)]) (b ++ [(j : Int)]), lastD_snoc]
    have l1 := L i t hi ht a hae
    have l2 := L t j (by omega) hj r' k1
    have l3 := h2 i j hi hj
    omega
  · exact Int.le_trans (h1 i j hi hj) (L i j hi hj q (hq.less hm))
/-- each sum is that of a way -/
def Att (m : Nat) (rows S : List (List Int)) (W : List (List (List Int))) : Prop := ∀ i j : Nat, i ≤ m → j < m → ∃ q, gx [] W i j = q ++ [(j : Int)] ∧ In m q ∧ wk rows i (gx [] W i j) = gx 0 S i j
structure FW (m : Nat) (rows S : List (List Int)) (W : List (List (List Int))) : Prop where
  ds : Dim m S
  dw : Dim m W
  att : Att m rows S W
theorem FW.step {m t f l : Nat} {rows S : List (List Int)} {W : List (List (List Int))} (h : FW m rows S W) (ht : t < m) (hf : f ≤ m) (hl : l < m) : FW m rows (sx S f l (gx 0 S f t + gx 0 S t l)) (sx W f l (gx [] W f t ++ gx [] W t l)) := by
  refine ⟨h.ds.set _ _ _ hf, h.dw.set _ _ _ hf, fun i j hi hj => ?_⟩
  by_cases e : i = f ∧ j = l
  · obtain ⟨rfl, rfl⟩ := e
    rw [gx_same h.ds _ _ hf hl, gx_same h.dw _ _ hf hl]
    obtain ⟨q1, e1, i1, w1⟩ := h.att i t hf ht
    obtain ⟨q2, e2, i2, w2⟩ := h.att t j (by omega) hl
    refine ⟨q1 ++ [(t : Int)] ++ q2, by rw [e1, e2]; simp, (i1.app (In.one (by omega) (by omega))).app i2, ?_⟩
    rw [wk_app, w1, e1, lastD_snoc, w2]
  · rw [gx_ne h.ds _ _ hf e, gx_ne h.dw _ _ hf e]
    exact h.att i j hi hj
structure Least (m : Nat) (rows S : List (List Int)) (W : List (List (List Int))) : Prop where
  fw : FW m rows S W
  low : Low m rows S m
/-- what is least is least in one way -/
theorem Least.le {m : Nat} {rows S : List (List Int)} {W : List (List (List Int))} (h : Least m rows S W) {i j : Nat} (hi : i ≤ m) (hj : j < m) {q : List Int} (hq : In m q) : gx 0 S i j ≤ wk rows i (q ++ [(j : Int)]) := h.low i j hi hj q hq
theorem ext2 {m : Nat} {S T : List (List Int)} (hS : Dim m S) (hT : Dim m T) (h : ∀ i j, i ≤ m → j < m → gx 0 S i j = gx 0 T i j) : S = T := by
  refine List.ext_getElem? fun i => ?_
  by_cases hi : i ≤ m
  · obtain ⟨r, h1, h2⟩ := hS.row hi
    obtain ⟨s, h3, h4⟩ := hT.row hi
    rw [h1, h3]
    congr 1
    refine List.ext_getElem? fun j => ?_
    by_cases hj : j < m
    · have := h i j hi hj
      unfold gx at this
      rw [h1, h3, Option.getD_some, Option.getD_some, List.getElem?_eq_getElem (by omega), List.getElem?_eq_getElem (by omega)] at this
      rw [List.getElem?_eq_getElem (by omega), List.getElem?_eq_getElem (by omega)]
      simpa using this
    · rw [List.getElem?_eq_none (by omega), List.getElem?_eq_none (by omega)]
  · rw [List.getElem?_eq_none (by rw [hS.1]; omega), List.getElem?_eq_none (by rw [hT.1]; omega)]
theorem Least.uniq {m : Nat} {rows S S' : List (List Int)} {W W' : List (List (List Int))} (h : Least m rows S W) (h' : Least m rows S' W') : S = S' := by
  refine ext2 h.fw.ds h'.fw.ds fun i j hi hj => ?_
  obtain ⟨q, e, iq, w⟩ := h.fw.att i j hi hj
  obtain ⟨q', e', iq', w'⟩ := h'.fw.att i j hi hj
  have a := h.le hi hj iq'
  have b := h'.le hi hj iq
  rw [← e'] at a; rw [← e] at b
  omega
theorem FW.nn {m : Nat} {rows S : List (List Int)} {W : List (List (List Int))} (h : FW m rows S W) (g : Nng m rows) {i j : Nat} (hi : i ≤ m) (hj : j < m) : 0 ≤ gx 0 S i j := by
  obtain ⟨q, e, iq, w⟩ := h.att i j hi hj
  rw [← w, e]
  exact wk_nn g _ _ (by omega) (by omega) (iq.app (In.one (by omega) (by omega)))
structure FI (m : Nat) (rows : List (List Int)) (t : Nat) (S0 : List (List Int)) (W0 : List (List (List Int))) (S : List (List Int)) (W : List (List (List Int))) : Prop where
  fw : FW m rows S W
  le : ∀ i j, i ≤ m → j < m → gx 0 S i j ≤ gx 0 S0 i j
  len : ∀ i j, (gx [] W i j).length ≤ 2 * 2 ^ t
  l0 : ∀ i j, (gx [] W0 i j).length ≤ 2 ^ t
  c1 : ∀ i, i ≤ m → gx [] W i t = gx [] W0 i t
  c2 : ∀ j, j < m → gx [] W t j = gx [] W0 t j
/-- one place of the sums -/
def nS (S : List (List Int)) (t f l : Nat) : List (List Int) := if gx 0 S f t + gx 0 S t l < gx 0 S f l then sx S f l (gx 0 S f t + gx 0 S t l) else S
def nW (S : List (List Int)) (W : List (List (List Int))) (t f l : Nat) : List (List (List Int)) := if gx 0 S f t + gx 0 S t l < gx 0 S f l then sx W f l (gx [] W f t ++ gx [] W t l) else W
theorem FI.step {m t f l : Nat} {rows S0 S : List (List Int)} {W0 W : List (List (List Int))} (g : Nng m rows) (h : FI m rows t S0 W0 S W) (ht : t < m) (hf : f ≤ m) (hl : l < m) :
    FI m rows t S0 W0 (nS S t f l) (nW S W t f l) ∧ gx 0 (nS S t f l) f l ≤ gx 0 S0 f t + gx 0 S0 t l ∧ ∀ i j, i ≤ m → j < m → gx 0 (nS S t f l) i j ≤ gx 0 S i j := by
  have hft := h.le f t hf ht
  have htl := h.le t l (by omega) hl
  unfold nS nW
  by_cases hc : gx 0 S f t + gx 0 S t l < gx 0 S f l
  · rw [if_pos hc, if_pos hc]
    have htt := h.fw.nn g (i := t) (j := t) (by omega) ht
    have hlt : l ≠ t := fun z => by subst z; omega
    have hftn : f ≠ t := fun z => by subst z; omega
    have hle : ∀ i j, i ≤ m → j < m → gx 0 (sx S f l (gx 0 S f t + gx 0 S t l)) i j ≤ gx 0 S i j := fun i j hi hj => by
      by_cases e : i = f ∧ j = l
      · obtain ⟨rfl, rfl⟩ := e
        rw [gx_same h.fw.ds _ _ hf hl]; omega
      · rw [gx_ne h.fw.ds _ _ hf e]; exact Int.le_refl _
    refine ⟨⟨h.fw.step ht hf hl, fun i j hi hj => Int.le_trans (hle i j hi hj) (h.le i j hi hj), fun i j => ?_, h.l0, fun i hi => ?_, fun j hj => ?_⟩, ?_, hle⟩
    · by_cases e : i = f ∧ j = l
      · obtain ⟨rfl, rfl⟩ := e
        rw [gx_same h.fw.dw _ _ hf hl, List.length_append, h.c1 i hf, h.c2 j hl]
        have := h.l0 i t
        have := h.l0 t j
        omega
      · rw [gx_ne h.fw.dw _ _ hf e]; exact h.len i j
    · rw [gx_ne h.fw.dw _ _ hf fun z => hlt z.2.symm]; exact h.c1 i hi
    · rw [gx_ne h.fw.dw _ _ hf fun z => hftn z.1.symm]; exact h.c2 j hj
    · rw [gx_same h.fw.ds _ _ hf hl]; omega
  · rw [if_neg hc, if_neg hc]
    exact ⟨h, by omega, fun i j _ _ => Int.le_refl _⟩
theorem Least.tri {m : Nat} {rows S : List (List Int)} {W : List (List (List Int))} (h : Least m rows S W) {i a j : Nat} (hi : i ≤ m) (ha : a < m) (hj : j < m) : gx 0 S i j ≤ gx 0 S i a + gx 0 S a j := by
  obtain ⟨q1, e1, i1, w1⟩ := h.fw.att i a hi ha
  obtain ⟨q2, e2, i2, w2⟩ := h.fw.att a j (by omega) hj
  have := h.le hi hj ((i1.app (In.one (x := a) (by omega) (by omega))).app i2)
  rw [show (q1 ++ [(a : Int)] ++ q2) ++ [(j : Int)] = (q1 ++ [(a : Int)]) ++ (q2 ++ [(j : Int)]) by simp, wk_app, lastD_snoc, ← e1, ← e2, w1, w2] at this
  exact this
theorem Least.one {m : Nat} {rows S : List (List Int)} {W : List (List (List Int))} (h : Least m rows S W) (g : Dim m rows) {i j : Nat} (hi : i ≤ m) (hj : j < m) : gx 0 S i j ≤ gx 0 rows i j := by
  have := h.le hi hj (q := []) (fun x hx => by simp at hx)
  simp only [List.nil_append, wk, Int.add_zero, cell_nat g hi hj] at this
  exact this
/-- ways of least sums -/
theorem tri_wk {m : Nat} {S : List (List Int)} (d : Dim m S) (t : ∀ i a j, i ≤ m → a < m → j < m → gx 0 S i j ≤ gx 0 S i a + gx 0 S a j) : ∀ (q : List Int) (i j : Nat), i ≤ m → j < m → In m q → gx 0 S i j ≤ wk S i (q ++ [(j : Int)])
  | [], i, j, hi, hj, _ => by simp only [List.nil_append, wk, Int.add_zero, cell_nat d hi hj]; exact Int.le_refl _
  | h :: q, i, j, hi, hj, hq => by
    have hh := hq h List.mem_cons_self
    obtain ⟨a, rfl⟩ : ∃ a : Nat, h = a := ⟨h.toNat, by omega⟩
    have ih := tri_wk d t q a j (by omega) hj fun x hx => hq x (List.mem_cons_of_mem _ hx)
    have := t i a j hi (by omega) hj
    simp only [List.cons_append, wk, cell_nat d hi (show a < m by omega)]
    omega
theorem Least.again {m : Nat} {rows S S2 : List (List Int)} {W W2 : List (List (List Int))} (h : Least m rows S W) (h2 : Least m S S2 W2) : S2 = S := by
  refine ext2 h2.fw.ds h.fw.ds fun i j hi hj => ?_
  have a := h2.one h.fw.ds hi hj
  obtain ⟨q, e, iq, w⟩ := h2.fw.att i j hi hj
  have b := tri_wk h.fw.ds (fun i a j hi ha hj => h.tri hi ha hj) q i j hi hj iq
  rw [← e, w] at b
  omega
theorem cell_neg {m : Nat} {rows : List (List Int)} (g : Dim m rows) (x : Int) : cell rows (-1) x = cell rows m x := by
  unfold cell L2.atI
  have : L2.ixN rows.length (-1) = L2.ixN rows.length m := by
    rw [g.1]; unfold L2.ixN; rw [if_neg (by omega), if_pos (by omega), if_pos (by omega), if_pos (by omega)]; congr 1; omega
  rw [this]
theorem wk_neg {m : Nat} {rows : List (List Int)} (g : Dim m rows) : ∀ q : List Int, wk rows (-1) q = wk rows m q
  | [] => rfl
  | x :: q => by simp only [wk, cell_neg g]
/-- no way is less -/
theorem Least.wk {m : Nat} {rows S : List (List Int)} {W : List (List (List Int))} (h : Least m rows S W) (g : Dim m rows) {i : Int} (h1 : -1 ≤ i) (h2 : i ≤ m) {q : List Int} {x : Int} (hq : In m q) (hx : 0 ≤ x) (hx2 : x < m) : cell S i x ≤ DL.wk rows i (q ++ [x]) := by
  obtain ⟨j, rfl⟩ : ∃ j : Nat, x = j := ⟨x.toNat, by omega⟩
  by_cases e : i = -1
  · subst e
    rw [cell_neg h.fw.ds, wk_neg g, cell_nat h.fw.ds (Nat.le_refl _) (by omega)]
    exact h.le (Nat.le_refl _) (by omega) hq
  · obtain ⟨a, rfl⟩ : ∃ a : Nat, i = a := ⟨i.toNat, by omega⟩
    rw [cell_nat h.fw.ds (by omega) (by omega)]
    exact h.le (by omega) (by omega) hq
theorem take_snoc {hs : List Int} {k : Nat} (hk : k < hs.length) : hs.take (k + 1) = hs.take k ++ [hs[k]] := by
  rw [List.take_succ, List.getElem?_eq_getElem hk]; rfl
theorem snoc_of {l : List Int} {x : Int} (h : l[l.length - 1]? = some x) (hl : 0 < l.length) : l = l.dropLast ++ [x] := by
  have e := List.dropLast_concat_getLast (l := l) (fun z => by subst z; simp at hl)
  rw [List.getLast_eq_getElem] at e
  rw [List.getElem?_eq_getElem (by omega)] at h
  cases h
  exact e.symm
abbrev SW := List (List Int) × List (List (List Int))
def st1 (t f : Nat) (p : SW) (l : Nat) : SW := (nS p.1 t f l, nW p.1 p.2 t f l)
def it1 (m t : Nat) (p : SW) (f : Nat) : SW := (List.range m).foldl (st1 t f) p
def it2 (m : Nat) (p : SW) (t : Nat) : SW := (List.range (m + 1)).foldl (it1 m t) p
def it3 (m : Nat) (p : SW) : SW := (List.range m).foldl (it2 m) p
theorem foldl_range {β : Type} (f : β → Nat → β) (b : β) (k : Nat) : (List.range (k + 1)).foldl f b = f ((List.range k).foldl f b) k := by
  rw [List.range_succ, List.foldl_append]; rfl
end DL

set_option linter.all false
set_option autoImplicit false
namespace DL
/-! ### names -/
abbrev az : PySem.Str := "abcdefghijklmnopqrstuvwxyz"
def lets (x : PySem.Str) : List Bool := x.cps.toList.map fun c => occS ⟨#[c]⟩ az
def nameB (x : PySem.Str) : Bool := decide ((1 : Int) ≤ x.length) && decide ((x.length : Int) ≤ 8) && (lets x).all id
theorem az_occ : ∀ c ∈ az.cps.toList, occS ⟨#[c]⟩ az = true := by
  have h : (az.cps.toList.all fun c => occS ⟨#[c]⟩ az) = true := by decide +kernel
  exact fun c hc => List.all_eq_true.mp h c hc
def LetW (x : PySem.Str) : Prop := ∀ c ∈ x.cps.toList, c ∈ az.cps.toList
def NameP (x : PySem.Str) : Prop := LetW x ∧ 1 ≤ x.length ∧ x.length ≤ 8
theorem NameP.b {x : PySem.Str} (h : NameP x) : nameB x = true := by
  unfold nameB lets
  rw [Bool.and_eq_true, Bool.and_eq_true, decide_eq_true_eq, decide_eq_true_eq, List.all_eq_true]
  refine ⟨⟨by have := h.2.1; omega, by have := h.2.2; omega⟩, fun b hb => ?_⟩
  obtain ⟨c, hc, rfl⟩ := List.mem_map.mp hb
  exact az_occ c (h.1 c hc)
theorem az_ok : ∀ c ∈ az.cps.toList, c < 0x110000 := by
  have h : (az.cps.toList.all fun c => decide (c < 0x110000)) = true := by decide +kernel
  exact fun c hc => of_decide_eq_true (List.all_eq_true.mp h c hc)
theorem LetW.sok {x : PySem.Str} (h : LetW x) : SOk x := by
  unfold SOk PySem.PyData.strOk
  rw [← Array.all_toList]
  exact List.all_eq_true.mpr fun c hc => decide_eq_true (az_ok c (h c hc))
theorem LetW.app {x y : PySem.Str} (h : LetW x) (k : LetW y) : LetW (x ++ y) := fun c hc => by
  have e : (x ++ y).cps.toList = x.cps.toList ++ y.cps.toList := Array.toList_append
  rw [e] at hc
  exact (List.mem_append.mp hc).elim (h c) (k c)
theorem LetW.one {c : Nat} (h : c ∈ az.cps.toList) : LetW ⟨#[c]⟩ := fun d hd => by
  have : d = c := by simpa using hd
  rw [this]; exact h
theorem LetW.nil : LetW "" := fun c hc => by
  have : ("" : PySem.Str).cps.toList = [] := rfl
  rw [this] at hc; simp at hc
theorem cutS_sub (z : PySem.Str) (lo hi : Option Int) : ∀ c ∈ (L2.cutS z lo hi).cps.toList, c ∈ z.cps.toList := fun c hc => by
  unfold L2.cutS at hc
  simp only at hc
  exact List.mem_of_mem_drop (List.mem_of_mem_take hc)
theorem cutS_len (z : PySem.Str) (lo hi : Option Int) : (L2.cutS z lo hi).length ≤ z.length := by
  unfold L2.cutS
  simp [PySem.Str.length]
  omega
theorem cutS_to (z : PySem.Str) (k : Nat) : (L2.cutS z none (some (k : Int))).length = min k z.length := by
  unfold L2.cutS
  simp only [PySem.Str.length, HT.sIx_none, HT.sIx_nat, List.drop_zero, Nat.sub_zero, List.size_toArray, List.length_take, Array.length_toList]
  omega
theorem len_of_sub {α : Type} [DecidableEq α] : ∀ {l m : List α}, l.Nodup → (∀ x ∈ l, x ∈ m) → l.length ≤ m.length
  | [], _, _, _ => Nat.zero_le _
  | a :: l, m, hn, hs => by
    have ha := hs a List.mem_cons_self
    have hn' := List.nodup_cons.mp hn
    have : l.length ≤ (m.erase a).length := len_of_sub hn'.2 fun x hx => by
      have hne : x ≠ a := fun z => hn'.1 (z ▸ hx)
      exact (List.mem_erase_of_ne hne).mpr (hs x (List.mem_cons_of_mem _ hx))
    rw [List.length_erase_of_mem ha] at this
    have : 0 < m.length := List.length_pos_of_mem ha
    simp only [List.length_cons]
    omega
theorem any_mem (x : PySem.Str) : ∀ ns : List PySem.Str, ((ns.map D.str).any fun e => eqD e (.str x)) = decide (x ∈ ns)
  | [] => rfl
  | n :: ns => by
    have e : eqD (.str n) (.str x) = decide (n = x) := rfl
    simp only [List.map_cons, List.any_cons, any_mem x ns, e, List.mem_cons]
    by_cases h1 : n = x
    · subst h1; simp
    · have h2 : ¬ x = n := fun z => h1 z.symm
      simp [h1, h2]
theorem flat_strs : ∀ ns : List PySem.Str, ((ns.map D.str).all flatD) = true
  | [] => rfl
  | n :: ns => by simp [flatD, flat_strs ns]
theorem gInX_strs (o : Bool) (x : PySem.Str) (ns : List PySem.Str) : gInX (.str x) (.lst o (ns.map .str)) = some (.bl (decide (x ∈ ns))) := by
  have h : gInX (.str x) (.lst o (ns.map .str)) = gIn (.str x) (.lst o (ns.map .str)) := rfl
  rw [h]
  show (if flatD (.str x) = true ∧ (ns.map D.str).all flatD = true then some (D.bl ((ns.map D.str).any fun e => eqD e (.str x))) else none) = _
  rw [if_pos ⟨rfl, flat_strs ns⟩, any_mem]
theorem gEq_strs_nil (o o' : Bool) (ns : List PySem.Str) (h : ∀ x ∈ ns, SOk x) : gEq (.lst o (ns.map .str)) (.lst o' []) = some (.bl (decide (ns = []))) := by
  rw [gEq_of (p := .list (ns.map .str)) (q := .list []) (by simp [toPy, toPys_strs]) rfl (by simp [PySem.SeqAt.shaped, PySem.PyData.canLay0, PySem.PyData.depth, lay_strs ns h, dep_strs]) rfl ⟨_, _, rfl⟩]
  cases ns <;> simp [PySem.PyData.eqv, PySem.PyData.eqvAll]
/-- in a dict of texts -/
theorem ixK_some (x : PySem.Str) : ∀ ns : List PySem.Str, (ixK (ns.map KD.s) (.s x)).isSome = decide (x ∈ ns)
  | [] => rfl
  | n :: ns => by
    have ih := ixK_some x ns
    unfold ixK at ih ⊢
    rw [List.map_cons, List.findIdx?_cons]
    by_cases h : n = x
    · subst h; simp
    · have h' : ¬ (KD.s n = KD.s x) := fun z => h (by cases z; rfl)
      have h2 : ¬ x = n := fun z => h z.symm
      simp only [h', decide_false, Bool.false_eq_true, if_false, Option.isSome_map, ih, List.mem_cons, h2, false_or]
theorem all_sc : ∀ ns : List PySem.Str, ((ns.map KD.s).all isSc) = true
  | [] => rfl
  | n :: ns => by simp [isSc, all_sc ns]
theorem gInX_dic (o : Bool) (x : PySem.Str) (ns : List PySem.Str) (xs : List D) : gInX (.str x) (.dic o (ns.map .s) xs) = some (.bl (decide (x ∈ ns))) := by
  have h : gInX (.str x) (.dic o (ns.map .s) xs) = inDic (.str x) (.dic o (ns.map .s) xs) := rfl
  rw [h]
  unfold inDic
  simp only [keyD]
  rw [if_pos ⟨rfl, all_sc ns⟩, ixK_some]
end DL
namespace DL
/-! ### cloths, works -/
structure Cl where
  nm : PySem.Str
  hue : Int
  len : Int
  due : Int
  wei : Int
  deriving DecidableEq
def clD (c : Cl) : D := .tup [.str c.nm, .int c.hue, .int c.len, .int c.due, .int c.wei]
structure ClOk (m : Nat) (c : Cl) : Prop where
  nm : NameP c.nm
  h0 : 0 ≤ c.hue
  h1 : c.hue < m
  l0 : 0 < c.len
  l1 : c.len < 10 ^ 30
  d0 : -(10 ^ 30) < c.due
  d1 : c.due < 10 ^ 30
  w0 : 0 < c.wei
  w1 : c.wei < 10 ^ 30
theorem ice_cl (c : Cl) : ice (clD c) = true := rfl
theorem ices_cls : ∀ cs : List Cl, ices (cs.map clD) = true
  | [] => rfl
  | c :: cs => by simp [ices, ice_cl, ices_cls cs]
theorem fzs_cls (cs : List Cl) : fzs (cs.map clD) = cs.map clD := fzs_ice _ (ices_cls cs)
theorem ixK_none {x : PySem.Str} {ns : List PySem.Str} (h : x ∉ ns) : ixK (ns.map KD.s) (.s x) = none := by
  have := ixK_some x ns
  rw [decide_eq_false h] at this
  cases q : ixK (ns.map KD.s) (.s x) with
  | none => rfl
  | some j => rw [q] at this; cases this
theorem mSet_new {x : PySem.Str} {ns : List PySem.Str} (h : x ∉ ns) (d : D) (xs : List D) (hl : xs.length < 1000) : mSet [d, .dic true (ns.map .s) xs, .str x] = some (.non, [.hole, .dic true ((ns ++ [x]).map .s) (xs ++ [d]), .str x]) := by
  have e : mSet [d, .dic true (ns.map .s) xs, .str x] = mSetD [d, .dic true (ns.map .s) xs, .str x] := rfl
  rw [e]
  unfold mSetD
  simp only [keyD]
  rw [if_pos ⟨rfl, all_sc ns, by rw [line24]; omega⟩, ixK_none h]
  simp
/-- the place of a name -/
theorem ixK_at {ns : List PySem.Str} {j : Nat} {x : PySem.Str} (hn : ns.Nodup) (h : ns[j]? = some x) : ixK (ns.map KD.s) (.s x) = some j := by
  unfold ixK
  rw [List.findIdx?_eq_some_iff_getElem]
  have hj := (List.getElem?_eq_some_iff.mp h).1
  refine ⟨by simpa using hj, by simp [(List.getElem?_eq_some_iff.mp h).2], fun k hk => ?_⟩
  simp only [List.getElem_map, decide_eq_true_eq]
  intro z
  have z' : ns[k] = x := by cases z; rfl
  have e2 := (List.getElem?_eq_some_iff.mp h).2
  exact List.pairwise_iff_getElem.mp hn k j (by omega) hj hk (by rw [z', e2])
/-- rinses, last, time, cloths -/
abbrev Wk0 := List (List Int) × Int × Int × List Cl
def fsW : List PySem.Str := ["least", "told", "last", "time", "waiting"]
def keysW (cs : List Cl) : List KD := cs.map fun c => KD.s c.nm
theorem keysW_eq (cs : List Cl) : keysW cs = (cs.map Cl.nm).map .s := by unfold keysW; rw [List.map_map]; rfl
def wkD (o bl bt bw : Bool) (S : List (List Int)) (w : Wk0) : D := .ins o "Works" fsW [matD bl S, matD bt w.1, .int w.2.1, .int w.2.2.1, .dic bw (keysW w.2.2.2) (w.2.2.2.map clD)]
/-- what is frozen, or one's own -/
def WF (o bl bt bw : Bool) : Prop := o = false → bl = false ∧ bt = false ∧ bw = false
theorem WF.own {bl bt bw : Bool} : WF true bl bt bw := fun h => nomatch h
theorem WF.frz : WF false false false false := fun _ => ⟨rfl, rfl, rfl⟩
theorem ice_wk (S : List (List Int)) (w : Wk0) : ice (wkD false false false false S w) = true := by
  simp [wkD, ice, ices, ice_mat, ices_cls]
theorem fz_wk (o bl bt bw : Bool) (S : List (List Int)) (w : Wk0) : fz (wkD o bl bt bw S w) = wkD false false false false S w := by
  simp [wkD, fz, fzs, fz_mat, fzs_cls]
theorem not_ice_wk (bl bt bw : Bool) (S : List (List Int)) (w : Wk0) : ice (wkD true bl bt bw S w) = false := rfl
end DL

set_option linter.all false
set_option autoImplicit false
namespace DL
abbrev sv (d : D) : Sl := ⟨false, false, d⟩
abbrev sh : Sl := ⟨false, false, .hole⟩
theorem dic_len (xs : List D) (n : Nat) (h : xs.length = n) (hn : n < 1000) : xs.length < 1000 := by omega
/-- the cloth of a name -/
def clOf (cs : List Cl) (x : PySem.Str) : Cl := (cs.find? fun c => decide (c.nm = x)).getD ⟨"", 0, 0, 0, 0⟩
theorem clOf_mem {cs : List Cl} {x : PySem.Str} (h : x ∈ cs.map Cl.nm) : clOf cs x ∈ cs ∧ (clOf cs x).nm = x := by
  obtain ⟨c, hc, e⟩ := List.mem_map.mp h
  have hs : (cs.find? fun c => decide (c.nm = x)).isSome = true := by
    rw [List.find?_isSome]; exact ⟨c, hc, by simp [e]⟩
  obtain ⟨d, hd⟩ := Option.isSome_iff_exists.mp hs
  unfold clOf
  rw [hd]
  exact ⟨List.mem_of_find?_eq_some hd, by have := List.find?_some hd; simpa using this⟩
theorem nm_inj {cs : List Cl} (nd : (cs.map Cl.nm).Nodup) {c d : Cl} (hc : c ∈ cs) (hd : d ∈ cs) (e : c.nm = d.nm) : c = d := by
  obtain ⟨i, hi, rfl⟩ := List.getElem_of_mem hc
  obtain ⟨j, hj, rfl⟩ := List.getElem_of_mem hd
  have p := List.pairwise_iff_getElem.mp nd
  have : i = j := by
    rcases Nat.lt_trichotomy i j with h | h | h
    · exact absurd (by rw [List.getElem_map, List.getElem_map]; exact e) (p i j (by simpa using hi) (by simpa using hj) h)
    · exact h
    · exact absurd (by rw [List.getElem_map, List.getElem_map]; exact e.symm) (p j i (by simpa using hj) (by simpa using hi) h)
  subst this; rfl
theorem clOf_eq {cs : List Cl} (nd : (cs.map Cl.nm).Nodup) {c : Cl} (hc : c ∈ cs) : clOf cs c.nm = c :=
  have h := clOf_mem (List.mem_map_of_mem hc)
  nm_inj nd h.1 hc h.2
/-- rinse between two cloths -/
def rin (S : List (List Int)) (i j : Int) : Int := if i = j then 0 else cell S i j
/-- done one behind the other -/
def rowsOf (S : List (List Int)) (cs : List Cl) : Int → Int → List PySem.Str → List (PySem.Str × Int × Int)
  | _, _, [] => []
  | la, t, x :: ns => (x, t + rin S la (clOf cs x).hue, t + rin S la (clOf cs x).hue + (clOf cs x).len) :: rowsOf S cs (clOf cs x).hue (t + rin S la (clOf cs x).hue + (clOf cs x).len) ns
def lastOf (cs : List Cl) : Int → List PySem.Str → Int
  | la, [] => la
  | _, x :: ns => lastOf cs (clOf cs x).hue ns
def endOf (S : List (List Int)) (cs : List Cl) : Int → Int → List PySem.Str → Int
  | _, t, [] => t
  | la, t, x :: ns => endOf S cs (clOf cs x).hue (t + rin S la (clOf cs x).hue + (clOf cs x).len) ns
def rD (p : PySem.Str × Int × Int) : D := .tup [.str p.1, .int p.2.1, .int p.2.2]
theorem rowsOf_names (S : List (List Int)) (cs : List Cl) : ∀ (ns : List PySem.Str) (la t : Int), (rowsOf S cs la t ns).map (·.1) = ns
  | [], _, _ => rfl
  | x :: ns, la, t => by simp only [rowsOf, List.map_cons, rowsOf_names S cs ns]
theorem rowsOf_len (S : List (List Int)) (cs : List Cl) (la t : Int) (ns : List PySem.Str) : (rowsOf S cs la t ns).length = ns.length := by
  rw [← List.length_map (f := (·.1)), rowsOf_names]
theorem rowsOf_app (S : List (List Int)) (cs : List Cl) : ∀ (a b : List PySem.Str) (la t : Int), rowsOf S cs la t (a ++ b) = rowsOf S cs la t a ++ rowsOf S cs (lastOf cs la a) (endOf S cs la t a) b
  | [], _, _, _ => rfl
  | x :: a, b, la, t => by simp only [List.cons_append, rowsOf, lastOf, endOf, rowsOf_app S cs a b]
theorem endOf_app (S : List (List Int)) (cs : List Cl) : ∀ (a b : List PySem.Str) (la t : Int), endOf S cs la t (a ++ b) = endOf S cs (lastOf cs la a) (endOf S cs la t a) b
  | [], _, _, _ => rfl
  | x :: a, b, la, t => by simp only [List.cons_append, lastOf, endOf, endOf_app S cs a b]
theorem lastOf_app (cs : List Cl) : ∀ (a b : List PySem.Str) (la : Int), lastOf cs la (a ++ b) = lastOf cs (lastOf cs la a) b
  | [], _, _ => rfl
  | x :: a, b, la => by simp only [List.cons_append, lastOf, lastOf_app cs a b]
/-- the end is the last row's -/
theorem endOf_last (S : List (List Int)) (cs : List Cl) : ∀ (ns : List PySem.Str) (la t : Int), endOf S cs la t ns = (([t] ++ (rowsOf S cs la t ns).map (·.2.2))).getLast (by simp)
  | [], _, _ => rfl
  | x :: ns, la, t => by
    have := endOf_last S cs ns (clOf cs x).hue (t + rin S la (clOf cs x).hue + (clOf cs x).len)
    simp only [endOf, rowsOf, List.map_cons]
    rw [this]
    simp
theorem ice_rD (p : PySem.Str × Int × Int) : ice (rD p) = true := rfl
theorem ices_rDs : ∀ ps : List (PySem.Str × Int × Int), ices (ps.map rD) = true
  | [] => rfl
  | p :: ps => by simp [ices, ice_rD, ices_rDs ps]
end DL

set_option linter.all false
set_option autoImplicit false
namespace DL
open PySem (PyData)
open PySem.PyData (eqv eqvAll canLay0 canLayAll0 depth depthAll)
/-! ### == in general -/
theorem gEq_py {x y : D} {p q : PyData} (hx : toPy x = some p) (hy : toPy y = some q) (sp : PySem.SeqAt.shaped p = true) (sq : PySem.SeqAt.shaped q = true) : gEq x y = some (.bl (eqv p q)) := by
  unfold gEq
  split
  all_goals (try (simp only [toPy, Option.some.injEq] at hx hy; subst hx hy; first | rfl | (simp only [eqv, PySem.PyData.eqv]; congr 2; first | rfl | (rename_i a b; cases a <;> cases b <;> rfl))))
  all_goals simp only [hx, hy, sp, sq, and_self, if_true]
structure QE {α : Type} (e : α → D) (p : α → PyData) (V : α → Prop) (n : Nat) : Prop where
  py : ∀ a, toPy (e a) = some (p a)
  lay : ∀ a, V a → canLay0 (p a) = true
  dep : ∀ a, depth (p a) ≤ n
  eq : ∀ a b, eqv (p a) (p b) = true ↔ a = b
theorem QE.int : QE D.int .int (fun _ => True) 0 := ⟨fun _ => rfl, fun _ _ => rfl, fun _ => Nat.le_refl _, fun a b => by simp [eqv]⟩
theorem QE.nat : QE (fun n : Nat => D.int n) (fun n => .int n) (fun _ => True) 0 := ⟨fun _ => rfl, fun _ _ => rfl, fun _ => Nat.le_refl _, fun a b => by simp [eqv]; omega⟩
theorem QE.str : QE D.str .str SOk 0 := ⟨fun _ => rfl, fun _ h => h, fun _ => Nat.le_refl _, fun a b => by simp [eqv]⟩
def oiD : Option Int → D
  | none => .non
  | some i => .int i
def oiP : Option Int → PyData
  | none => .none
  | some i => .int i
theorem QE.oint : QE oiD oiP (fun _ => True) 0 := ⟨fun a => by cases a <;> rfl, fun a _ => by cases a <;> rfl, fun a => by cases a <;> exact Nat.le_refl _, fun a b => by cases a <;> cases b <;> simp [oiP, eqv]⟩
section
variable {α β γ : Type} {e : α → D} {p : α → PyData} {V : α → Prop} {n : Nat} {e2 : β → D} {p2 : β → PyData} {V2 : β → Prop} {e3 : γ → D} {p3 : γ → PyData} {V3 : γ → Prop}
theorem QE.pys (h : QE e p V n) : ∀ xs : List α, toPys (xs.map e) = some (xs.map p)
  | [] => rfl
  | x :: xs => by simp [toPys, h.py, h.pys xs]
theorem QE.lays (h : QE e p V n) : ∀ xs : List α, (∀ x ∈ xs, V x) → canLayAll0 (xs.map p) = true
  | [], _ => rfl
  | x :: xs, k => by simp only [List.map_cons, canLayAll0, h.lay x (k x List.mem_cons_self), h.lays xs fun y hy => k y (List.mem_cons_of_mem _ hy), Bool.and_self]
theorem QE.deps (h : QE e p V n) : ∀ xs : List α, depthAll (xs.map p) ≤ n
  | [] => by simp [depthAll]
  | x :: xs => by have := h.deps xs; have := h.dep x; simp [depthAll]; omega
theorem QE.eqs (h : QE e p V n) : ∀ xs ys : List α, eqvAll (xs.map p) (ys.map p) = true ↔ xs = ys
  | [], [] => by simp [eqvAll]
  | [], _ :: _ => by simp [eqvAll]
  | _ :: _, [] => by simp [eqvAll]
  | x :: xs, y :: ys => by simp only [List.map_cons, eqvAll, Bool.and_eq_true, h.eq, h.eqs xs ys, List.cons.injEq]
theorem QE.lst (h : QE e p V n) (o : Bool) : QE (fun xs : List α => D.lst o (xs.map e)) (fun xs => .list (xs.map p)) (fun xs => ∀ x ∈ xs, V x) (n + 1) :=
  ⟨fun xs => by simp [toPy, h.pys], fun xs k => by simp [canLay0, h.lays xs k], fun xs => by have := h.deps xs; simp [depth]; omega, fun xs ys => by simp only [eqv, h.eqs]⟩
theorem QE.mono (h : QE e p V n) {m : Nat} (k : n ≤ m) : QE e p V m := ⟨h.py, h.lay, fun a => Nat.le_trans (h.dep a) k, h.eq⟩
theorem QE.tup2 (h : QE e p V n) (k : QE e2 p2 V2 n) : QE (fun x : α × β => D.tup [e x.1, e2 x.2]) (fun x => .tuple [p x.1, p2 x.2]) (fun x => V x.1 ∧ V2 x.2) (n + 1) :=
  ⟨fun x => by simp [toPy, toPys, h.py, k.py], fun x v => by simp [canLay0, canLayAll0, h.lay _ v.1, k.lay _ v.2], fun x => by have := h.dep x.1; have := k.dep x.2; simp [depth, depthAll]; omega,
    fun x y => by simp only [eqv, eqvAll, Bool.and_eq_true, h.eq, k.eq, and_true, Prod.ext_iff]⟩
theorem QE.tup3 (h : QE e p V n) (k : QE e2 p2 V2 n) (l : QE e3 p3 V3 n) : QE (fun x : α × β × γ => D.tup [e x.1, e2 x.2.1, e3 x.2.2]) (fun x => .tuple [p x.1, p2 x.2.1, p3 x.2.2]) (fun x => V x.1 ∧ V2 x.2.1 ∧ V3 x.2.2) (n + 1) :=
  ⟨fun x => by simp [toPy, toPys, h.py, k.py, l.py], fun x v => by simp [canLay0, canLayAll0, h.lay _ v.1, k.lay _ v.2.1, l.lay _ v.2.2], fun x => by have := h.dep x.1; have := k.dep x.2.1; have := l.dep x.2.2; simp [depth, depthAll]; omega,
    fun x y => by simp only [eqv, eqvAll, Bool.and_eq_true, h.eq, k.eq, l.eq, and_true, Prod.ext_iff]⟩
theorem QE.sh (h : QE e p V n) (hn : n ≤ 64) (a : α) (v : V a) : PySem.SeqAt.shaped (p a) = true := by
  have := h.dep a
  simp [PySem.SeqAt.shaped, h.lay a v]; omega
theorem QE.g {e' : α → D} (h : QE e p V n) (h' : QE e' p V n) (hn : n ≤ 64) (a b : α) (va : V a) (vb : V b) [Decidable (a = b)] : gEq (e a) (e' b) = some (.bl (decide (a = b))) := by
  rw [gEq_py (h.py a) (h'.py b) (h.sh hn a va) (h.sh hn b vb)]
  congr 2
  rw [Bool.eq_iff_iff, h.eq, decide_eq_true_eq]
end
theorem QE.cl : QE clD (fun c => .tuple [.str c.nm, .int c.hue, .int c.len, .int c.due, .int c.wei]) (fun c => SOk c.nm) 1 :=
  ⟨fun c => rfl, fun c h => by simp only [canLay0, canLayAll0, Bool.and_true]; exact h, fun c => by simp [depth, depthAll], fun a b => by cases a; cases b; simp [eqv, eqvAll]⟩
theorem QE.row : QE rD (fun x => .tuple [.str x.1, .int x.2.1, .int x.2.2]) (fun x => SOk x.1) 1 :=
  ⟨fun c => rfl, fun c h => by simp only [canLay0, canLayAll0, Bool.and_true]; exact h, fun c => by simp [depth, depthAll], fun a b => by obtain ⟨a1, a2, a3⟩ := a; obtain ⟨b1, b2, b3⟩ := b; simp [eqv, eqvAll]⟩
/-! ### ways without a hue twice -/
theorem not_nodup {l : List Int} (h : ¬ l.Nodup) : ∃ a x b c, l = a ++ x :: b ++ x :: c := by
  induction l with
  | nil => exact absurd List.nodup_nil h
  | cons y l ih =>
    by_cases hy : y ∈ l
    · obtain ⟨b, c, rfl⟩ := List.append_of_mem hy
      exact ⟨[], y, b, c, by simp⟩
    · have : ¬ l.Nodup := fun z => h (List.nodup_cons.mpr ⟨hy, z⟩)
      obtain ⟨a, x, b, c, rfl⟩ := ih this
      exact ⟨y :: a, x, b, c, by simp⟩
theorem cut_all {m : Nat} {rows : List (List Int)} (g : Nng m rows) (i j : Nat) (hi : i ≤ m) (hj : j < m) : ∀ (n : Nat) (q : List Int), q.length ≤ n → In m q → ∃ q', In m q' ∧ q'.Nodup ∧ (∀ x ∈ q', x ∈ q) ∧ wk rows i (q' ++ [(j : Int)]) ≤ wk rows i (q ++ [(j : Int)])
  | 0, q, hn, hq => ⟨[], fun x hx => (by simp at hx), List.nodup_nil, fun x hx => (by simp at hx), by
    have : q = [] := List.length_eq_zero_iff.mp (by omega)
    subst this; exact Int.le_refl _⟩
  | n + 1, q, hn, hq => by
    by_cases hd : q.Nodup
    · exact ⟨q, hq, hd, fun _ h => h, Int.le_refl _⟩
    · obtain ⟨a, x, b, c, rfl⟩ := not_nodup hd
      have hx := hq x (by simp)
      have ha : In m a := fun y hy => hq y (by simp [hy])
      have hb : In m b := fun y hy => hq y (by simp [hy])
      have hc : In m c := fun y hy => hq y (by simp [hy])
      obtain ⟨q', h1, h2, h3, h4⟩ := cut_all g i j hi hj n (a ++ x :: c) (by simp at hn ⊢; omega) (fun y hy => hq y (by simp at hy ⊢; rcases hy with h | h | h <;> simp [h]))
      refine ⟨q', h1, h2, fun y hy => ?_, Int.le_trans h4 ?_⟩
      · have := h3 y hy
        simp at this ⊢
        rcases this with h | h | h <;> simp [h]
      · have e1 : (a ++ x :: b ++ x :: c) ++ [(j : Int)] = (a ++ [x]) ++ ((b ++ [x]) ++ (c ++ [(j : Int)])) := by simp
        have e2 : (a ++ x :: c) ++ [(j : Int)] = (a ++ [x]) ++ (c ++ [(j : Int)]) := by simp
        rw [e1, e2, wk_app rows (a ++ [x]) (c ++ [(j : Int)]), wk_app rows (a ++ [x]) (b ++ [x] ++ (c ++ [(j : Int)])), wk_app rows (b ++ [x]) (c ++ [(j : Int)]), lastD_snoc, lastD_snoc]
        have := wk_nn g (b ++ [x]) x hx.1 (by omega) (hb.app (In.one hx.1 hx.2))
        omega
theorem nodup_le {m : Nat} {q : List Int} (hq : In m q) (hn : q.Nodup) : q.length ≤ m := by
  have := len_of_sub (m := (List.range m).map Int.ofNat) hn fun x hx => by
    have := hq x hx
    exact List.mem_map.mpr ⟨x.toNat, List.mem_range.mpr (by omega), by show ((x.toNat : Nat) : Int) = x; omega⟩
  simpa using this
/-! ### sums by rounds -/
def mnL (x : Int) (xs : List Int) : Int := (minL (x :: xs)).getD 0
theorem mnL_some (x : Int) (xs : List Int) : minL (x :: xs) = some (mnL x xs) := rfl
theorem mnL_ok (x : Int) (xs : List Int) : mnL x xs ∈ x :: xs ∧ ∀ y ∈ x :: xs, mnL x xs ≤ y := minL_ok xs x
def lrow (m : Nat) (rows : List (List Int)) (r : List Int) : List Int := (List.range m).map fun l => mnL (r[l]?.getD 0) ((List.range m).map fun a => r[a]?.getD 0 + gx 0 rows a l)
def lstep (m : Nat) (rows F : List (List Int)) : List (List Int) := F.map (lrow m rows)
structure LS (m : Nat) (rows F : List (List Int)) (k : Nat) : Prop where
  d : Dim m F
  att : ∀ i j : Nat, i ≤ m → j < m → ∃ q, In m q ∧ wk rows i (q ++ [(j : Int)]) = gx 0 F i j
  low : ∀ i j : Nat, i ≤ m → j < m → ∀ q, In m q → q.length ≤ k → gx 0 F i j ≤ wk rows i (q ++ [(j : Int)])
theorem LS.zero {m : Nat} {rows : List (List Int)} (g : Nng m rows) : LS m rows rows 0 := ⟨g.1, fun i j hi hj => ⟨[], fun x hx => by simp at hx, by simp [wk, cell_nat g.1 hi hj]⟩, fun i j hi hj q hq hl => by
  have : q = [] := List.length_eq_zero_iff.mp (by omega)
  subst this
  simp [wk, cell_nat g.1 hi hj]⟩
theorem Dim.at {m : Nat} {F : List (List Int)} (d : Dim m F) {i : Nat} (hi : i ≤ m) : ∃ r, F[i]? = some r ∧ r.length = m ∧ ∀ j, gx 0 F i j = r[j]?.getD 0 := by
  obtain ⟨r, h1, h2⟩ := d.row hi
  exact ⟨r, h1, h2, fun j => by unfold gx; rw [h1]; rfl⟩
theorem gx_lstep {m : Nat} {rows F : List (List Int)} (d : Dim m F) {i j : Nat} (hi : i ≤ m) (hj : j < m) : gx 0 (lstep m rows F) i j = mnL (gx 0 F i j) ((List.range m).map fun a => gx 0 F i a + gx 0 rows a j) := by
  obtain ⟨r, h1, h2, h3⟩ := d.at hi
  have e : (lstep m rows F)[i]? = some (lrow m rows r) := by unfold lstep; rw [List.getElem?_map, h1]; rfl
  have e2 : (lrow m rows r)[j]? = some (mnL (r[j]?.getD 0) ((List.range m).map fun a => r[a]?.getD 0 + gx 0 rows a j)) := by
    unfold lrow; rw [List.getElem?_map, List.getElem?_range hj]; rfl
  have h3' : ∀ a, r[a]?.getD 0 = gx 0 F i a := fun a => (h3 a).symm
  show ((lstep m rows F)[i]?.getD [])[j]?.getD 0 = _
  rw [e, Option.getD_some, e2, Option.getD_some]
  simp only [h3']
theorem LS.step {m : Nat} {rows F : List (List Int)} {k : Nat} (g : Nng m rows) (h : LS m rows F k) : LS m rows (lstep m rows F) (k + 1) := by
  refine ⟨⟨by unfold lstep; rw [List.length_map]; exact h.d.1, fun r hr => ?_⟩, fun i j hi hj => ?_, fun i j hi hj q hq hl => ?_⟩
  · obtain ⟨r', _, rfl⟩ := List.mem_map.mp hr
    unfold lrow; simp
  · rw [gx_lstep h.d hi hj]
    rcases List.mem_cons.mp (mnL_ok (gx 0 F i j) ((List.range m).map fun a => gx 0 F i a + gx 0 rows a j)).1 with e | e
    · rw [e]; exact h.att i j hi hj
    · obtain ⟨a, ha, e⟩ := List.mem_map.mp e
      have ha := List.mem_range.mp ha
      obtain ⟨q, h1, h2⟩ := h.att i a hi ha
      refine ⟨q ++ [(a : Int)], h1.app (In.one (by omega) (by omega)), ?_⟩
      rw [wk_app, lastD_snoc, h2, ← e]
      simp [wk, cell_nat g.1 (show a ≤ m by omega) hj]
  · rw [gx_lstep h.d hi hj]
    have ok := (mnL_ok (gx 0 F i j) ((List.range m).map fun a => gx 0 F i a + gx 0 rows a j)).2
    rcases List.eq_nil_or_concat q with rfl | ⟨p, x, rfl⟩
    · exact Int.le_trans (ok _ List.mem_cons_self) (h.low i j hi hj [] hq (by simp))
    · rw [List.concat_eq_append] at *
      have hx := hq x (by simp)
      obtain ⟨a, rfl⟩ : ∃ a : Nat, x = a := ⟨x.toNat, by omega⟩
      refine Int.le_trans (ok (gx 0 F i a + gx 0 rows a j) (List.mem_cons_of_mem _ (List.mem_map.mpr ⟨a, List.mem_range.mpr (by omega), rfl⟩))) ?_
      have := h.low i a hi (by omega) p hq.left (by simp at hl; omega)
      rw [wk_app, lastD_snoc]
      simp only [wk, cell_nat g.1 (show a ≤ m by omega) hj]
      omega
def lsums (m : Nat) (rows : List (List Int)) : Nat → List (List Int)
  | 0 => rows
  | k + 1 => lstep m rows (lsums m rows k)
theorem lsums_ls {m : Nat} {rows : List (List Int)} (g : Nng m rows) : ∀ k, LS m rows (lsums m rows k) k
  | 0 => LS.zero g
  | k + 1 => (lsums_ls g k).step g
theorem lsums_eq {m : Nat} {rows S : List (List Int)} {W : List (List (List Int))} (g : Nng m rows) (L : Least m rows S W) : lsums m rows m = S := by
  have h := lsums_ls g m
  refine ext2 h.d L.fw.ds fun i j hi hj => ?_
  obtain ⟨q, h1, h2⟩ := h.att i j hi hj
  have a := L.le hi hj h1
  obtain ⟨q2, e2, i2, w2⟩ := L.fw.att i j hi hj
  obtain ⟨q', k1, k2, _, k3⟩ := cut_all g i j hi hj q2.length q2 (Nat.le_refl _) i2
  have b := h.low i j hi hj q' k1 (nodup_le k1 k2)
  rw [e2] at w2
  omega
/-! ### places -/
theorem ixl_1_0 : L2.ixN 1 0 = some 0 := rfl
theorem ixm_1 : L2.ixN 1 (-1) = some 0 := rfl
theorem ixl_2_0 : L2.ixN 2 0 = some 0 := rfl
theorem ixl_2_1 : L2.ixN 2 1 = some 1 := rfl
theorem ixm_2 : L2.ixN 2 (-1) = some 1 := rfl
theorem ixl_3_0 : L2.ixN 3 0 = some 0 := rfl
theorem ixl_3_1 : L2.ixN 3 1 = some 1 := rfl
theorem ixl_3_2 : L2.ixN 3 2 = some 2 := rfl
theorem ixm_3 : L2.ixN 3 (-1) = some 2 := rfl
theorem ixl_4_0 : L2.ixN 4 0 = some 0 := rfl
theorem ixl_4_1 : L2.ixN 4 1 = some 1 := rfl
theorem ixl_4_2 : L2.ixN 4 2 = some 2 := rfl
theorem ixl_4_3 : L2.ixN 4 3 = some 3 := rfl
theorem ixm_4 : L2.ixN 4 (-1) = some 3 := rfl
theorem ixl_5_0 : L2.ixN 5 0 = some 0 := rfl
theorem ixl_5_1 : L2.ixN 5 1 = some 1 := rfl
theorem ixl_5_2 : L2.ixN 5 2 = some 2 := rfl
theorem ixl_5_3 : L2.ixN 5 3 = some 3 := rfl
theorem ixl_5_4 : L2.ixN 5 4 = some 4 := rfl
theorem ixm_5 : L2.ixN 5 (-1) = some 4 := rfl
theorem ixl_6_0 : L2.ixN 6 0 = some 0 := rfl
theorem ixl_6_1 : L2.ixN 6 1 = some 1 := rfl
theorem ixl_6_2 : L2.ixN 6 2 = some 2 := rfl
theorem ixl_6_3 : L2.ixN 6 3 = some 3 := rfl
theorem ixl_6_4 : L2.ixN 6 4 = some 4 := rfl
theorem ixl_6_5 : L2.ixN 6 5 = some 5 := rfl
theorem ixm_6 : L2.ixN 6 (-1) = some 5 := rfl
/-! ### comprehensions over typed lists -/
theorem lcL_fm {α : Type} {own : List Nat} {gd : D → Env → Option Env} {tt : BF} {te : EF} {δ : Env} (emb : α → D) (f : α → Option D) : ∀ (xs : List α) (acc : List D), acc.length + xs.length ≤ PySem.sizeLine →
    (∀ a ∈ xs, ∃ δ1, gd (emb a) δ = some δ1 ∧ ((∃ δ2 δ3 x, tt δ1 = .ok true δ2 ∧ eV te δ2 = .ok (.tmp x) δ3 ∧ wipeE own δ3 = some δ ∧ f a = some x) ∨ ∃ δ2, tt δ1 = .ok false δ2 ∧ wipeE own δ2 = some δ ∧ f a = none)) →
    lcL own gd tt te (xs.map emb) δ acc = .ok (acc ++ xs.filterMap f) δ
  | [], acc, _, _ => by simp [lcL]
  | d :: ds, acc, hl, h => by
    obtain ⟨δ1, h1, h2⟩ := h d List.mem_cons_self
    have ih := fun acc' hl' => lcL_fm emb f ds acc' hl' fun e he => h e (List.mem_cons_of_mem _ he)
    simp only [List.length_cons] at hl
    rcases h2 with ⟨δ2, δ3, x, a, b, c, e⟩ | ⟨δ2, a, c, e⟩
    · simp only [List.map_cons, lcL, h1, a, b, c]
      rw [if_pos (by omega), ih (acc ++ [x]) (by simp; omega)]
      simp [List.filterMap_cons, e]
    · simp only [List.map_cons, lcL, h1, a, c]
      rw [ih acc (by omega)]
      simp [List.filterMap_cons, e]
theorem lcL_emb {α : Type} {own : List Nat} {gd : D → Env → Option Env} {te : EF} {δ : Env} (emb out : α → D) (xs : List α) (hl : xs.length ≤ PySem.sizeLine)
    (h : ∀ a ∈ xs, ∃ δ1 δ3, gd (emb a) δ = some δ1 ∧ eV te δ1 = .ok (.tmp (out a)) δ3 ∧ wipeE own δ3 = some δ) : lcL own gd bYes te (xs.map emb) δ [] = .ok (xs.map out) δ := by
  have := lcL_fm (own := own) (gd := gd) (tt := bYes) (te := te) (δ := δ) emb (fun a => some (out a)) xs [] (by simpa using hl) fun a ha => by
    obtain ⟨δ1, δ3, x, y, z⟩ := h a ha
    exact ⟨δ1, x, .inl ⟨δ1, δ3, out a, rfl, y, z, rfl⟩⟩
  simpa using this
theorem fm_flt {α β : Type} (p : α → Bool) (f : α → β) : ∀ xs : List α, (xs.filterMap fun a => if p a = true then some (f a) else none) = (xs.filter p).map f
  | [] => rfl
  | a :: xs => by cases q : p a <;> simp [List.filterMap_cons, List.filter_cons, q, fm_flt p f xs]
theorem lcL_flt {α : Type} {own : List Nat} {gd : D → Env → Option Env} {tt : BF} {te : EF} {δ : Env} (emb out : α → D) (p : α → Bool) (xs : List α) (hl : xs.length ≤ PySem.sizeLine)
    (h : ∀ a ∈ xs, ∃ δ1 δ2, gd (emb a) δ = some δ1 ∧ tt δ1 = .ok (p a) δ2 ∧ (p a = true → ∃ δ3, eV te δ2 = .ok (.tmp (out a)) δ3 ∧ wipeE own δ3 = some δ) ∧ (p a = false → wipeE own δ2 = some δ)) : lcL own gd tt te (xs.map emb) δ [] = .ok ((xs.filter p).map out) δ := by
  have := lcL_fm (own := own) (gd := gd) (tt := tt) (te := te) (δ := δ) emb (fun a => if p a = true then some (out a) else none) xs [] (by simpa using hl) fun a ha => by
    obtain ⟨δ1, δ2, x, y, z, u⟩ := h a ha
    refine ⟨δ1, x, ?_⟩
    cases q : p a with
    | true =>
      obtain ⟨δ3, e1, e2⟩ := z q
      exact .inl ⟨δ2, δ3, out a, by rw [y, q], e1, e2, by simp⟩
    | false => exact .inr ⟨δ2, by rw [y, q], u q, by simp⟩
  rw [this, List.nil_append, fm_flt]
theorem erase_map {α β : Type} (f : α → β) : ∀ (l : List α) (j : Nat), (l.map f).eraseIdx j = (l.eraseIdx j).map f
  | [], _ => rfl
  | _ :: _, 0 => rfl
  | a :: l, j + 1 => by simp only [List.map_cons, List.eraseIdx_cons_succ, erase_map f l j]
theorem erase_perm {α : Type} : ∀ (l : List α) (j : Nat) (h : j < l.length), (l[j] :: l.eraseIdx j).Perm l
  | [], _, h => by simp at h
  | a :: l, 0, _ => by simp
  | a :: l, j + 1, h => by
    simp only [List.getElem_cons_succ, List.eraseIdx_cons_succ]
    exact (List.Perm.swap _ _ _).trans ((erase_perm l j (by simpa using h)).cons a)
theorem cutD_butlast (xs : List D) : cutD xs none (some (-1)) = xs.dropLast := by
  unfold cutD
  have e : HT.sIx xs.length xs.length (some (-1)) = xs.length - 1 := by
    show (if (-1 : Int) < 0 then ((-1 : Int) + (xs.length : Int)).toNat else min (-1 : Int).toNat xs.length) = _
    rw [if_pos (by decide)]; omega
  rw [e, HT.sIx_none, List.drop_zero, Nat.sub_zero, List.dropLast_eq_take]
theorem enumD_from {α : Type} (f : α → D) : ∀ (xs : List α) (k : Nat), ((xs.map f).zipIdx k).map (fun q => D.tup [.int (q.2 : Nat), q.1]) = (xs.zipIdx k).map fun q => D.tup [.int (q.2 : Nat), f q.1]
  | [], _ => rfl
  | x :: xs, k => by simp only [List.map_cons, List.zipIdx_cons, enumD_from f xs (k + 1)]
theorem ixK_get {ns : List PySem.Str} {x : PySem.Str} (h : x ∈ ns) (nd : ns.Nodup) {β : Type} (g : PySem.Str → β) : ∃ j, ixK (ns.map .s) (.s x) = some j ∧ j < ns.length ∧ (ns.map g)[j]? = some (g x) := by
  obtain ⟨j, hj, e⟩ := List.getElem_of_mem h
  exact ⟨j, ixK_at nd (by rw [List.getElem?_eq_getElem hj, e]), hj, by rw [List.getElem?_map, List.getElem?_eq_getElem hj, e]; rfl⟩
theorem gNe_ii (i j : Int) : gNe (.int i) (.int j) = some (.bl !decide (i = j)) := rfl
theorem gNe_ss (i j : PySem.Str) : gNe (.str i) (.str j) = some (.bl !decide (i = j)) := rfl
theorem gNe_bb (i j : Bool) : gNe (.bl i) (.bl j) = some (.bl !decide (i = j)) := rfl
theorem gNe_nn : gNe .non .non = some (.bl false) := rfl
theorem gNe_in (i : Int) : gNe (.int i) .non = some (.bl true) := rfl
theorem gNe_ni (i : Int) : gNe .non (.int i) = some (.bl true) := rfl
theorem ixN_zero (n : Nat) : L2.ixN (n + 1) 0 = some 0 := by unfold L2.ixN; rw [if_pos (by decide), if_pos (by omega)]; rfl
theorem ixN_end (n : Nat) : L2.ixN (n + 1) (-1) = some n := by unfold L2.ixN; rw [if_neg (by decide), if_pos (by omega)]; congr 1; omega
theorem sof_inj (a b : String) : (PySem.Str.ofString a = PySem.Str.ofString b) = (a = b) := by
  refine propext ⟨fun h => ?_, fun h => by rw [h]⟩
  have h2 := congrArg (fun x : PySem.Str => x.cps.toList) h
  simp only [PySem.Str.ofString_eq_toList] at h2
  have inj : ∀ l m : List Char, l.map Char.toNat = m.map Char.toNat → l = m := by
    intro l
    induction l with
    | nil => intro m e; cases m with
      | nil => rfl
      | cons c m => simp at e
    | cons d l ih => intro m e; cases m with
      | nil => simp at e
      | cons c m =>
        simp only [List.map_cons, List.cons.injEq] at e
        rw [ih m e.2, Char.ext (UInt32.toNat_inj.mp e.1)]
  exact String.toList_inj.mp (inj _ _ (by simpa using h2))
end DL

set_option linter.all false
set_option autoImplicit false
namespace DL
/-! ### latenesses, costs -/
def latesOf (S : List (List Int)) (cs : List Cl) (la t : Int) (ns : List PySem.Str) : List Int := (rowsOf S cs la t ns).map fun r => r.2.2 - (clOf cs r.1).due
def costOf (S : List (List Int)) (cs : List Cl) (la t : Int) (ns : List PySem.Str) : Int := ((rowsOf S cs la t ns).map fun r => (clOf cs r.1).wei * r.2.2).sum
def lateOnes (S : List (List Int)) (cs : List Cl) (la t : Int) (ns : List PySem.Str) : List PySem.Str := ((rowsOf S cs la t ns).filter fun r => decide ((clOf cs r.1).due < r.2.2)).map (·.1)
def keepsB (mx : Option Int) (bound : Option Int) : Bool := match bound, mx with
  | none, _ => true
  | _, none => true
  | some b, some l => decide (l ≤ b)
theorem gMaxE_ints (b : Bool) (xs : List Int) (d : D) (h : ice d = true) : gMaxE (.lst b (xs.map .int)) d = some (match maxL xs with | some m => .int m | none => d) := by
  cases xs with
  | nil => simp [gMaxE, h, maxL]
  | cons x xs =>
    have e : intsD (D.int x :: xs.map D.int) = some (x :: xs) := intsD_map (x :: xs)
    simp only [List.map_cons, gMaxE, gMaxL, e]
    rfl
theorem gMinE_ints (b : Bool) (xs : List Int) (d : D) (h : ice d = true) : gMinE (.lst b (xs.map .int)) d = some (match minL xs with | some m => .int m | none => d) := by
  cases xs with
  | nil => simp [gMinE, h, minL]
  | cons x xs =>
    have e : intsD (D.int x :: xs.map D.int) = some (x :: xs) := intsD_map (x :: xs)
    simp only [List.map_cons, gMinE, gMinL, e]
    rfl
theorem gMaxE_non (b : Bool) (xs : List Int) : gMaxE (.lst b (xs.map .int)) .non = some (oiD (maxL xs)) := by
  rw [gMaxE_ints _ _ _ rfl]; cases maxL xs <;> rfl
theorem gMinE_non (b : Bool) (xs : List Int) : gMinE (.lst b (xs.map .int)) .non = some (oiD (minL xs)) := by
  rw [gMinE_ints _ _ _ rfl]; cases minL xs <;> rfl
theorem maxL_none {xs : List Int} : maxL xs = none ↔ xs = [] := by cases xs <;> simp [maxL]
theorem maxL_spec {xs : List Int} {m : Int} (h : maxL xs = some m) : m ∈ xs ∧ ∀ y ∈ xs, y ≤ m := by
  cases xs with
  | nil => simp [maxL] at h
  | cons x xs => simp only [maxL, Option.some.injEq] at h; subst h; exact maxL_ok xs x
theorem minL_spec {xs : List Int} {m : Int} (h : minL xs = some m) : m ∈ xs ∧ ∀ y ∈ xs, m ≤ y := by
  cases xs with
  | nil => simp [minL] at h
  | cons x xs => simp only [minL, Option.some.injEq] at h; subst h; exact minL_ok xs x
theorem maxL_eq {xs : List Int} {m : Int} (h1 : m ∈ xs) (h2 : ∀ y ∈ xs, y ≤ m) : maxL xs = some m := by
  cases q : maxL xs with
  | none => rw [maxL_none] at q; subst q; simp at h1
  | some k =>
    obtain ⟨a, b⟩ := maxL_spec q
    exact congrArg some (Int.le_antisymm (h2 k a) (b m h1))
theorem minL_eq {xs : List Int} {m : Int} (h1 : m ∈ xs) (h2 : ∀ y ∈ xs, m ≤ y) : minL xs = some m := by
  cases q : minL xs with
  | none => cases xs <;> simp [minL] at q h1
  | some k =>
    obtain ⟨a, b⟩ := minL_spec q
    exact congrArg some (Int.le_antisymm (b m h1) (h2 k a))
theorem keeps_max {xs : List Int} {b : Int} : keepsB (maxL xs) (some b) = true ↔ ∀ x ∈ xs, x ≤ b := by
  unfold keepsB
  cases q : maxL xs with
  | none => rw [maxL_none] at q; subst q; simp
  | some k =>
    obtain ⟨a1, a2⟩ := maxL_spec q
    simp only [decide_eq_true_eq]
    exact ⟨fun h x hx => Int.le_trans (a2 x hx) h, fun h => h k a1⟩
theorem log2_le {i : Int} {k : Nat} (h0 : 0 ≤ i) (h : i < 2 ^ k) (hk : 0 < k) : i.natAbs.log2 < k := log2_small (by
  have : ((2 ^ k : Nat) : Int) = 2 ^ k := by simp
  omega) hk
/-- cloths by names -/
theorem dK {cs : List Cl} (nd : (cs.map Cl.nm).Nodup) {x : PySem.Str} (hx : x ∈ cs.map Cl.nm) (f : Cl → D) : ∃ j, ixK ((cs.map Cl.nm).map .s) (.s x) = some j ∧ ∃ h : j < (cs.map f).length, (cs.map f)[j]'h = f (clOf cs x) := by
  have hg : cs.map f = (cs.map Cl.nm).map fun y => f (clOf cs y) := by
    rw [List.map_map]; apply List.map_congr_left; intro c hc
    show f c = f (clOf cs c.nm)
    rw [clOf_eq nd hc]
  obtain ⟨j, h1, h2, h3⟩ := ixK_get hx nd fun y => f (clOf cs y)
  rw [← hg] at h3
  have h4 : j < (cs.map f).length := by simpa using h2
  exact ⟨j, h1, h4, by rw [List.getElem?_eq_getElem h4] at h3; exact Option.some.inj h3⟩
end DL

set_option linter.all false
set_option autoImplicit false
namespace DL
/-! ### sorted names -/
theorem sortS_perm (ks : List PySem.Str) : (sortS ks).Perm ks := List.mergeSort_perm ks leS
theorem sortS_pw (ks : List PySem.Str) : (sortS ks).Pairwise fun x y => leS x y = true := List.pairwise_mergeSort (fun a b c => leS_trans a b c) (fun a b => leS_tot a b) ks
theorem sortS_uniq {ks ys : List PySem.Str} (hp : ys.Perm ks) (hs : ys.Pairwise fun x y => leS x y = true) : ys = sortS ks :=
  List.Perm.eq_of_pairwise (fun a b _ _ x y => leS_anti x y) hs (sortS_pw ks) (hp.trans (sortS_perm ks).symm)
theorem sortS_congr {ks ys : List PySem.Str} (hp : ys.Perm ks) : sortS ys = sortS ks := sortS_uniq ((sortS_perm ys).trans hp) (sortS_pw ys)
theorem sortS_filter (p : PySem.Str → Bool) (ks : List PySem.Str) : (sortS ks).filter p = sortS (ks.filter p) :=
  sortS_uniq ((sortS_perm ks).filter p) ((sortS_pw ks).sublist List.filter_sublist)
theorem sortS_mem {ks : List PySem.Str} {x : PySem.Str} : x ∈ sortS ks ↔ x ∈ ks := (sortS_perm ks).mem_iff
theorem sortS_nd {ks : List PySem.Str} (h : ks.Nodup) : (sortS ks).Nodup := (sortS_perm ks).nodup_iff.mpr h
theorem sortS_idem (ks : List PySem.Str) : sortS (sortS ks) = sortS ks := sortS_congr (sortS_perm ks)
theorem sortS_len (ks : List PySem.Str) : (sortS ks).length = ks.length := (sortS_perm ks).length_eq
theorem nodup_perm {α : Type} [DecidableEq α] {a b : List α} (ha : a.Nodup) (hb : b.Nodup) (h : ∀ x, x ∈ a ↔ x ∈ b) : a.Perm b := (List.perm_ext_iff_of_nodup ha hb).mpr h
/-! ### some of the cloths -/
def pick1 (cs : List Cl) (ns : List PySem.Str) : List Cl := ns.map (clOf cs)
theorem pick_nm {cs : List Cl} {ns : List PySem.Str} (h : ∀ x ∈ ns, x ∈ cs.map Cl.nm) : (pick1 cs ns).map Cl.nm = ns := by
  unfold pick1
  rw [List.map_map]
  conv => rhs; rw [← List.map_id ns]
  exact List.map_congr_left fun x hx => (clOf_mem (h x hx)).2
theorem pick_mem {cs : List Cl} {ns : List PySem.Str} (h : ∀ x ∈ ns, x ∈ cs.map Cl.nm) {c : Cl} (hc : c ∈ pick1 cs ns) : c ∈ cs := by
  obtain ⟨x, hx, rfl⟩ := List.mem_map.mp hc
  exact (clOf_mem (h x hx)).1
theorem pick_cl {cs : List Cl} {ns : List PySem.Str} (h : ∀ x ∈ ns, x ∈ cs.map Cl.nm) (nd : ns.Nodup) {x : PySem.Str} (hx : x ∈ ns) : clOf (pick1 cs ns) x = clOf cs x := by
  have h1 : clOf cs x ∈ pick1 cs ns := List.mem_map_of_mem hx
  have h2 := (clOf_mem (h x hx)).2
  have := clOf_eq (cs := pick1 cs ns) (by rw [pick_nm h]; exact nd) h1
  rw [h2] at this
  exact this
theorem rowsOf_congr {S : List (List Int)} {cs cs' : List Cl} : ∀ {ns : List PySem.Str} (la t : Int), (∀ x ∈ ns, clOf cs' x = clOf cs x) → rowsOf S cs' la t ns = rowsOf S cs la t ns
  | [], _, _, _ => rfl
  | x :: ns, la, t, h => by
    simp only [rowsOf, h x List.mem_cons_self]
    rw [rowsOf_congr _ _ fun y hy => h y (List.mem_cons_of_mem _ hy)]
theorem endOf_congr {S : List (List Int)} {cs cs' : List Cl} : ∀ {ns : List PySem.Str} (la t : Int), (∀ x ∈ ns, clOf cs' x = clOf cs x) → endOf S cs' la t ns = endOf S cs la t ns
  | [], _, _, _ => rfl
  | x :: ns, la, t, h => by
    simp only [endOf, h x List.mem_cons_self]
    rw [endOf_congr _ _ fun y hy => h y (List.mem_cons_of_mem _ hy)]
theorem lastOf_congr {cs cs' : List Cl} : ∀ {ns : List PySem.Str} (la : Int), (∀ x ∈ ns, clOf cs' x = clOf cs x) → lastOf cs' la ns = lastOf cs la ns
  | [], _, _ => rfl
  | x :: ns, la, h => by
    simp only [lastOf, h x List.mem_cons_self]
    rw [lastOf_congr _ fun y hy => h y (List.mem_cons_of_mem _ hy)]
theorem rows_mem {S : List (List Int)} {cs : List Cl} {la t : Int} {ns : List PySem.Str} {r : PySem.Str × Int × Int} (hr : r ∈ rowsOf S cs la t ns) : r.1 ∈ ns := by
  rw [← rowsOf_names S cs ns la t]; exact List.mem_map_of_mem hr
theorem latesOf_congr {S : List (List Int)} {cs cs' : List Cl} {ns : List PySem.Str} (la t : Int) (h : ∀ x ∈ ns, clOf cs' x = clOf cs x) : latesOf S cs' la t ns = latesOf S cs la t ns := by
  unfold latesOf; rw [rowsOf_congr la t h]
  exact List.map_congr_left fun r hr => by rw [h _ (rows_mem hr)]
theorem costOf_congr {S : List (List Int)} {cs cs' : List Cl} {ns : List PySem.Str} (la t : Int) (h : ∀ x ∈ ns, clOf cs' x = clOf cs x) : costOf S cs' la t ns = costOf S cs la t ns := by
  unfold costOf; rw [rowsOf_congr la t h]
  congr 1
  exact List.map_congr_left fun r hr => by rw [h _ (rows_mem hr)]
theorem lateOnes_congr {S : List (List Int)} {cs cs' : List Cl} {ns : List PySem.Str} (la t : Int) (h : ∀ x ∈ ns, clOf cs' x = clOf cs x) : lateOnes S cs' la t ns = lateOnes S cs la t ns := by
  unfold lateOnes; rw [rowsOf_congr la t h]
  congr 1
  exact List.filter_congr fun r hr => by rw [h _ (rows_mem hr)]
theorem latesOf_app (S : List (List Int)) (cs : List Cl) (a b : List PySem.Str) (la t : Int) : latesOf S cs la t (a ++ b) = latesOf S cs la t a ++ latesOf S cs (lastOf cs la a) (endOf S cs la t a) b := by
  unfold latesOf; rw [rowsOf_app, List.map_append]
theorem costOf_app (S : List (List Int)) (cs : List Cl) (a b : List PySem.Str) (la t : Int) : costOf S cs la t (a ++ b) = costOf S cs la t a + costOf S cs (lastOf cs la a) (endOf S cs la t a) b := by
  unfold costOf; rw [rowsOf_app, List.map_append, List.sum_append]
theorem lateOnes_app (S : List (List Int)) (cs : List Cl) (a b : List PySem.Str) (la t : Int) : lateOnes S cs la t (a ++ b) = lateOnes S cs la t a ++ lateOnes S cs (lastOf cs la a) (endOf S cs la t a) b := by
  unfold lateOnes; rw [rowsOf_app, List.filter_append, List.map_append]
/-- works with the cloths ns done -/
def leftN (cs : List Cl) (ns : List PySem.Str) : List PySem.Str := (sortS (cs.map Cl.nm)).filter fun x => !decide (x ∈ ns)
def begW (S : List (List Int)) (w : Wk0) (ns : List PySem.Str) : Wk0 := (w.1, lastOf w.2.2.2 w.2.1 ns, endOf S w.2.2.2 w.2.1 w.2.2.1 ns, pick1 w.2.2.2 (leftN w.2.2.2 ns))
theorem leftN_in {cs : List Cl} {ns : List PySem.Str} : ∀ x ∈ leftN cs ns, x ∈ cs.map Cl.nm := fun x hx => sortS_mem.mp (List.mem_filter.mp hx).1
theorem leftN_mem {cs : List Cl} {ns : List PySem.Str} {x : PySem.Str} : x ∈ leftN cs ns ↔ x ∈ cs.map Cl.nm ∧ x ∉ ns := by
  unfold leftN; rw [List.mem_filter, sortS_mem]; simp
theorem leftN_nd {cs : List Cl} (nd : (cs.map Cl.nm).Nodup) (ns : List PySem.Str) : (leftN cs ns).Nodup := (sortS_nd nd).sublist List.filter_sublist
theorem leftN_sorted (cs : List Cl) (ns : List PySem.Str) : sortS (leftN cs ns) = leftN cs ns := by
  unfold leftN; rw [sortS_filter, sortS_idem]
end DL

set_option linter.all false
set_option autoImplicit false
namespace DL
def gtr (x y : Option Int) : Option Int := maxL (x.toList ++ y.toList)
theorem gtr_max (A B : List Int) : gtr (maxL A) (maxL B) = maxL (A ++ B) := by
  unfold gtr
  cases qa : maxL A with
  | none =>
    rw [maxL_none] at qa; subst qa
    cases qb : maxL B with
    | none => rw [maxL_none] at qb; subst qb; rfl
    | some b => obtain ⟨h1, h2⟩ := maxL_spec qb; rw [List.nil_append, qb]; rfl
  | some a =>
    obtain ⟨a1, a2⟩ := maxL_spec qa
    cases qb : maxL B with
    | none => rw [maxL_none] at qb; subst qb; rw [List.append_nil, qa]; rfl
    | some b =>
      obtain ⟨b1, b2⟩ := maxL_spec qb
      refine (maxL_eq ?_ ?_).trans (Eq.symm (maxL_eq (m := if a < b then b else a) ?_ ?_))
      · show (if a < b then b else a) ∈ [a, b]
        split <;> simp
      · intro y hy
        have hy' : y = a ∨ y = b := by simpa using hy
        split <;> rcases hy' with rfl | rfl <;> omega
      · split
        · exact List.mem_append_right _ b1
        · exact List.mem_append_left _ a1
      · intro y hy
        rcases List.mem_append.mp hy with h | h
        · have := a2 y h; split <;> omega
        · have := b2 y h; split <;> omega
theorem keepsB_app (A B : List Int) (bd : Int) : keepsB (maxL (A ++ B)) (some bd) = (keepsB (maxL A) (some bd) && keepsB (maxL B) (some bd)) := by
  rw [Bool.eq_iff_iff, Bool.and_eq_true, keeps_max, keeps_max, keeps_max]
  constructor
  · exact fun h => ⟨fun x hx => h x (List.mem_append_left _ hx), fun x hx => h x (List.mem_append_right _ hx)⟩
  · exact fun h x hx => (List.mem_append.mp hx).elim (h.1 x) (h.2 x)
theorem begW_nm {S : List (List Int)} {w : Wk0} (ns : List PySem.Str) : (begW S w ns).2.2.2.map Cl.nm = leftN w.2.2.2 ns := pick_nm leftN_in
theorem begW_cl {S : List (List Int)} {w : Wk0} (nd : (w.2.2.2.map Cl.nm).Nodup) {ns : List PySem.Str} {x : PySem.Str} (hx : x ∈ leftN w.2.2.2 ns) : clOf (begW S w ns).2.2.2 x = clOf w.2.2.2 x := pick_cl leftN_in (leftN_nd nd ns) hx
theorem leftN_twice {S : List (List Int)} {w : Wk0} (a b : List PySem.Str) : leftN (begW S w a).2.2.2 b = leftN w.2.2.2 (a ++ b) := by
  unfold leftN
  rw [begW_nm, leftN_sorted]
  unfold leftN
  rw [List.filter_filter]
  exact List.filter_congr fun x _ => by rw [Bool.eq_iff_iff]; simp; exact And.comm
theorem gEq_tup2 (a b c d : Int) : gEq (.tup [.int a, .int b]) (.tup [.int c, .int d]) = some (.bl (decide ((a, b) = (c, d)))) := (QE.int.tup2 QE.int).g (QE.int.tup2 QE.int) (by decide) (a, b) (c, d) ⟨trivial, trivial⟩ ⟨trivial, trivial⟩
end DL

set_option linter.all false
set_option autoImplicit false
namespace DL
/-- a comprehension that draws -/
theorem lcL_fst {α : Type} {own : List Nat} {gd : D → Env → Option Env} {tt : BF} {te : EF} (emb : α → D) (P : Env → Prop) : ∀ (xs acc : List α) (δ : Env), acc.length + xs.length ≤ PySem.sizeLine → P δ →
    (∀ a ∈ xs, ∀ δ, P δ → ∃ δ1 b δ2, gd (emb a) δ = some δ1 ∧ tt δ1 = .ok b δ2 ∧ (b = true → ∃ δ3 δ4, eV te δ2 = .ok (.tmp (emb a)) δ3 ∧ wipeE own δ3 = some δ4 ∧ P δ4) ∧ (b = false → ∃ δ4, wipeE own δ2 = some δ4 ∧ P δ4)) →
    ∃ ys δ', lcL own gd tt te (xs.map emb) δ (acc.map emb) = .ok ((acc ++ ys).map emb) δ' ∧ ys.Sublist xs ∧ P δ'
  | [], acc, δ, _, hP, _ => ⟨[], δ, by simp [lcL], .slnil, hP⟩
  | a :: xs, acc, δ, hl, hP, h => by
    obtain ⟨δ1, b, δ2, h1, h2, h3, h4⟩ := h a List.mem_cons_self δ hP
    simp only [List.length_cons] at hl
    cases b with
    | true =>
      obtain ⟨δ3, δ4, g1, g2, g3⟩ := h3 rfl
      obtain ⟨ys, δ', e, s, p⟩ := lcL_fst emb P xs (acc ++ [a]) δ4 (by simp; omega) g3 fun e he => h e (List.mem_cons_of_mem _ he)
      refine ⟨a :: ys, δ', ?_, s.cons_cons a, p⟩
      simp only [List.map_cons, lcL, h1, h2, g1, g2, List.length_map]
      rw [if_pos (by omega)]
      rw [List.map_append, List.map_cons, List.map_nil] at e
      rw [e, List.append_assoc]; rfl
    | false =>
      obtain ⟨δ4, g2, g3⟩ := h4 rfl
      obtain ⟨ys, δ', e, s, p⟩ := lcL_fst emb P xs acc δ4 (by omega) g3 fun e he => h e (List.mem_cons_of_mem _ he)
      refine ⟨ys, δ', ?_, s.cons a, p⟩
      simp only [List.map_cons, lcL, h1, h2, g2]
      exact e
def onlyW (w : Wk0) (ns : List PySem.Str) : Wk0 := (w.1, w.2.1, w.2.2.1, pick1 w.2.2.2 ns)
theorem leftN_flt (cs : List Cl) (x : PySem.Str) : (sortS (cs.map Cl.nm)).filter (fun y => decide (y ≠ x)) = leftN cs [x] := by
  unfold leftN; exact List.filter_congr fun y _ => by simp
end DL

set_option linter.all false
set_option autoImplicit false
namespace DL
open PySem
/-! ### pairs of a number and a text, sorted -/
def leP (p q : Int × Str) : Bool := decide (p.1 < q.1) || (decide (p.1 = q.1) && leS p.2 q.2)
theorem leP_iff {p q : Int × Str} : leP p q = true ↔ p.1 < q.1 ∨ (p.1 = q.1 ∧ leS p.2 q.2 = true) := by
  unfold leP; simp
theorem leP_tot (p q : Int × Str) : (leP p q || leP q p) = true := by
  rw [Bool.or_eq_true, leP_iff, leP_iff]
  have := leS_tot p.2 q.2
  rw [Bool.or_eq_true] at this
  rcases Int.lt_trichotomy p.1 q.1 with h | h | h
  · exact .inl (.inl h)
  · rcases this with z | z
    · exact .inl (.inr ⟨h, z⟩)
    · exact .inr (.inr ⟨h.symm, z⟩)
  · exact .inr (.inl h)
theorem leP_trans (p q r : Int × Str) (h1 : leP p q = true) (h2 : leP q r = true) : leP p r = true := by
  rw [leP_iff] at *
  rcases h1 with h1 | ⟨h1, z1⟩ <;> rcases h2 with h2 | ⟨h2, z2⟩
  · exact .inl (by omega)
  · exact .inl (by omega)
  · exact .inl (by omega)
  · exact .inr ⟨by omega, leS_trans _ _ _ z1 z2⟩
theorem leP_anti {p q : Int × Str} (h1 : leP p q = true) (h2 : leP q p = true) : p = q := by
  rw [leP_iff] at *
  rcases h1 with h1 | ⟨h1, z1⟩ <;> rcases h2 with h2 | ⟨h2, z2⟩
  · omega
  · omega
  · omega
  · exact Prod.ext h1 (leS_anti z1 z2)
def sortP (ps : List (Int × Str)) : List (Int × Str) := ps.mergeSort leP
def sortQ {α : Type} (key : α → Int × Str) (xs : List α) : List α := xs.mergeSort fun a b => leP (key a) (key b)
theorem sortQ_map {α : Type} (key : α → Int × Str) (xs : List α) : (sortQ key xs).map key = sortP (xs.map key) :=
  List.map_mergeSort (fun a _ b _ => rfl)
theorem sortQ_perm {α : Type} (key : α → Int × Str) (xs : List α) : (sortQ key xs).Perm xs := List.mergeSort_perm _ _
theorem sortP_perm (xs : List (Int × Str)) : (sortP xs).Perm xs := List.mergeSort_perm _ _
theorem sortP_pw (xs : List (Int × Str)) : (sortP xs).Pairwise fun x y => leP x y = true := List.pairwise_mergeSort (fun a b c => leP_trans a b c) (fun a b => leP_tot a b) xs
theorem sortQ_pw {α : Type} (key : α → Int × Str) (xs : List α) : (sortQ key xs).Pairwise fun x y => leP (key x) (key y) = true := List.pairwise_mergeSort (fun a b c => leP_trans (key a) (key b) (key c)) (fun a b => leP_tot (key a) (key b)) xs
theorem sortP_uniq {ks ys : List (Int × Str)} (hp : ys.Perm ks) (hs : ys.Pairwise fun x y => leP x y = true) : ys = sortP ks :=
  List.Perm.eq_of_pairwise (fun a b _ _ x y => leP_anti x y) hs (sortP_pw ks) (hp.trans (sortP_perm ks).symm)
theorem sortP_congr {ks ys : List (Int × Str)} (hp : ys.Perm ks) : sortP ys = sortP ks := sortP_uniq ((sortP_perm ys).trans hp) (sortP_pw ys)
theorem sortQ_len {α : Type} (key : α → Int × Str) (xs : List α) : (sortQ key xs).length = xs.length := (sortQ_perm key xs).length_eq
/-! ### as data -/
def pIS (p : Int × Str) : D := .tup [.int p.1, .str p.2]
def kIS (p : Int × Str) : PyData := .tuple [.int p.1, .str p.2]
theorem ltPy_P (p q : Int × Str) : (!ltPy (kIS q) (kIS p)) = leP p q := by
  unfold ltPy kIS
  rw [PySem.W.dataLt_pair (by simp [PySem.W.alike]) (by simp [PySem.W.alike]), PySem.W.dataLt_int, PySem.W.dataLt_str]
  simp only [PyData.eqv, beq_iff_eq]
  have hs : leS p.2 q.2 = !decide (q.2.cps.toList < p.2.cps.toList) := by unfold leS; rw [PyProof.Rows.ltCps_eq]
  unfold leP
  rw [hs]
  by_cases h1 : q.1 = p.1
  · rw [if_pos h1, decide_eq_false (show ¬ p.1 < q.1 by omega), decide_eq_true h1.symm]
    by_cases h2 : q.2 = p.2
    · rw [if_pos h2, h2, decide_eq_false (List.lt_irrefl _)]; rfl
    · rw [if_neg h2]; simp
  · rw [if_neg h1, decide_eq_false (show ¬ p.1 = q.1 by omega)]
    by_cases h3 : q.1 < p.1
    · rw [decide_eq_true h3, decide_eq_false (by omega)]; rfl
    · rw [decide_eq_false h3, decide_eq_true (by omega)]; rfl
theorem toPy_P (p : Int × Str) : toPy (pIS p) = some (kIS p) := rfl
theorem toPys_P : ∀ ps : List (Int × Str), toPys (ps.map pIS) = some (ps.map kIS)
  | [] => rfl
  | p :: ps => by simp only [List.map_cons, toPys, toPy_P, toPys_P ps]
theorem canSort_P (ps : List (Int × Str)) : canSort (ps.map kIS) = true := by
  unfold canSort allAlike
  simp only [Bool.and_eq_true, Bool.or_eq_true, List.all_eq_true, decide_eq_true_eq, List.mem_map]
  refine ⟨?_, .inl ?_, ?_⟩
  · rintro _ ⟨p, _, rfl⟩ _ ⟨q, _, rfl⟩; simp [kIS, PySem.W.alike, PySem.W.alikeAll]
  · rintro _ ⟨p, _, rfl⟩; rfl
  · rintro _ ⟨p, _, rfl⟩
    show PyData.depth (.tuple [.int p.1, .str p.2]) ≤ 8
    simp [PyData.depth, PyData.depthAll]
theorem sortBy_P {α : Type} (key : α → Int × Str) (emb : α → D) (xs : List α) : sortBy (xs.map fun x => kIS (key x)) (xs.map emb) = (sortQ key xs).map emb := by
  unfold sortBy sortQ
  have e : ∀ xs : List α, (xs.map fun x => kIS (key x)).zip (xs.map emb) = xs.map fun x => (kIS (key x), emb x) := fun xs => by
    induction xs with
    | nil => rfl
    | cons x xs ih => simp only [List.map_cons, List.zip_cons_cons, ih]
  rw [e, ← List.map_mergeSort (r := fun a b => leP (key a) (key b)) (s := fun p q : PyData × D => !ltPy q.1 p.1) (f := fun x => (kIS (key x), emb x)) (fun a _ b _ => (ltPy_P (key a) (key b)).symm), List.map_map]
  rfl
theorem sortK_P {α : Type} (key : α → Int × Str) (emb : α → D) (xs : List α) (hl : xs.length ≤ sizeLine) : sortK (xs.map fun x => pIS (key x)) (xs.map emb) = some (.lst true ((sortQ key xs).map emb)) := by
  have h := toPys_P (xs.map key)
  rw [List.map_map, List.map_map] at h
  unfold sortK
  rw [show (xs.map fun x => pIS (key x)) = xs.map (pIS ∘ key) from rfl, h]
  simp only
  have hc := canSort_P (xs.map key)
  rw [List.map_map] at hc
  rw [if_pos ⟨hc, by simpa using hl⟩]
  rw [show xs.map (kIS ∘ key) = xs.map fun x => kIS (key x) from rfl, sortBy_P]
theorem ices_pP : ∀ ps : List (Int × Str), ices (ps.map pIS) = true
  | [] => rfl
  | p :: ps => by simp only [List.map_cons, ices, ices_pP ps]; rfl
theorem gSortX_P (o : Bool) (ps : List (Int × Str)) (hl : ps.length ≤ sizeLine) : gSortX (.lst o (ps.map pIS)) = some (.lst true ((sortP ps).map pIS)) := by
  cases ps with
  | nil =>
    have e : sortP [] = [] := by unfold sortP; exact List.mergeSort_nil
    have e2 : sortS [] = [] := by unfold sortS; exact List.mergeSort_nil
    have e3 : gSortL (.lst o []) = some (.lst true []) := by
      unfold gSortL; simp [strsD, e2]
    unfold gSortX
    simp only [List.map_nil, e3, e]
  | cons p ps =>
    have e : gSortL (.lst o ((p :: ps).map pIS)) = none := rfl
    unfold gSortX
    simp only [e]
    rw [if_pos (ices_pP _)]
    exact sortK_P (fun p => p) pIS (p :: ps) hl
theorem keysL_of {α : Type} {kf : EF} {i : Nat} {δ : Env} (emb key : α → D) : ∀ xs : List α, (∀ x ∈ xs, keyAt kf i δ (emb x) = some (key x)) → keysL kf i δ (xs.map emb) = some (xs.map key)
  | [], _ => rfl
  | x :: xs, h => by
    simp only [List.map_cons, keysL, h x List.mem_cons_self, keysL_of emb key xs fun y hy => h y (List.mem_cons_of_mem _ hy)]
theorem eSortKey_P {α : Type} {fe kf : EF} {i : Nat} {δ δ1 : Env} {o : Opd} {b : Bool} (key : α → Int × Str) (emb : α → D) (xs : List α) (h : fe δ = .ok o δ1) (hr : rdO o δ1 = some (.lst b (xs.map emb))) (hi : ices (xs.map emb) = true) (hl : xs.length ≤ sizeLine)
    (hk : ∀ x ∈ xs, keyAt kf i δ1 (emb x) = some (pIS (key x))) : eSortKey fe kf i δ = .ok (.tmp (.lst true ((sortQ key xs).map emb))) δ1 := by
  unfold eSortKey
  rw [h]
  simp only [R.bind, hr]
  rw [if_pos hi, keysL_of emb (fun x => pIS (key x)) xs hk]
  simp only
  rw [sortK_P key emb xs hl]
end DL

set_option linter.all false
set_option autoImplicit false
namespace DL
open PySem
/-! ### a dict of pairs -/
theorem pairsD_of {α : Type} (k : α → Str) (v : α → D) : ∀ xs : List α, pairsD (xs.map fun x => .tup [.str (k x), v x]) = some (xs.map fun x => (KD.s (k x), v x))
  | [] => rfl
  | x :: xs => by simp only [List.map_cons, pairsD, keyD, pairsD_of k v xs]; rfl
theorem mergeD_nd {α : Type} (k : α → Str) (v : α → D) : ∀ (xs dn : List α), ((dn ++ xs).map k).Nodup → mergeD (dn.map fun x => (KD.s (k x), v x)) (xs.map fun x => (KD.s (k x), v x)) = (dn ++ xs).map fun x => (KD.s (k x), v x)
  | [], dn, _ => by rw [List.append_nil]; rfl
  | x :: xs, dn, h => by
    have hx : k x ∉ dn.map k := fun z => by
      rw [List.map_append, List.map_cons] at h
      exact (List.nodup_append.mp h).2.2 _ z _ List.mem_cons_self rfl
    have e : putD (dn.map fun x => (KD.s (k x), v x)) (KD.s (k x)) (v x) = (dn ++ [x]).map fun x => (KD.s (k x), v x) := by
      unfold putD
      have e2 : (dn.map fun x => (KD.s (k x), v x)).map (·.1) = (dn.map k).map .s := by rw [List.map_map, List.map_map]; rfl
      rw [e2, ixK_none hx]
      simp
    have ih := mergeD_nd k v xs (dn ++ [x]) (by simpa using h)
    unfold mergeD at ih ⊢
    rw [List.map_cons, List.foldl_cons]
    simp only
    rw [e, ih, List.append_assoc]; rfl
theorem gDictP_of {α : Type} (o : Bool) (k : α → Str) (v : α → D) (xs : List α) (nd : (xs.map k).Nodup) (hi : ∀ x ∈ xs, ice (v x) = true) : gDictP (.lst o (xs.map fun x => .tup [.str (k x), v x])) = some (.dic true ((xs.map k).map .s) (xs.map v)) := by
  have hic : ∀ xs : List α, (∀ x ∈ xs, ice (v x) = true) → ices (xs.map fun x => D.tup [.str (k x), v x]) = true := fun xs => by
    induction xs with
    | nil => exact fun _ => rfl
    | cons x xs ih => exact fun h => by simp [ices, ice, h x List.mem_cons_self, ih fun y hy => h y (List.mem_cons_of_mem _ hy)]
  unfold gDictP
  simp only
  rw [if_pos (hic xs hi), pairsD_of k v xs]
  simp only
  have := mergeD_nd k v xs [] (by simpa using nd)
  rw [List.map_nil, List.nil_append] at this
  rw [this]
  simp [Function.comp_def]
/-! ### the place of a text -/
theorem gIndexL_strs (o : Bool) (ns : List Str) (h : ∀ x ∈ ns, SOk x) (x : Str) (hx : x ∈ ns) : gIndexL [.lst o (ns.map .str), .str x] = some (.int (ns.idxOf x)) := by
  have hp := QE.str.pys ns
  have sh : SeqAt.shaped (.list (ns.map PyData.str)) = true := by
    have h1 := QE.str.lays ns h
    have h2 := QE.str.deps ns
    simp [SeqAt.shaped, PyData.canLay0, h1, PyData.depth]; omega
  have sx : SeqAt.shaped (.str x) = true := by
    have := h x hx
    simp [SeqAt.shaped, PyData.depth]; exact this
  have hf : (ns.map PyData.str).findIdx? (fun w => PyData.eqv w (.str x)) = some (ns.idxOf x) := by
    rw [List.findIdx?_map]
    have : (fun w => PyData.eqv w (.str x)) ∘ PyData.str = fun y => y == x := by
      funext y; simp only [Function.comp, PyData.eqv]
    rw [this]
    rw [List.idxOf, List.findIdx?_eq_some_iff_findIdx_eq]
    have : ns.idxOf x < ns.length := List.idxOf_lt_length_iff.mpr hx
    rw [List.idxOf] at this
    exact ⟨this, rfl⟩
  unfold gIndexL
  simp only [hp, toPy]
  rw [if_pos ⟨sh, sx⟩, hf]
/-! ### pairs side by side -/
theorem zip_pw {α : Type} {R : α → α → Prop} (tr : ∀ a b c, R a b → R b c → R a c) : ∀ L : List α, (∀ p ∈ L.zip (L.drop 1), R p.1 p.2) ↔ L.Pairwise R
  | [] => by simp
  | [a] => by simp
  | a :: b :: t => by
    have ih := zip_pw tr (b :: t)
    have e : (a :: b :: t).zip ((a :: b :: t).drop 1) = (a, b) :: (b :: t).zip ((b :: t).drop 1) := rfl
    rw [e]
    constructor
    · intro h
      have h1 := h (a, b) List.mem_cons_self
      have h2 := ih.mp fun p hp => h p (List.mem_cons_of_mem _ hp)
      refine List.pairwise_cons.mpr ⟨fun x hx => ?_, h2⟩
      rcases List.mem_cons.mp hx with rfl | hx
      · exact h1
      · exact tr _ _ _ h1 ((List.pairwise_cons.mp h2).1 x hx)
    · intro h p hp
      have h' := List.pairwise_cons.mp h
      rcases List.mem_cons.mp hp with rfl | hp
      · exact h'.1 b List.mem_cons_self
      · exact ih.mpr h'.2 p hp
theorem range_pw {S : Nat → Nat → Prop} (n : Nat) : (List.range n).Pairwise S ↔ ∀ i j, i < j → j < n → S i j := by
  rw [List.pairwise_iff_getElem]
  constructor
  · intro h i j hij hj
    have := h i j (by simp; omega) (by simpa using hj) hij
    simpa using this
  · intro h i j hi hj hij
    simp at hi hj
    simpa using h i j hij hj
/-- the places where P holds -/
def plcs (P : Nat → Bool) (n : Nat) : List Nat := (List.range n).filter P
theorem plcs_pw {R : Nat → Nat → Prop} (P : Nat → Bool) (n : Nat) (tr : ∀ a b c, a ∈ plcs P n → b ∈ plcs P n → c ∈ plcs P n → R a b → R b c → R a c) :
    (∀ p ∈ (plcs P n).zip ((plcs P n).drop 1), R p.1 p.2) ↔ ∀ i j, i < j → j < n → P i = true → P j = true → R i j := by
  have : (∀ p ∈ (plcs P n).zip ((plcs P n).drop 1), R p.1 p.2) ↔ (plcs P n).Pairwise R := by
    have gen : ∀ L : List Nat, (∀ x ∈ L, x ∈ plcs P n) → ((∀ p ∈ L.zip (L.drop 1), R p.1 p.2) ↔ L.Pairwise R) := fun L => by
      induction L with
      | nil => simp
      | cons a L ih =>
        cases L with
        | nil => simp
        | cons b t =>
          intro hL
          have ih := ih fun x hx => hL x (List.mem_cons_of_mem _ hx)
          have e : (a :: b :: t).zip ((a :: b :: t).drop 1) = (a, b) :: (b :: t).zip ((b :: t).drop 1) := rfl
          rw [e]
          constructor
          · intro h
            have h1 := h (a, b) List.mem_cons_self
            have h2 := ih.mp fun p hp => h p (List.mem_cons_of_mem _ hp)
            refine List.pairwise_cons.mpr ⟨fun x hx => ?_, h2⟩
            rcases List.mem_cons.mp hx with rfl | hx
            · exact h1
            · exact tr _ _ _ (hL _ List.mem_cons_self) (hL _ (List.mem_cons_of_mem _ List.mem_cons_self)) (hL _ (List.mem_cons_of_mem _ (List.mem_cons_of_mem _ hx))) h1 ((List.pairwise_cons.mp h2).1 x hx)
          · intro h p hp
            have h' := List.pairwise_cons.mp h
            rcases List.mem_cons.mp hp with rfl | hp
            · exact h'.1 b List.mem_cons_self
            · exact ih.mpr h'.2 p hp
    exact gen _ fun x hx => hx
  rw [this]
  unfold plcs
  rw [List.pairwise_filter, range_pw]
/-- in a row sorted by keys the places stand as the keys -/
theorem idx_le {row : List Str} (nd : row.Nodup) {R : Str → Str → Prop} (h : row.Pairwise R) (hr : ∀ a ∈ row, R a a) (anti : ∀ a b, a ∈ row → b ∈ row → R a b → R b a → a = b) {x y : Str} (hx : x ∈ row) (hy : y ∈ row) : row.idxOf x ≤ row.idxOf y ↔ R x y := by
  have lx := List.idxOf_lt_length_iff.mpr hx
  have ly := List.idxOf_lt_length_iff.mpr hy
  have ex : row[row.idxOf x] = x := List.getElem_idxOf lx
  have ey : row[row.idxOf y] = y := List.getElem_idxOf ly
  have pw := List.pairwise_iff_getElem.mp h
  constructor
  · intro hle
    rcases Nat.lt_or_eq_of_le hle with q | q
    · have := pw _ _ lx ly q
      rwa [ex, ey] at this
    · have : x = y := by
        have h1 : row[row.idxOf x] = row[row.idxOf y] := by simp only [q]
        rw [ex, ey] at h1; exact h1
      rw [this]; exact hr y hy
  · intro hxy
    rcases Nat.lt_or_ge (row.idxOf y) (row.idxOf x) with q | q
    · have := pw _ _ ly lx q
      rw [ex, ey] at this
      rw [anti x y hx hy hxy this]
      exact Nat.le_refl _
    · exact q
/-! ### loops that may end -/
theorem forL_any {gd : D → Env → Option Env} {bf : SF} (J : Env → Prop) (T : Nat → Bool) (Rr : D → Prop) : ∀ (ds : List D) (i : Nat) (δ : Env), J δ →
    (∀ (k : Nat) d δ, ds[k]? = some d → J δ → ∃ δ1, gd d δ = some δ1 ∧ (T (i + k) = true → ∃ r δ2, bf δ1 = .rt r δ2 ∧ Rr r ∧ J δ2) ∧ (T (i + k) = false → ∃ δ2, bf δ1 = .nx δ2 ∧ J δ2)) →
    (((∃ k, k < ds.length ∧ T (i + k) = true) ∧ ∃ r δ', forL gd bf ds δ = .rt r δ' ∧ Rr r ∧ J δ') ∨ ((∀ k, k < ds.length → T (i + k) = false) ∧ ∃ δ', forL gd bf ds δ = .nx δ' ∧ J δ'))
  | [], i, δ, h, _ => .inr ⟨fun k hk => by simp at hk, δ, rfl, h⟩
  | d :: ds, i, δ, h, hs => by
    obtain ⟨δ1, h1, h2, h3⟩ := hs 0 d δ (by simp) h
    cases q : T (i + 0) with
    | true =>
      obtain ⟨r, δ2, e, hr, hj⟩ := h2 q
      exact .inl ⟨⟨0, by simp, q⟩, r, δ2, by simp only [forL, h1, e], hr, hj⟩
    | false =>
      obtain ⟨δ2, e, hj⟩ := h3 q
      rcases forL_any J T Rr ds (i + 1) δ2 hj (fun k d' δ' hd hp => by
        have := hs (k + 1) d' δ' (by simpa using hd) hp
        rwa [show i + (k + 1) = i + 1 + k by omega] at this) with ⟨⟨k, hk, hk2⟩, r, δ', e2, hr, hj2⟩ | ⟨h4, δ', e2, hj2⟩
      · exact .inl ⟨⟨k + 1, by simp; omega, by rw [show i + (k + 1) = i + 1 + k by omega]; exact hk2⟩, r, δ', by simp only [forL, h1, e]; exact e2, hr, hj2⟩
      · refine .inr ⟨fun k hk => ?_, δ', by simp only [forL, h1, e]; exact e2, hj2⟩
        cases k with
        | zero => exact q
        | succ k => rw [show i + (k + 1) = i + 1 + k by omega]; exact h4 k (by simpa using hk)
theorem gLtX_IS (p q : Int × Str) : gLtX (pIS p) (pIS q) = some (.bl (!leP q p)) := by
  unfold gLtX gOrd
  simp only [toPy_P]
  have c : PySem.W.alike (kIS p) (kIS q) = true ∧ isNon (kIS p) = false ∧ (kIS p).depth ≤ 8 := by
    refine ⟨by simp [kIS, PySem.W.alike, PySem.W.alikeAll], rfl, by simp [kIS, PyData.depth, PyData.depthAll]⟩
  rw [if_pos c]
  have := ltPy_P q p
  rw [← this]
  simp
end DL

set_option Elab.async false
set_option linter.all false
set_option maxRecDepth 100000
namespace Rw
open PySem PySem.Spec L2 DL
open PyProof.Rows hiding St
set_option maxRecDepth 100000
set_option maxHeartbeats 0

def top (i : Nat) : Stmt := PySem.Challenge.pw_rinsework_k03_least_rinses.main.body.getD i (.Pass ⟨0, 0, 0, 0⟩)
def fn : List He.DefD := [
  ⟨("is_whole", none), "is_whole", "is_whole", defArgs (top 4), defBody (top 4), defScope (top 4), [], []⟩,
  ⟨("look_at_rinses", none), "look_at_rinses", "look_at_rinses", defArgs (top 7), defBody (top 7), defScope (top 7), [], []⟩,
  ⟨("sums_and_ways", none), "sums_and_ways", "sums_and_ways", defArgs (top 8), defBody (top 8), defScope (top 8), [], []⟩,
  ⟨("least_rinses", none), "least_rinses", "least_rinses", defArgs (top 9), defBody (top 9), defScope (top 9), [], []⟩,
  ⟨("_law_mixed", none), "_law_mixed", "_law_mixed", defArgs (top 11), defBody (top 11), defScope (top 11), [], []⟩,
  ⟨("_law_stream", none), "_law_stream", "_law_stream", defArgs (top 12), defBody (top 12), defScope (top 12), [], []⟩,
  ⟨("_law_take", none), "_law_take", "_law_take", defArgs (top 13), defBody (top 13), defScope (top 13), [], []⟩,
  ⟨("_law_rinse", none), "_law_rinse", "_law_rinse", defArgs (top 14), defBody (top 14), defScope (top 14), [], []⟩,
  ⟨("_law_rinses", none), "_law_rinses", "_law_rinses", defArgs (top 15), defBody (top 15), defScope (top 15), [], []⟩,
  ⟨("_law_whole", none), "_law_whole", "_law_whole", defArgs (top 16), defBody (top 16), defScope (top 16), [], []⟩,
  ⟨("_law_best", none), "_law_best", "_law_best", defArgs (top 17), defBody (top 17), defScope (top 17), [], []⟩,
  ⟨("_law_right", none), "_law_right", "_law_right", defArgs (top 18), defBody (top 18), defScope (top 18), [], []⟩,
  ⟨("law", none), "law", "law", defArgs (top 19), defBody (top 19), defScope (top 19), [], []⟩]
abbrev N_is_whole : List Str := ["thing"]
noncomputable def b_is_whole : SF := (sRet (eAnd (eRd (g2L gIsi) (eCons (eN 0) (eCons (eC (.ty "int")) eNil))) (eNot (eRd (g2L gIsi) (eCons (eN 0) (eCons (eC (.ty "bool")) eNil))))))
noncomputable def d_is_whole : DFn := mkFn 1 b_is_whole
abbrev N_look_at_rinses : List Str := ["rinses", "many", "row", "number"]
noncomputable def fb1_look_at_rinses : SF := (sIf (bOr (bNot (bT (eCall d_is_whole [] (eCons (eN 3) eNil)))) (bB (eOp2 gLt (eN 3) (eC (.int 0))))) (sRaise (.exn "NoRinses" [] [])) sNil)
noncomputable def f1_look_at_rinses : SF := sFor (iSeq false (eN 2)) (setN 3) fb1_look_at_rinses
noncomputable def fb2_look_at_rinses : SF := (sSeq (sIf (bB (eOp2 gNe (eRd (g1L gLen) (eCons (eN 2) eNil)) (eN 1))) (sRaise (.exn "NoRinses" [] [])) sNil)
    f1_look_at_rinses)
noncomputable def f2_look_at_rinses : SF := sFor (iSeq false (eN 0)) (setN 2) fb2_look_at_rinses
noncomputable def b_look_at_rinses : SF := (sSeq (sSet 1 (eOp2 gSub (eRd (g1L gLen) (eCons (eN 0) eNil)) (eC (.int 1))))
    (sSeq (sIf (bNot (bB (eChain gLe gLe (eC (.int 1)) (eN 1) (eC (.int 4))))) (sRaise (.exn "NoRinses" [] [])) sNil)
    f2_look_at_rinses))
noncomputable def d_look_at_rinses : DFn := mkFn 4 b_look_at_rinses
abbrev N_sums_and_ways : List Str := ["rinses", "sums", "ways", "amid", "first", "last", "found", "row", "hue"]
noncomputable def fb1_sums_and_ways : SF := (sSeq (sSet 6 (eOp2 gAdd (eIx (eIx (eN 1) (eN 4)) (eN 3)) (eIx (eIx (eN 1) (eN 3)) (eN 5))))
    (sIf (bB (eOp2 gLt (eN 6) (eIx (eIx (eN 1) (eN 4)) (eN 5)))) (sSeq (sSub (eN 6) (eIx (eN 1) (eN 4)) (eN 5))
    (sSub (eOp2 gAdd (eIx (eIx (eN 2) (eN 4)) (eN 3)) (eIx (eIx (eN 2) (eN 3)) (eN 5))) (eIx (eN 2) (eN 4)) (eN 5))) sNil))
noncomputable def f1_sums_and_ways : SF := sFor (iRng1 (eCons (eOp2 gSub (eRd (g1L gLen) (eCons (eN 0) eNil)) (eC (.int 1))) eNil)) (setN 5) fb1_sums_and_ways
noncomputable def fb2_sums_and_ways : SF := f1_sums_and_ways
noncomputable def f2_sums_and_ways : SF := sFor (iRng1 (eCons (eRd (g1L gLen) (eCons (eN 0) eNil)) eNil)) (setN 4) fb2_sums_and_ways
noncomputable def fb3_sums_and_ways : SF := f2_sums_and_ways
noncomputable def f3_sums_and_ways : SF := sFor (iRng1 (eCons (eOp2 gSub (eRd (g1L gLen) (eCons (eN 0) eNil)) (eC (.int 1))) eNil)) (setN 3) fb3_sums_and_ways
noncomputable def ce1_sums_and_ways : EF := (eMk mkLst (eCons (eV (eN 8)) eNil))
noncomputable def c1_sums_and_ways : EF := eLc [8] (iRng1 (eCons (eRd (g1L gLen) (eCons (eN 7) eNil)) eNil)) (setN 8) bYes ce1_sums_and_ways
noncomputable def ce2_sums_and_ways : EF := c1_sums_and_ways
noncomputable def c2_sums_and_ways : EF := eLc [7] (iSeq false (eN 0)) (setN 7) bYes ce2_sums_and_ways
noncomputable def ce3_sums_and_ways : EF := (eRd (g1L gListOf) (eCons (eN 7) eNil))
noncomputable def c3_sums_and_ways : EF := eLc [7] (iSeq false (eN 0)) (setN 7) bYes ce3_sums_and_ways
noncomputable def b_sums_and_ways : SF := (sSeq (sX (eCall d_look_at_rinses [] (eCons (eN 0) eNil)))
    (sSeq (sSet 1 c3_sums_and_ways)
    (sSeq (sSet 2 c2_sums_and_ways)
    (sSeq f3_sums_and_ways
    (sRet (eMk mkTup (eCons (eV (eMv 1)) (eCons (eV (eMv 2)) eNil))))))))
noncomputable def d_sums_and_ways : DFn := mkFn 9 b_sums_and_ways
abbrev N_least_rinses : List Str := ["rinses"]
noncomputable def b_least_rinses : SF := (sRet (eIx (eCall d_sums_and_ways [] (eCons (eN 0) eNil)) (eC (.int 0))))
noncomputable def d_least_rinses : DFn := mkFn 1 b_least_rinses
abbrev N_l_mixed : List Str := ["cell", "k", "one"]
noncomputable def b_l_mixed : SF := (sSeq (sSet 2 (eOp2 gMod (eOp2 gMul (eOp2 gAdd (eOp2 gAdd (eOp2 gMod (eN 0) (eC (.int 1000000007))) (eOp2 gMul (eC (.int 7919)) (eN 1))) (eC (.int 101))) (eC (.int 48271))) (eC (.int 2147483647))))
    (sRet (eOp2 gMod (eOp2 gMul (eOp2 gMod (eOp2 gMul (eN 2) (eN 2)) (eC (.int 2147483629))) (eC (.int 69621))) (eC (.int 2147483647)))))
noncomputable def d_l_mixed : DFn := mkFn 3 b_l_mixed
abbrev N_l_stream : List Str := ["script", "k", "cell", "j", "found", "one"]
noncomputable def fb1_l_stream : SF := (sSet 4 (eOp2 gAdd (eOp2 gMul (eN 4) (eC (.int 2147483647))) (eCall d_l_mixed [] (eCons (eOp2 gAdd (eOp2 gAdd (eN 2) (eOp2 gMul (eC (.int 1009)) (eN 1))) (eRd (g1L gLen) (eCons (eN 0) eNil))) (eCons (eN 3) eNil)))))
noncomputable def f1_l_stream : SF := sFor (iRng1 (eCons (eC (.int 12)) eNil)) (setN 3) fb1_l_stream
noncomputable def ce1_l_stream : EF := (eOp2 gMod (eN 5) (eOp2 gPow (eC (.int 10)) (eC (.int 18))))
noncomputable def c1_l_stream : EF := eLc [5] (iSeq false (eN 0)) (setN 5) bYes ce1_l_stream
noncomputable def fb2_l_stream : SF := (sSet 2 (eOp2 gAdd (eOp2 gMul (eN 2) (eOp2 gMul (eOp2 gPow (eC (.int 10)) (eC (.int 60))) (eOp2 gPow (eC (.int 10)) (eC (.int 60))))) (eOp2 gMod (eIx (eN 0) (eN 3)) (eOp2 gMul (eOp2 gPow (eC (.int 10)) (eC (.int 60))) (eOp2 gPow (eC (.int 10)) (eC (.int 60)))))))
noncomputable def f2_l_stream : SF := sFor (iRng3 (eCons (eN 1) (eCons (eRd (g1L gLen) (eCons (eN 0) eNil)) (eCons (eC (.int 12)) eNil)))) (setN 3) fb2_l_stream
noncomputable def b_l_stream : SF := (sSeq (sSet 2 (eC (.int 0)))
    (sSeq f2_l_stream
    (sSeq (sIf (bB (eOp2 gGe (eN 2) (eOp2 gPow (eC (.int 10)) (eC (.int 18))))) (sRet (eMk mkLst (eCons (eV (eMv 2)) eNil))) sNil)
    (sSeq (sSet 2 (eOp2 gAdd (eN 2) (eRd (g1L gSum) (eCons c1_l_stream eNil))))
    (sSeq (sSet 4 (eC (.int 0)))
    (sSeq f1_l_stream
    (sRet (eMk mkLst (eCons (eV (eMv 4)) eNil)))))))))
noncomputable def d_l_stream : DFn := mkFn 6 b_l_stream
abbrev N_l_take : List Str := ["stream", "many", "digit"]
noncomputable def b_l_take : SF := (sSeq (sSet 2 (eOp2 gMod (eIx (eN 0) (eC (.int 0))) (eN 1)))
    (sSeq (sSub (eOp2 gFdiv (eIx (eN 0) (eC (.int 0))) (eN 1)) (eN 0) (eC (.int 0)))
    (sRet (eMv 2))))
noncomputable def d_l_take : DFn := mkFn 3 b_l_take
abbrev N_l_rinse : List Str := ["stream", "kind"]
noncomputable def b_l_rinse : SF := (sSeq (sSet 1 (eCall d_l_take [] (eCons (eN 0) (eCons (eC (.int 5)) eNil))))
    (sSeq (sIf (bB (eOp2 gLt (eN 1) (eC (.int 4)))) (sRet (eCall d_l_take [] (eCons (eN 0) (eCons (eIx (eMk mkLst (eCons (eC (.int 1)) (eCons (eC (.int 4)) (eCons (eC (.int 10)) (eCons (eC (.int 1000)) eNil))))) (eN 1)) eNil)))) sNil)
    (sRet (eCall d_l_take [] (eCons (eN 0) (eCons (eOp2 gPow (eC (.int 10)) (eC (.int 30))) eNil))))))
noncomputable def d_l_rinse : DFn := mkFn 2 b_l_rinse
abbrev N_l_rinses : List Str := ["stream", "hues", "j", "k"]
noncomputable def ce1_l_rinses : EF := (eCall d_l_rinse [] (eCons (eN 0) eNil))
noncomputable def c1_l_rinses : EF := eLc [3] (iRng1 (eCons (eN 1) eNil)) (setN 3) bYes ce1_l_rinses
noncomputable def ce2_l_rinses : EF := c1_l_rinses
noncomputable def c2_l_rinses : EF := eLc [2] (iRng1 (eCons (eOp2 gAdd (eN 1) (eC (.int 1))) eNil)) (setN 2) bYes ce2_l_rinses
noncomputable def b_l_rinses : SF := (sRet c2_l_rinses)
noncomputable def d_l_rinses : DFn := mkFn 4 b_l_rinses
abbrev N_l_whole : List Str := ["found"]
noncomputable def b_l_whole : SF := (sRet (eAnd (eRd (g2L gIsi) (eCons (eN 0) (eCons (eC (.ty "int")) eNil))) (eNot (eRd (g2L gIsi) (eCons (eN 0) (eCons (eC (.ty "bool")) eNil))))))
noncomputable def d_l_whole : DFn := mkFn 1 b_l_whole
abbrev N_l_bestr0 : List Str := ["rinses", "here", "last", "left", "best", "amid", "rest", "hue"]
noncomputable def fb1_l_bestr0 : SF := (sSeq sStk
    (sSet 4 (eRd (g2L gMin2) (eCons (eN 4) (eCons (eOp2 gAdd (eIx (eIx (eN 0) (eN 1)) (eN 5)) (eN 6)) eNil)))))
noncomputable def f1_l_bestr0 : SF := sFor (iSeq false (eN 3)) (setN 5) fb1_l_bestr0
noncomputable def b_l_bestr0 : SF := (sSeq (sSet 4 (eIx (eIx (eN 0) (eN 1)) (eN 2)))
    (sSeq f1_l_bestr0
    (sRet (eMv 4))))
noncomputable def d_l_bestr0 : DFn := mkFn 8 b_l_bestr0
abbrev N_l_bestr1 : List Str := ["rinses", "here", "last", "left", "best", "amid", "rest", "hue"]
noncomputable def ce1_l_bestr1 : EF := (eN 7)
noncomputable def ct1_l_bestr1 : BF := (bB (eOp2 gNe (eN 7) (eN 5)))
noncomputable def c1_l_bestr1 : EF := eLc [7] (iSeq false (eN 3)) (setN 7) ct1_l_bestr1 ce1_l_bestr1
noncomputable def fb1_l_bestr1 : SF := (sSeq (sSet 6 (eCall d_l_bestr0 [] (eCons (eN 0) (eCons (eN 5) (eCons (eN 2) (eCons c1_l_bestr1 eNil))))))
    (sSet 4 (eRd (g2L gMin2) (eCons (eN 4) (eCons (eOp2 gAdd (eIx (eIx (eN 0) (eN 1)) (eN 5)) (eN 6)) eNil)))))
noncomputable def f1_l_bestr1 : SF := sFor (iSeq false (eN 3)) (setN 5) fb1_l_bestr1
noncomputable def b_l_bestr1 : SF := (sSeq (sSet 4 (eIx (eIx (eN 0) (eN 1)) (eN 2)))
    (sSeq f1_l_bestr1
    (sRet (eMv 4))))
noncomputable def d_l_bestr1 : DFn := mkFn 8 b_l_bestr1
abbrev N_l_bestr2 : List Str := ["rinses", "here", "last", "left", "best", "amid", "rest", "hue"]
noncomputable def ce1_l_bestr2 : EF := (eN 7)
noncomputable def ct1_l_bestr2 : BF := (bB (eOp2 gNe (eN 7) (eN 5)))
noncomputable def c1_l_bestr2 : EF := eLc [7] (iSeq false (eN 3)) (setN 7) ct1_l_bestr2 ce1_l_bestr2
noncomputable def fb1_l_bestr2 : SF := (sSeq (sSet 6 (eCall d_l_bestr1 [] (eCons (eN 0) (eCons (eN 5) (eCons (eN 2) (eCons c1_l_bestr2 eNil))))))
    (sSet 4 (eRd (g2L gMin2) (eCons (eN 4) (eCons (eOp2 gAdd (eIx (eIx (eN 0) (eN 1)) (eN 5)) (eN 6)) eNil)))))
noncomputable def f1_l_bestr2 : SF := sFor (iSeq false (eN 3)) (setN 5) fb1_l_bestr2
noncomputable def b_l_bestr2 : SF := (sSeq (sSet 4 (eIx (eIx (eN 0) (eN 1)) (eN 2)))
    (sSeq f1_l_bestr2
    (sRet (eMv 4))))
noncomputable def d_l_bestr2 : DFn := mkFn 8 b_l_bestr2
abbrev N_l_bestr3 : List Str := ["rinses", "here", "last", "left", "best", "amid", "rest", "hue"]
noncomputable def ce1_l_bestr3 : EF := (eN 7)
noncomputable def ct1_l_bestr3 : BF := (bB (eOp2 gNe (eN 7) (eN 5)))
noncomputable def c1_l_bestr3 : EF := eLc [7] (iSeq false (eN 3)) (setN 7) ct1_l_bestr3 ce1_l_bestr3
noncomputable def fb1_l_bestr3 : SF := (sSeq (sSet 6 (eCall d_l_bestr2 [] (eCons (eN 0) (eCons (eN 5) (eCons (eN 2) (eCons c1_l_bestr3 eNil))))))
    (sSet 4 (eRd (g2L gMin2) (eCons (eN 4) (eCons (eOp2 gAdd (eIx (eIx (eN 0) (eN 1)) (eN 5)) (eN 6)) eNil)))))
noncomputable def f1_l_bestr3 : SF := sFor (iSeq false (eN 3)) (setN 5) fb1_l_bestr3
noncomputable def b_l_bestr3 : SF := (sSeq (sSet 4 (eIx (eIx (eN 0) (eN 1)) (eN 2)))
    (sSeq f1_l_bestr3
    (sRet (eMv 4))))
noncomputable def d_l_bestr3 : DFn := mkFn 8 b_l_bestr3
abbrev N_l_best : List Str := ["rinses", "here", "last", "left", "best", "amid", "rest", "hue"]
noncomputable def ce1_l_best : EF := (eN 7)
noncomputable def ct1_l_best : BF := (bB (eOp2 gNe (eN 7) (eN 5)))
noncomputable def c1_l_best : EF := eLc [7] (iSeq false (eN 3)) (setN 7) ct1_l_best ce1_l_best
noncomputable def fb1_l_best : SF := (sSeq (sSet 6 (eCall d_l_bestr3 [] (eCons (eN 0) (eCons (eN 5) (eCons (eN 2) (eCons c1_l_best eNil))))))
    (sSet 4 (eRd (g2L gMin2) (eCons (eN 4) (eCons (eOp2 gAdd (eIx (eIx (eN 0) (eN 1)) (eN 5)) (eN 6)) eNil)))))
noncomputable def f1_l_best : SF := sFor (iSeq false (eN 3)) (setN 5) fb1_l_best
noncomputable def b_l_best : SF := (sSeq (sSet 4 (eIx (eIx (eN 0) (eN 1)) (eN 2)))
    (sSeq f1_l_best
    (sRet (eMv 4))))
noncomputable def d_l_best : DFn := mkFn 8 b_l_best
abbrev N_l_right : List Str := ["found", "rinses", "hues", "first", "last", "due"]
noncomputable def fb1_l_right : SF := (sSeq (sSet 5 (eCall d_l_best [] (eCons (eN 1) (eCons (eN 3) (eCons (eN 4) (eCons (eLRg (eN 2)) eNil))))))
    (sIf (bOr (bNot (bT (eCall d_l_whole [] (eCons (eIx (eIx (eN 0) (eN 3)) (eN 4)) eNil)))) (bB (eOp2 gNe (eIx (eIx (eN 0) (eN 3)) (eN 4)) (eN 5)))) (sRet (eC (.bl false))) sNil))
noncomputable def f1_l_right : SF := sFor (iRng1 (eCons (eN 2) eNil)) (setN 4) fb1_l_right
noncomputable def fb2_l_right : SF := (sSeq (sIf (bOr (bNot (bT (eRd (g2L gIsi) (eCons (eIx (eN 0) (eN 3)) (eCons (eC (.ty "list")) eNil))))) (bB (eOp2 gNe (eRd (g1L gLen) (eCons (eIx (eN 0) (eN 3)) eNil)) (eN 2)))) (sRet (eC (.bl false))) sNil)
    f1_l_right)
noncomputable def f2_l_right : SF := sFor (iRng1 (eCons (eOp2 gAdd (eN 2) (eC (.int 1))) eNil)) (setN 3) fb2_l_right
noncomputable def b_l_right : SF := (sSeq (sSet 2 (eOp2 gSub (eRd (g1L gLen) (eCons (eN 1) eNil)) (eC (.int 1))))
    (sSeq (sIf (bOr (bNot (bT (eRd (g2L gIsi) (eCons (eN 0) (eCons (eC (.ty "list")) eNil))))) (bB (eOp2 gNe (eRd (g1L gLen) (eCons (eN 0) eNil)) (eOp2 gAdd (eN 2) (eC (.int 1)))))) (sRet (eC (.bl false))) sNil)
    (sSeq f2_l_right
    (sRet (eC (.bl true))))))
noncomputable def d_l_right : DFn := mkFn 6 b_l_right
abbrev N_law : List Str := ["script", "k", "cell", "stream", "rinses", "handed", "found", "stayed", "row"]
noncomputable def le1_law : EF := eLend 5 (eCall d_least_rinses [] (eCons (eN 5) eNil))
noncomputable def ce1_law : EF := (eRd (g1L gListOf) (eCons (eN 8) eNil))
noncomputable def c1_law : EF := eLc [8] (iSeq false (eN 6)) (setN 8) bYes ce1_law
noncomputable def le2_law : EF := eLend 5 (eCall d_least_rinses [] (eCons (eN 5) eNil))
noncomputable def ce2_law : EF := (eRd (g1L gListOf) (eCons (eN 8) eNil))
noncomputable def c2_law : EF := eLc [8] (iSeq false (eN 4)) (setN 8) bYes ce2_law
noncomputable def fb1_law : SF := (sSeq (sSet 3 (eCall d_l_stream [] (eCons (eMk mkLst (eCons (eV (eN 2)) (eCons (eV (eN 1)) eNil))) (eCons (eC (.int 0)) eNil))))
    (sSeq (sSet 4 (eCall d_l_rinses [] (eCons (eN 3) (eCons (eOp2 gAdd (eC (.int 1)) (eCall d_l_take [] (eCons (eN 3) (eCons (eC (.int 4)) eNil)))) eNil))))
    (sSeq (sSet 5 c2_law)
    (sSeq (sSet 6 le2_law)
    (sSeq (sIf (bOr (bB (eOp2 gNe (eN 5) (eN 4))) (bNot (bT (eCall d_l_right [] (eCons (eN 6) (eCons (eN 4) eNil)))))) (sRet (eC (.bl false))) sNil)
    (sSeq (sSet 7 (eLend 6 c1_law))
    (sSeq (sSub (eOp2 gMod (eOp2 gAdd (eIx (eIx (eN 5) (eC (.int 0))) (eC (.int 0))) (eC (.int 1))) (eOp2 gPow (eC (.int 10)) (eC (.int 30)))) (eIx (eN 5) (eC (.int 0))) (eC (.int 0)))
    (sSeq (sIf (bB (eOp2 gNe (eN 6) (eN 7))) (sRet (eC (.bl false))) sNil)
    (sSeq (sSub (eOp2 gSub (eC (.int 0)) (eC (.int 1))) (eIx (eN 6) (eC (.int 0))) (eC (.int 0)))
    (sSeq (sX (eCall (liftG mAppend) [] (eConsC (chkT "list") (eIx (eN 6) (eC (.int 1))) (eCons (eC (.int 7)) eNil))))
    (sSeq (sX (eCall (liftG mPop) [] (eConsC (chkT "list") (eN 6) eNil)))
    (sSeq (sIf (bB (eOp2 gNe (eCall d_least_rinses [] (eCons (eN 4) eNil)) (eN 7))) (sRet (eC (.bl false))) sNil)
    (sSeq (sX le1_law)
    (sIf (bB (eOp2 gNe (eCall d_least_rinses [] (eCons (eN 4) eNil)) (eN 7))) (sRet (eC (.bl false))) sNil))))))))))))))
noncomputable def f1_law : SF := sFor (iEnm false (eCons (eOp2 gAdd (eRd gSlice (eCons (eN 0) (eCons (eC .non) (eCons (eInt (eC (.int 8))) eNil)))) (eMk mkLst (eCons (eC (.int 0)) eNil))) eNil)) (gdTup 2 (gdCons (setN 1) (gdCons (setN 2) gdNil))) fb1_law
noncomputable def b_law : SF := (sSeq f1_law
    (sRet (eC (.bl true))))
noncomputable def d_law : DFn := mkFn 9 b_law
def fa : List He.Fa := [
  .glo "is_whole",
  .glo "look_at_rinses",
  .glo "sums_and_ways",
  .glo "least_rinses",
  .glo "_law_mixed",
  .glo "_law_stream",
  .glo "_law_take",
  .glo "_law_rinse",
  .glo "_law_rinses",
  .glo "_law_whole",
  .glo "_law_best",
  .glo "_law_right",
  .glo "law",
  .int "MOST_HUES" 4,
  .free "int",
  .free "isinstance",
  .free "bool",
  .exc "NoRinses",
  .glo "NoRinses",
  .free "len",
  .free "range",
  .free "list",
  .free "sum",
  .free "min",
  .free "enumerate"]
def fx : List Fz := []
section
variable {P : Program} {w : World} {K : PySem.W.Frag} {mg : Str → Option Value} {base : Heap}
theorem sc_is_whole : FnScope N_is_whole ["thing"] (defScope (top 4)) := ⟨rfl, rfl, rfl, by decide +kernel, rfl, by decide +kernel, by decide +kernel⟩
theorem fo_is_whole {fd : FuncData} (F : FunD K "is_whole" "is_whole" (defArgs (top 4)) (defBody (top 4)) (defScope (top 4)) [] [] (He.fAd K ("is_whole", none)) fd) (c : SaysZ fa fn fx K) (X0 : K.In base) (G : base.Ns mainGlobals mg) (T0 : TbB K mg base) : FnOk P w K mg base (L2.CX P w) 1 (He.fAd K ("is_whole", none)) fd ["thing"] (spD K mg 1 d_is_whole) := by
  have nd := sc_is_whole.nd
  refine fn_d F sc_is_whole (fun cdv A outer s H E hr tk po => ?_)
  have hu := hr.units
  have hu65 := Room.u65 hr
  have hu1 := Nat.lt_of_le_of_lt (Nat.add_le_add_left (show 1 ≤ 64 by decide) _) hu
  exact (dss_one (ds_ret (de_and (de_bi call_isi snd_isi rfl (He.free_ok X0 G (c.fact 15 (f := .free "isinstance") rfl)) (by decide +kernel) (da_cons (de_name (i := 0) rfl (.inl rfl)) (da_cons (de_bltn rfl (He.free_ok X0 G (c.fact 14 (f := .free "int") rfl)) (by decide +kernel)) da_nil))) (de_one (de_not (de_bi call_isi snd_isi rfl (He.free_ok X0 G (c.fact 15 (f := .free "isinstance") rfl)) (by decide +kernel) (da_cons (de_name (i := 0) rfl (.inl rfl)) (da_cons (de_bltn rfl (He.free_ok X0 G (c.fact 16 (f := .free "bool") rfl)) (by decide +kernel)) da_nil))))))))
theorem ok_is_whole (c : SaysZ fa fn fx K) (X0 : K.In base) (G : base.Ns mainGlobals mg) (T0 : TbB K mg base) : DefOk P w K mg base ("is_whole", none) 1 ["thing"] d_is_whole := by
  obtain ⟨fd, F⟩ := c.def_ 0 rfl
  exact ⟨⟨fd, fo_is_whole F c X0 G T0, F.bindsN fun _ _ _ _ _ _ us hl => match us, hl with | [_], _ => rfl⟩, F.kp⟩
theorem sc_look_at_rinses : FnScope N_look_at_rinses ["rinses"] (defScope (top 7)) := ⟨rfl, rfl, rfl, by decide +kernel, rfl, by decide +kernel, by decide +kernel⟩
theorem fo_look_at_rinses {fd : FuncData} (F : FunD K "look_at_rinses" "look_at_rinses" (defArgs (top 7)) (defBody (top 7)) (defScope (top 7)) [] [] (He.fAd K ("look_at_rinses", none)) fd) (c : SaysZ fa fn fx K) (X0 : K.In base) (G : base.Ns mainGlobals mg) (T0 : TbB K mg base) : FnOk P w K mg base (L2.CX P w) 2 (He.fAd K ("look_at_rinses", none)) fd ["rinses"] (spD K mg 1 d_look_at_rinses) := by
  have O_is_whole := ok_is_whole (P := P) (w := w) c X0 G T0
  have nd := sc_look_at_rinses.nd
  refine fn_d F sc_look_at_rinses (fun cdv A outer s H E hr tk po => ?_)
  have hu := hr.units
  have hu65 := Room.u65 hr
  have hu1 := Nat.lt_of_le_of_lt (Nat.add_le_add_left (show 1 ≤ 64 by decide) _) hu
  exact (dss_cons (ds_set (i := 1) nd rfl (.inl rfl) (de_sub (de_bi call_len snd_len rfl (He.free_ok X0 G (c.fact 19 (f := .free "len") rfl)) (by decide +kernel) (da_cons (de_name (i := 0) rfl (.inl rfl)) da_nil)) de_int))
    (dss_cons (ds_if (db_not (db_chain opx_le opx_le snd_C snd_C de_int (de_name (i := 1) rfl (.inl rfl)) (de_gi (He.int_ok X0 G (c.fact 13 (f := .int "MOST_HUES" 4) rfl))))) (dss_one (ds_raise0 rfl tk (He.glo_ok X0 G (c.fact 18 (f := .glo "NoRinses") rfl)) (He.exc_ok (c.fact 17 (f := .exc "NoRinses") rfl)))) dss_nil)
    (dss_one (ds_for po rfl (di_seq false (de_name (i := 0) rfl (.inl rfl))) (dg_name (i := 2) nd rfl (.inl rfl)) (dss_cons (ds_if (db_cmp (opx_ne hu) snd_ne (de_bi call_len snd_len rfl (He.free_ok X0 G (c.fact 19 (f := .free "len") rfl)) (by decide +kernel) (da_cons (de_name (i := 2) rfl (.inl rfl)) da_nil)) (de_name (i := 1) rfl (.inl rfl))) (dss_one (ds_raise0 rfl tk (He.glo_ok X0 G (c.fact 18 (f := .glo "NoRinses") rfl)) (He.exc_ok (c.fact 17 (f := .exc "NoRinses") rfl)))) dss_nil)
    (dss_one (ds_for po rfl (di_seq false (de_name (i := 2) rfl (.inl rfl))) (dg_name (i := 3) nd rfl (.inl rfl)) (dss_one (ds_if (DW.db (dw_or (db_not (db_truth (de_fn O_is_whole (He.glo_ok X0 G (c.fact 0 (f := .glo "is_whole") rfl)) (hr.mono (by decide)) tk (da_cons (de_name (i := 3) rfl (.inl rfl)) da_nil) (ar_cons ar_nil)))) (dw_or1 (db_cmp opx_lt snd_C (de_name (i := 3) rfl (.inl rfl)) de_int)))) (dss_one (ds_raise0 rfl tk (He.glo_ok X0 G (c.fact 18 (f := .glo "NoRinses") rfl)) (He.exc_ok (c.fact 17 (f := .exc "NoRinses") rfl)))) dss_nil)))))))))
theorem ok_look_at_rinses (c : SaysZ fa fn fx K) (X0 : K.In base) (G : base.Ns mainGlobals mg) (T0 : TbB K mg base) : DefOk P w K mg base ("look_at_rinses", none) 2 ["rinses"] d_look_at_rinses := by
  obtain ⟨fd, F⟩ := c.def_ 1 rfl
  exact ⟨⟨fd, fo_look_at_rinses F c X0 G T0, F.bindsN fun _ _ _ _ _ _ us hl => match us, hl with | [_], _ => rfl⟩, F.kp⟩
theorem sc_sums_and_ways : FnScope N_sums_and_ways ["rinses"] (defScope (top 8)) := ⟨rfl, rfl, rfl, by decide +kernel, rfl, by decide +kernel, by decide +kernel⟩
theorem fo_sums_and_ways {fd : FuncData} (F : FunD K "sums_and_ways" "sums_and_ways" (defArgs (top 8)) (defBody (top 8)) (defScope (top 8)) [] [] (He.fAd K ("sums_and_ways", none)) fd) (c : SaysZ fa fn fx K) (X0 : K.In base) (G : base.Ns mainGlobals mg) (T0 : TbB K mg base) : FnOk P w K mg base (L2.CX P w) 3 (He.fAd K ("sums_and_ways", none)) fd ["rinses"] (spD K mg 1 d_sums_and_ways) := by
  have O_look_at_rinses := ok_look_at_rinses (P := P) (w := w) c X0 G T0
  have nd := sc_sums_and_ways.nd
  refine fn_d F sc_sums_and_ways (fun cdv A outer s H E hr tk po => ?_)
  have hu := hr.units
  have hu65 := Room.u65 hr
  have hu1 := Nat.lt_of_le_of_lt (Nat.add_le_add_left (show 1 ≤ 64 by decide) _) hu
  exact (dss_cons (ds_expr (de_fn O_look_at_rinses (He.glo_ok X0 G (c.fact 1 (f := .glo "look_at_rinses") rfl)) (hr.mono (by decide)) tk (da_cons (de_name (i := 0) rfl (.inl rfl)) da_nil) (ar_cons ar_nil)))
    (dss_cons (ds_setLc (i := 1) (own := [("row", 7)]) rfl nd rfl rfl (sw_true rfl rfl rfl (by decide +kernel)) (di_seq false (de_name (i := 0) rfl (.inl rfl))) (blkOk_by (N := N_sums_and_ways) (sc := defScope (top 8)) (by decide +kernel)) (by decide) (fun _ _ _ _ _ => (dg_name (i := 7) nd rfl (.inl rfl))) (fun _ _ _ _ _ => dps_nil) (fun _ _ _ _ _ => (de_bty call_list_of snd_listOf rfl (He.free_ok X0 G (c.fact 21 (f := .free "list") rfl)) (by decide +kernel) (da_cons (de_name (i := 7) rfl (.inl rfl)) da_nil))))
    (dss_cons (ds_setLc (i := 2) (own := [("row", 7)]) rfl nd rfl rfl (sw_true rfl rfl rfl (by decide +kernel)) (di_seq false (de_name (i := 0) rfl (.inl rfl))) (blkOk_by (N := N_sums_and_ways) (sc := defScope (top 8)) (by decide +kernel)) (by decide) (fun _ _ _ _ _ => (dg_name (i := 7) nd rfl (.inl rfl))) (fun _ _ _ _ _ => dps_nil) (fun _ _ _ _ _ => (de_lc (own := [("hue", 8)]) rfl nd (di_rng1 rfl (He.free_ok X0 G (c.fact 20 (f := .free "range") rfl)) (da_cons (de_bi call_len snd_len rfl (He.free_ok X0 G (c.fact 19 (f := .free "len") rfl)) (by decide +kernel) (da_cons (de_name (i := 7) rfl (.inl rfl)) da_nil)) da_nil)) (blkOk_by (by kernel_rfl)) (by decide) (fun _ _ _ _ _ => (dg_name (i := 8) nd rfl (.inl rfl))) (fun _ _ _ _ _ => dps_nil) (fun _ _ _ _ _ => (de_lst (da_cons (de_val (de_name (i := 8) rfl (.inl rfl))) da_nil))))))
    (dss_cons (ds_for po rfl (di_rng1 rfl (He.free_ok X0 G (c.fact 20 (f := .free "range") rfl)) (da_cons (de_sub (de_bi call_len snd_len rfl (He.free_ok X0 G (c.fact 19 (f := .free "len") rfl)) (by decide +kernel) (da_cons (de_name (i := 0) rfl (.inl rfl)) da_nil)) de_int) da_nil)) (dg_name (i := 3) nd rfl (.inl rfl)) (dss_one (ds_for po rfl (di_rng1 rfl (He.free_ok X0 G (c.fact 20 (f := .free "range") rfl)) (da_cons (de_bi call_len snd_len rfl (He.free_ok X0 G (c.fact 19 (f := .free "len") rfl)) (by decide +kernel) (da_cons (de_name (i := 0) rfl (.inl rfl)) da_nil)) da_nil)) (dg_name (i := 4) nd rfl (.inl rfl)) (dss_one (ds_for po rfl (di_rng1 rfl (He.free_ok X0 G (c.fact 20 (f := .free "range") rfl)) (da_cons (de_sub (de_bi call_len snd_len rfl (He.free_ok X0 G (c.fact 19 (f := .free "len") rfl)) (by decide +kernel) (da_cons (de_name (i := 0) rfl (.inl rfl)) da_nil)) de_int) da_nil)) (dg_name (i := 5) nd rfl (.inl rfl)) (dss_cons (ds_set (i := 6) nd rfl (.inl rfl) (de_add (de_ix hu1 (de_ix hu1 (de_name (i := 1) rfl (.inl rfl)) (de_name (i := 4) rfl (.inl rfl))) (de_name (i := 3) rfl (.inl rfl))) (de_ix hu1 (de_ix hu1 (de_name (i := 1) rfl (.inl rfl)) (de_name (i := 3) rfl (.inl rfl))) (de_name (i := 5) rfl (.inl rfl)))))
    (dss_one (ds_if (db_cmp opx_lt snd_C (de_name (i := 6) rfl (.inl rfl)) (de_ix hu1 (de_ix hu1 (de_name (i := 1) rfl (.inl rfl)) (de_name (i := 4) rfl (.inl rfl))) (de_name (i := 5) rfl (.inl rfl)))) (dss_cons (ds_sub hu1 (de_ix hu1 (de_name (i := 1) rfl (.inl rfl)) (de_name (i := 4) rfl (.inl rfl))) (de_name (i := 5) rfl (.inl rfl)) (de_name (i := 6) rfl (.inl rfl)))
    (dss_one (ds_sub hu1 (de_ix hu1 (de_name (i := 2) rfl (.inl rfl)) (de_name (i := 4) rfl (.inl rfl))) (de_name (i := 5) rfl (.inl rfl)) (de_add (de_ix hu1 (de_ix hu1 (de_name (i := 2) rfl (.inl rfl)) (de_name (i := 4) rfl (.inl rfl))) (de_name (i := 3) rfl (.inl rfl))) (de_ix hu1 (de_ix hu1 (de_name (i := 2) rfl (.inl rfl)) (de_name (i := 3) rfl (.inl rfl))) (de_name (i := 5) rfl (.inl rfl))))))) dss_nil))))))))
    (dss_one (ds_ret (de_tup (da_cons (de_val (de_move (i := 1) rfl (.inl rfl))) (da_cons (de_val (de_move (i := 2) rfl (.inl rfl))) da_nil)))))))))
theorem ok_sums_and_ways (c : SaysZ fa fn fx K) (X0 : K.In base) (G : base.Ns mainGlobals mg) (T0 : TbB K mg base) : DefOk P w K mg base ("sums_and_ways", none) 3 ["rinses"] d_sums_and_ways := by
  obtain ⟨fd, F⟩ := c.def_ 2 rfl
  exact ⟨⟨fd, fo_sums_and_ways F c X0 G T0, F.bindsN fun _ _ _ _ _ _ us hl => match us, hl with | [_], _ => rfl⟩, F.kp⟩
theorem sc_least_rinses : FnScope N_least_rinses ["rinses"] (defScope (top 9)) := ⟨rfl, rfl, rfl, by decide +kernel, rfl, by decide +kernel, by decide +kernel⟩
theorem fo_least_rinses {fd : FuncData} (F : FunD K "least_rinses" "least_rinses" (defArgs (top 9)) (defBody (top 9)) (defScope (top 9)) [] [] (He.fAd K ("least_rinses", none)) fd) (c : SaysZ fa fn fx K) (X0 : K.In base) (G : base.Ns mainGlobals mg) (T0 : TbB K mg base) : FnOk P w K mg base (L2.CX P w) 4 (He.fAd K ("least_rinses", none)) fd ["rinses"] (spD K mg 1 d_least_rinses) := by
  have O_sums_and_ways := ok_sums_and_ways (P := P) (w := w) c X0 G T0
  have nd := sc_least_rinses.nd
  refine fn_d F sc_least_rinses (fun cdv A outer s H E hr tk po => ?_)
  have hu := hr.units
  have hu65 := Room.u65 hr
  have hu1 := Nat.lt_of_le_of_lt (Nat.add_le_add_left (show 1 ≤ 64 by decide) _) hu
  exact (dss_one (ds_ret (de_ix hu1 (de_fn O_sums_and_ways (He.glo_ok X0 G (c.fact 2 (f := .glo "sums_and_ways") rfl)) (hr.mono (by decide)) tk (da_cons (de_name (i := 0) rfl (.inl rfl)) da_nil) (ar_cons ar_nil)) de_int)))
theorem ok_least_rinses (c : SaysZ fa fn fx K) (X0 : K.In base) (G : base.Ns mainGlobals mg) (T0 : TbB K mg base) : DefOk P w K mg base ("least_rinses", none) 4 ["rinses"] d_least_rinses := by
  obtain ⟨fd, F⟩ := c.def_ 3 rfl
  exact ⟨⟨fd, fo_least_rinses F c X0 G T0, F.bindsN fun _ _ _ _ _ _ us hl => match us, hl with | [_], _ => rfl⟩, F.kp⟩
theorem sc_l_mixed : FnScope N_l_mixed ["cell", "k"] (defScope (top 11)) := ⟨rfl, rfl, rfl, by decide +kernel, rfl, by decide +kernel, by decide +kernel⟩
theorem fo_l_mixed {fd : FuncData} (F : FunD K "_law_mixed" "_law_mixed" (defArgs (top 11)) (defBody (top 11)) (defScope (top 11)) [] [] (He.fAd K ("_law_mixed", none)) fd) (c : SaysZ fa fn fx K) (X0 : K.In base) (G : base.Ns mainGlobals mg) (T0 : TbB K mg base) : FnOk P w K mg base (L2.CX P w) 1 (He.fAd K ("_law_mixed", none)) fd ["cell", "k"] (spD K mg 2 d_l_mixed) := by
  have nd := sc_l_mixed.nd
  refine fn_d F sc_l_mixed (fun cdv A outer s H E hr tk po => ?_)
  have hu := hr.units
  have hu65 := Room.u65 hr
  have hu1 := Nat.lt_of_le_of_lt (Nat.add_le_add_left (show 1 ≤ 64 by decide) _) hu
  exact (dss_cons (ds_set (i := 2) nd rfl (.inl rfl) (de_mod (de_mul (de_add (de_add (de_mod (de_name (i := 0) rfl (.inl rfl)) de_int) (de_mul de_int (de_name (i := 1) rfl (.inl rfl)))) de_int) de_int) de_int))
    (dss_one (ds_ret (de_mod (de_mul (de_mod (de_mul (de_name (i := 2) rfl (.inl rfl)) (de_name (i := 2) rfl (.inl rfl))) de_int) de_int) de_int))))
theorem ok_l_mixed (c : SaysZ fa fn fx K) (X0 : K.In base) (G : base.Ns mainGlobals mg) (T0 : TbB K mg base) : DefOk P w K mg base ("_law_mixed", none) 1 ["cell", "k"] d_l_mixed := by
  obtain ⟨fd, F⟩ := c.def_ 4 rfl
  exact ⟨⟨fd, fo_l_mixed F c X0 G T0, F.bindsN fun _ _ _ _ _ _ us hl => match us, hl with | [_, _], _ => rfl⟩, F.kp⟩
theorem sc_l_stream : FnScope N_l_stream ["script", "k"] (defScope (top 12)) := ⟨rfl, rfl, rfl, by decide +kernel, rfl, by decide +kernel, by decide +kernel⟩
theorem fo_l_stream {fd : FuncData} (F : FunD K "_law_stream" "_law_stream" (defArgs (top 12)) (defBody (top 12)) (defScope (top 12)) [] [] (He.fAd K ("_law_stream", none)) fd) (c : SaysZ fa fn fx K) (X0 : K.In base) (G : base.Ns mainGlobals mg) (T0 : TbB K mg base) : FnOk P w K mg base (L2.CX P w) 2 (He.fAd K ("_law_stream", none)) fd ["script", "k"] (spD K mg 2 d_l_stream) := by
  have O_l_mixed := ok_l_mixed (P := P) (w := w) c X0 G T0
  have nd := sc_l_stream.nd
  refine fn_d F sc_l_stream (fun cdv A outer s H E hr tk po => ?_)
  have hu := hr.units
  have hu65 := Room.u65 hr
  have hu1 := Nat.lt_of_le_of_lt (Nat.add_le_add_left (show 1 ≤ 64 by decide) _) hu
  exact (dss_cons (ds_set (i := 2) nd rfl (.inl rfl) de_int)
    (dss_cons (ds_for po rfl (di_rng3 rfl (He.free_ok X0 G (c.fact 20 (f := .free "range") rfl)) (da_cons (de_name (i := 1) rfl (.inl rfl)) (da_cons (de_bi call_len snd_len rfl (He.free_ok X0 G (c.fact 19 (f := .free "len") rfl)) (by decide +kernel) (da_cons (de_name (i := 0) rfl (.inl rfl)) da_nil)) (da_cons de_int da_nil))) fun p => pi_range3 rfl (He.free_ok X0 G (c.fact 20 (f := .free "range") rfl)) p) (dg_name (i := 3) nd rfl (.inl rfl)) (dss_one (ds_set (i := 2) nd rfl (.inl rfl) (de_add (de_mul (de_name (i := 2) rfl (.inl rfl)) (de_mul (de_pow de_int de_int) (de_pow de_int de_int))) (de_mod (de_ix hu1 (de_name (i := 0) rfl (.inl rfl)) (de_name (i := 3) rfl (.inl rfl))) (de_mul (de_pow de_int de_int) (de_pow de_int de_int)))))))
    (dss_cons (ds_if (db_cmp opx_ge snd_C (de_name (i := 2) rfl (.inl rfl)) (de_pow de_int de_int)) (dss_one (ds_ret (de_lst (da_cons (de_val (de_move (i := 2) rfl (.inl rfl))) da_nil)))) dss_nil)
    (dss_cons (ds_set (i := 2) nd rfl (.inl rfl) (de_add (de_name (i := 2) rfl (.inl rfl)) (de_bi (cr_sum rfl) snd_sum rfl (He.free_ok X0 G (c.fact 22 (f := .free "sum") rfl)) (by decide +kernel) (da_cons (de_lc (own := [("one", 5)]) rfl nd (di_seq false (de_name (i := 0) rfl (.inl rfl))) (blkOk_by (N := N_l_stream) (sc := defScope (top 12)) (by decide +kernel)) (by decide) (fun _ _ _ _ _ => (dg_name (i := 5) nd rfl (.inl rfl))) (fun _ _ _ _ _ => dps_nil) (fun _ _ _ _ _ => (de_mod (de_name (i := 5) rfl (.inl rfl)) (de_pow de_int de_int)))) da_nil))))
    (dss_cons (ds_set (i := 4) nd rfl (.inl rfl) de_int)
    (dss_cons (ds_for po rfl (di_rng1 rfl (He.free_ok X0 G (c.fact 20 (f := .free "range") rfl)) (da_cons de_int da_nil)) (dg_name (i := 3) nd rfl (.inl rfl)) (dss_one (ds_set (i := 4) nd rfl (.inl rfl) (de_add (de_mul (de_name (i := 4) rfl (.inl rfl)) de_int) (de_fn O_l_mixed (He.glo_ok X0 G (c.fact 4 (f := .glo "_law_mixed") rfl)) (hr.mono (by decide)) tk (da_cons (de_add (de_add (de_name (i := 2) rfl (.inl rfl)) (de_mul de_int (de_name (i := 1) rfl (.inl rfl)))) (de_bi call_len snd_len rfl (He.free_ok X0 G (c.fact 19 (f := .free "len") rfl)) (by decide +kernel) (da_cons (de_name (i := 0) rfl (.inl rfl)) da_nil))) (da_cons (de_name (i := 3) rfl (.inl rfl)) da_nil)) (ar_cons (ar_cons ar_nil)))))))
    (dss_one (ds_ret (de_lst (da_cons (de_val (de_move (i := 4) rfl (.inl rfl))) da_nil))))))))))
theorem ok_l_stream (c : SaysZ fa fn fx K) (X0 : K.In base) (G : base.Ns mainGlobals mg) (T0 : TbB K mg base) : DefOk P w K mg base ("_law_stream", none) 2 ["script", "k"] d_l_stream := by
  obtain ⟨fd, F⟩ := c.def_ 5 rfl
  exact ⟨⟨fd, fo_l_stream F c X0 G T0, F.bindsN fun _ _ _ _ _ _ us hl => match us, hl with | [_, _], _ => rfl⟩, F.kp⟩
theorem sc_l_take : FnScope N_l_take ["stream", "many"] (defScope (top 13)) := ⟨rfl, rfl, rfl, by decide +kernel, rfl, by decide +kernel, by decide +kernel⟩
theorem fo_l_take {fd : FuncData} (F : FunD K "_law_take" "_law_take" (defArgs (top 13)) (defBody (top 13)) (defScope (top 13)) [] [] (He.fAd K ("_law_take", none)) fd) (c : SaysZ fa fn fx K) (X0 : K.In base) (G : base.Ns mainGlobals mg) (T0 : TbB K mg base) : FnOk P w K mg base (L2.CX P w) 1 (He.fAd K ("_law_take", none)) fd ["stream", "many"] (spD K mg 2 d_l_take) := by
  have nd := sc_l_take.nd
  refine fn_d F sc_l_take (fun cdv A outer s H E hr tk po => ?_)
  have hu := hr.units
  have hu65 := Room.u65 hr
  have hu1 := Nat.lt_of_le_of_lt (Nat.add_le_add_left (show 1 ≤ 64 by decide) _) hu
  exact (dss_cons (ds_set (i := 2) nd rfl (.inl rfl) (de_mod (de_ix hu1 (de_name (i := 0) rfl (.inl rfl)) de_int) (de_name (i := 1) rfl (.inl rfl))))
    (dss_cons (ds_sub hu1 (de_name (i := 0) rfl (.inl rfl)) de_int (de_fdiv (de_ix hu1 (de_name (i := 0) rfl (.inl rfl)) de_int) (de_name (i := 1) rfl (.inl rfl))))
    (dss_one (ds_ret (de_move (i := 2) rfl (.inl rfl))))))
theorem ok_l_take (c : SaysZ fa fn fx K) (X0 : K.In base) (G : base.Ns mainGlobals mg) (T0 : TbB K mg base) : DefOk P w K mg base ("_law_take", none) 1 ["stream", "many"] d_l_take := by
  obtain ⟨fd, F⟩ := c.def_ 6 rfl
  exact ⟨⟨fd, fo_l_take F c X0 G T0, F.bindsN fun _ _ _ _ _ _ us hl => match us, hl with | [_, _], _ => rfl⟩, F.kp⟩
theorem sc_l_rinse : FnScope N_l_rinse ["stream"] (defScope (top 14)) := ⟨rfl, rfl, rfl, by decide +kernel, rfl, by decide +kernel, by decide +kernel⟩
theorem fo_l_rinse {fd : FuncData} (F : FunD K "_law_rinse" "_law_rinse" (defArgs (top 14)) (defBody (top 14)) (defScope (top 14)) [] [] (He.fAd K ("_law_rinse", none)) fd) (c : SaysZ fa fn fx K) (X0 : K.In base) (G : base.Ns mainGlobals mg) (T0 : TbB K mg base) : FnOk P w K mg base (L2.CX P w) 2 (He.fAd K ("_law_rinse", none)) fd ["stream"] (spD K mg 1 d_l_rinse) := by
  have O_l_take := ok_l_take (P := P) (w := w) c X0 G T0
  have nd := sc_l_rinse.nd
  refine fn_d F sc_l_rinse (fun cdv A outer s H E hr tk po => ?_)
  have hu := hr.units
  have hu65 := Room.u65 hr
  have hu1 := Nat.lt_of_le_of_lt (Nat.add_le_add_left (show 1 ≤ 64 by decide) _) hu
  exact (dss_cons (ds_set (i := 1) nd rfl (.inl rfl) (de_fn O_l_take (He.glo_ok X0 G (c.fact 6 (f := .glo "_law_take") rfl)) (hr.mono (by decide)) tk (da_cons (de_name (i := 0) rfl (.inl rfl)) (da_cons de_int da_nil)) (ar_cons (ar_cons ar_nil))))
    (dss_cons (ds_if (db_cmp opx_lt snd_C (de_name (i := 1) rfl (.inl rfl)) de_int) (dss_one (ds_ret (de_fn O_l_take (He.glo_ok X0 G (c.fact 6 (f := .glo "_law_take") rfl)) (hr.mono (by decide)) tk (da_cons (de_name (i := 0) rfl (.inl rfl)) (da_cons (de_ix hu1 (de_lst (da_cons de_int (da_cons de_int (da_cons de_int (da_cons de_int da_nil))))) (de_name (i := 1) rfl (.inl rfl))) da_nil)) (ar_cons (ar_cons ar_nil))))) dss_nil)
    (dss_one (ds_ret (de_fn O_l_take (He.glo_ok X0 G (c.fact 6 (f := .glo "_law_take") rfl)) (hr.mono (by decide)) tk (da_cons (de_name (i := 0) rfl (.inl rfl)) (da_cons (de_pow de_int de_int) da_nil)) (ar_cons (ar_cons ar_nil)))))))
theorem ok_l_rinse (c : SaysZ fa fn fx K) (X0 : K.In base) (G : base.Ns mainGlobals mg) (T0 : TbB K mg base) : DefOk P w K mg base ("_law_rinse", none) 2 ["stream"] d_l_rinse := by
  obtain ⟨fd, F⟩ := c.def_ 7 rfl
  exact ⟨⟨fd, fo_l_rinse F c X0 G T0, F.bindsN fun _ _ _ _ _ _ us hl => match us, hl with | [_], _ => rfl⟩, F.kp⟩
theorem sc_l_rinses : FnScope N_l_rinses ["stream", "hues"] (defScope (top 15)) := ⟨rfl, rfl, rfl, by decide +kernel, rfl, by decide +kernel, by decide +kernel⟩
theorem fo_l_rinses {fd : FuncData} (F : FunD K "_law_rinses" "_law_rinses" (defArgs (top 15)) (defBody (top 15)) (defScope (top 15)) [] [] (He.fAd K ("_law_rinses", none)) fd) (c : SaysZ fa fn fx K) (X0 : K.In base) (G : base.Ns mainGlobals mg) (T0 : TbB K mg base) : FnOk P w K mg base (L2.CX P w) 3 (He.fAd K ("_law_rinses", none)) fd ["stream", "hues"] (spD K mg 2 d_l_rinses) := by
  have O_l_rinse := ok_l_rinse (P := P) (w := w) c X0 G T0
  have nd := sc_l_rinses.nd
  refine fn_d F sc_l_rinses (fun cdv A outer s H E hr tk po => ?_)
  have hu := hr.units
  have hu65 := Room.u65 hr
  have hu1 := Nat.lt_of_le_of_lt (Nat.add_le_add_left (show 1 ≤ 64 by decide) _) hu
  exact (dss_one (ds_ret (de_lc (own := [("j", 2)]) rfl nd (di_rng1 rfl (He.free_ok X0 G (c.fact 20 (f := .free "range") rfl)) (da_cons (de_add (de_name (i := 1) rfl (.inr (.inl (by kernel_rfl)))) de_int) da_nil)) (blkOk_by (N := N_l_rinses) (sc := defScope (top 15)) (by decide +kernel)) (by decide) (fun _ _ _ _ _ => (dg_name (i := 2) nd rfl (.inl rfl))) (fun _ _ _ _ _ => dps_nil) (fun _ _ _ _ _ => (de_lc (own := [("k", 3)]) rfl nd (di_rng1 rfl (He.free_ok X0 G (c.fact 20 (f := .free "range") rfl)) (da_cons (de_name (i := 1) rfl (.inr (.inl (by kernel_rfl)))) da_nil)) (blkOk_by (by kernel_rfl)) (by decide) (fun _ _ _ _ _ => (dg_name (i := 3) nd rfl (.inl rfl))) (fun _ _ _ _ _ => dps_nil) (fun _ _ _ _ _ => (de_fn O_l_rinse (He.glo_ok X0 G (c.fact 7 (f := .glo "_law_rinse") rfl)) (hr.mono (by decide)) takes0 (da_cons (de_name (i := 0) rfl (.inr (.inl (by kernel_rfl)))) da_nil) (ar_cons ar_nil))))))))
theorem ok_l_rinses (c : SaysZ fa fn fx K) (X0 : K.In base) (G : base.Ns mainGlobals mg) (T0 : TbB K mg base) : DefOk P w K mg base ("_law_rinses", none) 3 ["stream", "hues"] d_l_rinses := by
  obtain ⟨fd, F⟩ := c.def_ 8 rfl
  exact ⟨⟨fd, fo_l_rinses F c X0 G T0, F.bindsN fun _ _ _ _ _ _ us hl => match us, hl with | [_, _], _ => rfl⟩, F.kp⟩
theorem sc_l_whole : FnScope N_l_whole ["found"] (defScope (top 16)) := ⟨rfl, rfl, rfl, by decide +kernel, rfl, by decide +kernel, by decide +kernel⟩
theorem fo_l_whole {fd : FuncData} (F : FunD K "_law_whole" "_law_whole" (defArgs (top 16)) (defBody (top 16)) (defScope (top 16)) [] [] (He.fAd K ("_law_whole", none)) fd) (c : SaysZ fa fn fx K) (X0 : K.In base) (G : base.Ns mainGlobals mg) (T0 : TbB K mg base) : FnOk P w K mg base (L2.CX P w) 1 (He.fAd K ("_law_whole", none)) fd ["found"] (spD K mg 1 d_l_whole) := by
  have nd := sc_l_whole.nd
  refine fn_d F sc_l_whole (fun cdv A outer s H E hr tk po => ?_)
  have hu := hr.units
  have hu65 := Room.u65 hr
  have hu1 := Nat.lt_of_le_of_lt (Nat.add_le_add_left (show 1 ≤ 64 by decide) _) hu
  exact (dss_one (ds_ret (de_and (de_bi call_isi snd_isi rfl (He.free_ok X0 G (c.fact 15 (f := .free "isinstance") rfl)) (by decide +kernel) (da_cons (de_name (i := 0) rfl (.inl rfl)) (da_cons (de_bltn rfl (He.free_ok X0 G (c.fact 14 (f := .free "int") rfl)) (by decide +kernel)) da_nil))) (de_one (de_not (de_bi call_isi snd_isi rfl (He.free_ok X0 G (c.fact 15 (f := .free "isinstance") rfl)) (by decide +kernel) (da_cons (de_name (i := 0) rfl (.inl rfl)) (da_cons (de_bltn rfl (He.free_ok X0 G (c.fact 16 (f := .free "bool") rfl)) (by decide +kernel)) da_nil))))))))
theorem ok_l_whole (c : SaysZ fa fn fx K) (X0 : K.In base) (G : base.Ns mainGlobals mg) (T0 : TbB K mg base) : DefOk P w K mg base ("_law_whole", none) 1 ["found"] d_l_whole := by
  obtain ⟨fd, F⟩ := c.def_ 9 rfl
  exact ⟨⟨fd, fo_l_whole F c X0 G T0, F.bindsN fun _ _ _ _ _ _ us hl => match us, hl with | [_], _ => rfl⟩, F.kp⟩
theorem sc_l_bestr0 : FnScope N_l_bestr0 ["rinses", "here", "last", "left"] (defScope (top 17)) := ⟨rfl, rfl, rfl, by decide +kernel, rfl, by decide +kernel, by decide +kernel⟩
theorem fo_l_bestr0 {fd : FuncData} (F : FunD K "_law_best" "_law_best" (defArgs (top 17)) (defBody (top 17)) (defScope (top 17)) [] [] (He.fAd K ("_law_best", none)) fd) (c : SaysZ fa fn fx K) (X0 : K.In base) (G : base.Ns mainGlobals mg) (T0 : TbB K mg base) : FnOk P w K mg base (L2.CX P w) 1 (He.fAd K ("_law_best", none)) fd ["rinses", "here", "last", "left"] (spD K mg 4 d_l_bestr0) := by
  have nd := sc_l_bestr0.nd
  refine fn_d F sc_l_bestr0 (fun cdv A outer s H E hr tk po => ?_)
  have hu := hr.units
  have hu65 := Room.u65 hr
  have hu1 := Nat.lt_of_le_of_lt (Nat.add_le_add_left (show 1 ≤ 64 by decide) _) hu
  exact (dss_cons (ds_set (i := 4) nd rfl (.inl rfl) (de_ix hu1 (de_ix hu1 (de_name (i := 0) rfl (.inl rfl)) (de_name (i := 1) rfl (.inl rfl))) (de_name (i := 2) rfl (.inl rfl))))
    (dss_cons (ds_for po rfl (di_seq false (de_name (i := 3) rfl (.inl rfl))) (dg_name (i := 5) nd rfl (.inr (by kernel_rfl))) (dss_cons ds_stk
    (dss_one (ds_set (i := 4) nd rfl (.inl rfl) (de_bi (call_min2 rfl) snd_min2 rfl (He.free_ok X0 G (c.fact 23 (f := .free "min") rfl)) (by decide +kernel) (da_cons (de_name (i := 4) rfl (.inl rfl)) (da_cons (de_add (de_ix hu1 (de_ix hu1 (de_name (i := 0) rfl (.inl rfl)) (de_name (i := 1) rfl (.inl rfl))) (de_name (i := 5) rfl (.inr (.inl (by kernel_rfl))))) (de_name (i := 6) rfl (.inl rfl))) da_nil)))))))
    (dss_one (ds_ret (de_move (i := 4) rfl (.inl rfl))))))
theorem ok_l_bestr0 (c : SaysZ fa fn fx K) (X0 : K.In base) (G : base.Ns mainGlobals mg) (T0 : TbB K mg base) : DefOk P w K mg base ("_law_best", none) 1 ["rinses", "here", "last", "left"] d_l_bestr0 := by
  obtain ⟨fd, F⟩ := c.def_ 10 rfl
  exact ⟨⟨fd, fo_l_bestr0 F c X0 G T0, F.bindsN fun _ _ _ _ _ _ us hl => match us, hl with | [_, _, _, _], _ => rfl⟩, F.kp⟩
theorem sc_l_bestr1 : FnScope N_l_bestr1 ["rinses", "here", "last", "left"] (defScope (top 17)) := ⟨rfl, rfl, rfl, by decide +kernel, rfl, by decide +kernel, by decide +kernel⟩
theorem fo_l_bestr1 {fd : FuncData} (F : FunD K "_law_best" "_law_best" (defArgs (top 17)) (defBody (top 17)) (defScope (top 17)) [] [] (He.fAd K ("_law_best", none)) fd) (c : SaysZ fa fn fx K) (X0 : K.In base) (G : base.Ns mainGlobals mg) (T0 : TbB K mg base) : FnOk P w K mg base (L2.CX P w) 2 (He.fAd K ("_law_best", none)) fd ["rinses", "here", "last", "left"] (spD K mg 4 d_l_bestr1) := by
  have O_l_bestr0 := ok_l_bestr0 (P := P) (w := w) c X0 G T0
  have nd := sc_l_bestr1.nd
  refine fn_d F sc_l_bestr1 (fun cdv A outer s H E hr tk po => ?_)
  have hu := hr.units
  have hu65 := Room.u65 hr
  have hu1 := Nat.lt_of_le_of_lt (Nat.add_le_add_left (show 1 ≤ 64 by decide) _) hu
  exact (dss_cons (ds_set (i := 4) nd rfl (.inl rfl) (de_ix hu1 (de_ix hu1 (de_name (i := 0) rfl (.inl rfl)) (de_name (i := 1) rfl (.inl rfl))) (de_name (i := 2) rfl (.inl rfl))))
    (dss_cons (ds_for po rfl (di_seq false (de_name (i := 3) rfl (.inl rfl))) (dg_name (i := 5) nd rfl (.inr (by kernel_rfl))) (dss_cons (ds_set (i := 6) nd rfl (.inl rfl) (de_fn O_l_bestr0 (He.glo_ok X0 G (c.fact 10 (f := .glo "_law_best") rfl)) (hr.mono (by decide)) tk (da_cons (de_name (i := 0) rfl (.inl rfl)) (da_cons (de_name (i := 5) rfl (.inr (.inl (by kernel_rfl)))) (da_cons (de_name (i := 2) rfl (.inl rfl)) (da_cons (de_lc (own := [("hue", 7)]) rfl nd (di_seq false (de_name (i := 3) rfl (.inl rfl))) (blkOk_by (N := N_l_bestr1) (sc := defScope (top 17)) (by decide +kernel)) (by decide) (fun _ _ _ _ _ => (dg_name (i := 7) nd rfl (.inl rfl))) (fun _ _ _ _ _ => (dps_one (db_cmp (opx_ne hu) snd_ne (de_name (i := 7) rfl (.inl rfl)) (de_name (i := 5) rfl (.inr (.inl (by kernel_rfl))))))) (fun _ _ _ _ _ => (de_name (i := 7) rfl (.inl rfl)))) da_nil)))) (ar_cons (ar_cons (ar_cons (ar_cons ar_nil))))))
    (dss_one (ds_set (i := 4) nd rfl (.inl rfl) (de_bi (call_min2 rfl) snd_min2 rfl (He.free_ok X0 G (c.fact 23 (f := .free "min") rfl)) (by decide +kernel) (da_cons (de_name (i := 4) rfl (.inl rfl)) (da_cons (de_add (de_ix hu1 (de_ix hu1 (de_name (i := 0) rfl (.inl rfl)) (de_name (i := 1) rfl (.inl rfl))) (de_name (i := 5) rfl (.inr (.inl (by kernel_rfl))))) (de_name (i := 6) rfl (.inl rfl))) da_nil)))))))
    (dss_one (ds_ret (de_move (i := 4) rfl (.inl rfl))))))
theorem ok_l_bestr1 (c : SaysZ fa fn fx K) (X0 : K.In base) (G : base.Ns mainGlobals mg) (T0 : TbB K mg base) : DefOk P w K mg base ("_law_best", none) 2 ["rinses", "here", "last", "left"] d_l_bestr1 := by
  obtain ⟨fd, F⟩ := c.def_ 10 rfl
  exact ⟨⟨fd, fo_l_bestr1 F c X0 G T0, F.bindsN fun _ _ _ _ _ _ us hl => match us, hl with | [_, _, _, _], _ => rfl⟩, F.kp⟩
theorem sc_l_bestr2 : FnScope N_l_bestr2 ["rinses", "here", "last", "left"] (defScope (top 17)) := ⟨rfl, rfl, rfl, by decide +kernel, rfl, by decide +kernel, by decide +kernel⟩
theorem fo_l_bestr2 {fd : FuncData} (F : FunD K "_law_best" "_law_best" (defArgs (top 17)) (defBody (top 17)) (defScope (top 17)) [] [] (He.fAd K ("_law_best", none)) fd) (c : SaysZ fa fn fx K) (X0 : K.In base) (G : base.Ns mainGlobals mg) (T0 : TbB K mg base) : FnOk P w K mg base (L2.CX P w) 3 (He.fAd K ("_law_best", none)) fd ["rinses", "here", "last", "left"] (spD K mg 4 d_l_bestr2) := by
  have O_l_bestr1 := ok_l_bestr1 (P := P) (w := w) c X0 G T0
  have nd := sc_l_bestr2.nd
  refine fn_d F sc_l_bestr2 (fun cdv A outer s H E hr tk po => ?_)
  have hu := hr.units
  have hu65 := Room.u65 hr
  have hu1 := Nat.lt_of_le_of_lt (Nat.add_le_add_left (show 1 ≤ 64 by decide) _) hu
  exact (dss_cons (ds_set (i := 4) nd rfl (.inl rfl) (de_ix hu1 (de_ix hu1 (de_name (i := 0) rfl (.inl rfl)) (de_name (i := 1) rfl (.inl rfl))) (de_name (i := 2) rfl (.inl rfl))))
    (dss_cons (ds_for po rfl (di_seq false (de_name (i := 3) rfl (.inl rfl))) (dg_name (i := 5) nd rfl (.inr (by kernel_rfl))) (dss_cons (ds_set (i := 6) nd rfl (.inl rfl) (de_fn O_l_bestr1 (He.glo_ok X0 G (c.fact 10 (f := .glo "_law_best") rfl)) (hr.mono (by decide)) tk (da_cons (de_name (i := 0) rfl (.inl rfl)) (da_cons (de_name (i := 5) rfl (.inr (.inl (by kernel_rfl)))) (da_cons (de_name (i := 2) rfl (.inl rfl)) (da_cons (de_lc (own := [("hue", 7)]) rfl nd (di_seq false (de_name (i := 3) rfl (.inl rfl))) (blkOk_by (N := N_l_bestr2) (sc := defScope (top 17)) (by decide +kernel)) (by decide) (fun _ _ _ _ _ => (dg_name (i := 7) nd rfl (.inl rfl))) (fun _ _ _ _ _ => (dps_one (db_cmp (opx_ne hu) snd_ne (de_name (i := 7) rfl (.inl rfl)) (de_name (i := 5) rfl (.inr (.inl (by kernel_rfl))))))) (fun _ _ _ _ _ => (de_name (i := 7) rfl (.inl rfl)))) da_nil)))) (ar_cons (ar_cons (ar_cons (ar_cons ar_nil))))))
    (dss_one (ds_set (i := 4) nd rfl (.inl rfl) (de_bi (call_min2 rfl) snd_min2 rfl (He.free_ok X0 G (c.fact 23 (f := .free "min") rfl)) (by decide +kernel) (da_cons (de_name (i := 4) rfl (.inl rfl)) (da_cons (de_add (de_ix hu1 (de_ix hu1 (de_name (i := 0) rfl (.inl rfl)) (de_name (i := 1) rfl (.inl rfl))) (de_name (i := 5) rfl (.inr (.inl (by kernel_rfl))))) (de_name (i := 6) rfl (.inl rfl))) da_nil)))))))
    (dss_one (ds_ret (de_move (i := 4) rfl (.inl rfl))))))
theorem ok_l_bestr2 (c : SaysZ fa fn fx K) (X0 : K.In base) (G : base.Ns mainGlobals mg) (T0 : TbB K mg base) : DefOk P w K mg base ("_law_best", none) 3 ["rinses", "here", "last", "left"] d_l_bestr2 := by
  obtain ⟨fd, F⟩ := c.def_ 10 rfl
  exact ⟨⟨fd, fo_l_bestr2 F c X0 G T0, F.bindsN fun _ _ _ _ _ _ us hl => match us, hl with | [_, _, _, _], _ => rfl⟩, F.kp⟩
theorem sc_l_bestr3 : FnScope N_l_bestr3 ["rinses", "here", "last", "left"] (defScope (top 17)) := ⟨rfl, rfl, rfl, by decide +kernel, rfl, by decide +kernel, by decide +kernel⟩
theorem fo_l_bestr3 {fd : FuncData} (F : FunD K "_law_best" "_law_best" (defArgs (top 17)) (defBody (top 17)) (defScope (top 17)) [] [] (He.fAd K ("_law_best", none)) fd) (c : SaysZ fa fn fx K) (X0 : K.In base) (G : base.Ns mainGlobals mg) (T0 : TbB K mg base) : FnOk P w K mg base (L2.CX P w) 4 (He.fAd K ("_law_best", none)) fd ["rinses", "here", "last", "left"] (spD K mg 4 d_l_bestr3) := by
  have O_l_bestr2 := ok_l_bestr2 (P := P) (w := w) c X0 G T0
  have nd := sc_l_bestr3.nd
  refine fn_d F sc_l_bestr3 (fun cdv A outer s H E hr tk po => ?_)
  have hu := hr.units
  have hu65 := Room.u65 hr
  have hu1 := Nat.lt_of_le_of_lt (Nat.add_le_add_left (show 1 ≤ 64 by decide) _) hu
  exact (dss_cons (ds_set (i := 4) nd rfl (.inl rfl) (de_ix hu1 (de_ix hu1 (de_name (i := 0) rfl (.inl rfl)) (de_name (i := 1) rfl (.inl rfl))) (de_name (i := 2) rfl (.inl rfl))))
    (dss_cons (ds_for po rfl (di_seq false (de_name (i := 3) rfl (.inl rfl))) (dg_name (i := 5) nd rfl (.inr (by kernel_rfl))) (dss_cons (ds_set (i := 6) nd rfl (.inl rfl) (de_fn O_l_bestr2 (He.glo_ok X0 G (c.fact 10 (f := .glo "_law_best") rfl)) (hr.mono (by decide)) tk (da_cons (de_name (i := 0) rfl (.inl rfl)) (da_cons (de_name (i := 5) rfl (.inr (.inl (by kernel_rfl)))) (da_cons (de_name (i := 2) rfl (.inl rfl)) (da_cons (de_lc (own := [("hue", 7)]) rfl nd (di_seq false (de_name (i := 3) rfl (.inl rfl))) (blkOk_by (N := N_l_bestr3) (sc := defScope (top 17)) (by decide +kernel)) (by decide) (fun _ _ _ _ _ => (dg_name (i := 7) nd rfl (.inl rfl))) (fun _ _ _ _ _ => (dps_one (db_cmp (opx_ne hu) snd_ne (de_name (i := 7) rfl (.inl rfl)) (de_name (i := 5) rfl (.inr (.inl (by kernel_rfl))))))) (fun _ _ _ _ _ => (de_name (i := 7) rfl (.inl rfl)))) da_nil)))) (ar_cons (ar_cons (ar_cons (ar_cons ar_nil))))))
    (dss_one (ds_set (i := 4) nd rfl (.inl rfl) (de_bi (call_min2 rfl) snd_min2 rfl (He.free_ok X0 G (c.fact 23 (f := .free "min") rfl)) (by decide +kernel) (da_cons (de_name (i := 4) rfl (.inl rfl)) (da_cons (de_add (de_ix hu1 (de_ix hu1 (de_name (i := 0) rfl (.inl rfl)) (de_name (i := 1) rfl (.inl rfl))) (de_name (i := 5) rfl (.inr (.inl (by kernel_rfl))))) (de_name (i := 6) rfl (.inl rfl))) da_nil)))))))
    (dss_one (ds_ret (de_move (i := 4) rfl (.inl rfl))))))
theorem ok_l_bestr3 (c : SaysZ fa fn fx K) (X0 : K.In base) (G : base.Ns mainGlobals mg) (T0 : TbB K mg base) : DefOk P w K mg base ("_law_best", none) 4 ["rinses", "here", "last", "left"] d_l_bestr3 := by
  obtain ⟨fd, F⟩ := c.def_ 10 rfl
  exact ⟨⟨fd, fo_l_bestr3 F c X0 G T0, F.bindsN fun _ _ _ _ _ _ us hl => match us, hl with | [_, _, _, _], _ => rfl⟩, F.kp⟩
theorem sc_l_best : FnScope N_l_best ["rinses", "here", "last", "left"] (defScope (top 17)) := ⟨rfl, rfl, rfl, by decide +kernel, rfl, by decide +kernel, by decide +kernel⟩
theorem fo_l_best {fd : FuncData} (F : FunD K "_law_best" "_law_best" (defArgs (top 17)) (defBody (top 17)) (defScope (top 17)) [] [] (He.fAd K ("_law_best", none)) fd) (c : SaysZ fa fn fx K) (X0 : K.In base) (G : base.Ns mainGlobals mg) (T0 : TbB K mg base) : FnOk P w K mg base (L2.CX P w) 5 (He.fAd K ("_law_best", none)) fd ["rinses", "here", "last", "left"] (spD K mg 4 d_l_best) := by
  have O_l_bestr3 := ok_l_bestr3 (P := P) (w := w) c X0 G T0
  have nd := sc_l_best.nd
  refine fn_d F sc_l_best (fun cdv A outer s H E hr tk po => ?_)
  have hu := hr.units
  have hu65 := Room.u65 hr
  have hu1 := Nat.lt_of_le_of_lt (Nat.add_le_add_left (show 1 ≤ 64 by decide) _) hu
  exact (dss_cons (ds_set (i := 4) nd rfl (.inl rfl) (de_ix hu1 (de_ix hu1 (de_name (i := 0) rfl (.inl rfl)) (de_name (i := 1) rfl (.inl rfl))) (de_name (i := 2) rfl (.inl rfl))))
    (dss_cons (ds_for po rfl (di_seq false (de_name (i := 3) rfl (.inl rfl))) (dg_name (i := 5) nd rfl (.inr (by kernel_rfl))) (dss_cons (ds_set (i := 6) nd rfl (.inl rfl) (de_fn O_l_bestr3 (He.glo_ok X0 G (c.fact 10 (f := .glo "_law_best") rfl)) (hr.mono (by decide)) tk (da_cons (de_name (i := 0) rfl (.inl rfl)) (da_cons (de_name (i := 5) rfl (.inr (.inl (by kernel_rfl)))) (da_cons (de_name (i := 2) rfl (.inl rfl)) (da_cons (de_lc (own := [("hue", 7)]) rfl nd (di_seq false (de_name (i := 3) rfl (.inl rfl))) (blkOk_by (N := N_l_best) (sc := defScope (top 17)) (by decide +kernel)) (by decide) (fun _ _ _ _ _ => (dg_name (i := 7) nd rfl (.inl rfl))) (fun _ _ _ _ _ => (dps_one (db_cmp (opx_ne hu) snd_ne (de_name (i := 7) rfl (.inl rfl)) (de_name (i := 5) rfl (.inr (.inl (by kernel_rfl))))))) (fun _ _ _ _ _ => (de_name (i := 7) rfl (.inl rfl)))) da_nil)))) (ar_cons (ar_cons (ar_cons (ar_cons ar_nil))))))
    (dss_one (ds_set (i := 4) nd rfl (.inl rfl) (de_bi (call_min2 rfl) snd_min2 rfl (He.free_ok X0 G (c.fact 23 (f := .free "min") rfl)) (by decide +kernel) (da_cons (de_name (i := 4) rfl (.inl rfl)) (da_cons (de_add (de_ix hu1 (de_ix hu1 (de_name (i := 0) rfl (.inl rfl)) (de_name (i := 1) rfl (.inl rfl))) (de_name (i := 5) rfl (.inr (.inl (by kernel_rfl))))) (de_name (i := 6) rfl (.inl rfl))) da_nil)))))))
    (dss_one (ds_ret (de_move (i := 4) rfl (.inl rfl))))))
theorem ok_l_best (c : SaysZ fa fn fx K) (X0 : K.In base) (G : base.Ns mainGlobals mg) (T0 : TbB K mg base) : DefOk P w K mg base ("_law_best", none) 5 ["rinses", "here", "last", "left"] d_l_best := by
  obtain ⟨fd, F⟩ := c.def_ 10 rfl
  exact ⟨⟨fd, fo_l_best F c X0 G T0, F.bindsN fun _ _ _ _ _ _ us hl => match us, hl with | [_, _, _, _], _ => rfl⟩, F.kp⟩
theorem sc_l_right : FnScope N_l_right ["found", "rinses"] (defScope (top 18)) := ⟨rfl, rfl, rfl, by decide +kernel, rfl, by decide +kernel, by decide +kernel⟩
theorem fo_l_right {fd : FuncData} (F : FunD K "_law_right" "_law_right" (defArgs (top 18)) (defBody (top 18)) (defScope (top 18)) [] [] (He.fAd K ("_law_right", none)) fd) (c : SaysZ fa fn fx K) (X0 : K.In base) (G : base.Ns mainGlobals mg) (T0 : TbB K mg base) : FnOk P w K mg base (L2.CX P w) 6 (He.fAd K ("_law_right", none)) fd ["found", "rinses"] (spD K mg 2 d_l_right) := by
  have O_l_best := ok_l_best (P := P) (w := w) c X0 G T0
  have O_l_whole := ok_l_whole (P := P) (w := w) c X0 G T0
  have nd := sc_l_right.nd
  refine fn_d F sc_l_right (fun cdv A outer s H E hr tk po => ?_)
  have hu := hr.units
  have hu65 := Room.u65 hr
  have hu1 := Nat.lt_of_le_of_lt (Nat.add_le_add_left (show 1 ≤ 64 by decide) _) hu
  exact (dss_cons (ds_set (i := 2) nd rfl (.inl rfl) (de_sub (de_bi call_len snd_len rfl (He.free_ok X0 G (c.fact 19 (f := .free "len") rfl)) (by decide +kernel) (da_cons (de_name (i := 1) rfl (.inl rfl)) da_nil)) de_int))
    (dss_cons (ds_if (DW.db (dw_or (db_not (db_truth (de_bi call_isi snd_isi rfl (He.free_ok X0 G (c.fact 15 (f := .free "isinstance") rfl)) (by decide +kernel) (da_cons (de_name (i := 0) rfl (.inl rfl)) (da_cons (de_bltn rfl (He.free_ok X0 G (c.fact 21 (f := .free "list") rfl)) (by decide +kernel)) da_nil))))) (dw_or1 (db_cmp (opx_ne hu) snd_ne (de_bi call_len snd_len rfl (He.free_ok X0 G (c.fact 19 (f := .free "len") rfl)) (by decide +kernel) (da_cons (de_name (i := 0) rfl (.inl rfl)) da_nil)) (de_add (de_name (i := 2) rfl (.inl rfl)) de_int))))) (dss_one (ds_ret de_bl)) dss_nil)
    (dss_cons (ds_for po rfl (di_rng1 rfl (He.free_ok X0 G (c.fact 20 (f := .free "range") rfl)) (da_cons (de_add (de_name (i := 2) rfl (.inl rfl)) de_int) da_nil)) (dg_name (i := 3) nd rfl (.inl rfl)) (dss_cons (ds_if (DW.db (dw_or (db_not (db_truth (de_bi call_isi snd_isi rfl (He.free_ok X0 G (c.fact 15 (f := .free "isinstance") rfl)) (by decide +kernel) (da_cons (de_ix hu1 (de_name (i := 0) rfl (.inl rfl)) (de_name (i := 3) rfl (.inl rfl))) (da_cons (de_bltn rfl (He.free_ok X0 G (c.fact 21 (f := .free "list") rfl)) (by decide +kernel)) da_nil))))) (dw_or1 (db_cmp (opx_ne hu) snd_ne (de_bi call_len snd_len rfl (He.free_ok X0 G (c.fact 19 (f := .free "len") rfl)) (by decide +kernel) (da_cons (de_ix hu1 (de_name (i := 0) rfl (.inl rfl)) (de_name (i := 3) rfl (.inl rfl))) da_nil)) (de_name (i := 2) rfl (.inl rfl)))))) (dss_one (ds_ret de_bl)) dss_nil)
    (dss_one (ds_for po rfl (di_rng1 rfl (He.free_ok X0 G (c.fact 20 (f := .free "range") rfl)) (da_cons (de_name (i := 2) rfl (.inl rfl)) da_nil)) (dg_name (i := 4) nd rfl (.inl rfl)) (dss_cons (ds_set (i := 5) nd rfl (.inl rfl) (de_fn O_l_best (He.glo_ok X0 G (c.fact 10 (f := .glo "_law_best") rfl)) (hr.mono (by decide)) tk (da_cons (de_name (i := 1) rfl (.inl rfl)) (da_cons (de_name (i := 3) rfl (.inl rfl)) (da_cons (de_name (i := 4) rfl (.inl rfl)) (da_cons (de_listRg rfl (de_name (i := 2) rfl (.inl rfl)) rfl (He.free_ok X0 G (c.fact 21 (f := .free "list") rfl)) rfl (He.free_ok X0 G (c.fact 20 (f := .free "range") rfl))) da_nil)))) (ar_cons (ar_cons (ar_cons (ar_cons ar_nil))))))
    (dss_one (ds_if (DW.db (dw_or (db_not (db_truth (de_fn O_l_whole (He.glo_ok X0 G (c.fact 9 (f := .glo "_law_whole") rfl)) (hr.mono (by decide)) tk (da_cons (de_ix hu1 (de_ix hu1 (de_name (i := 0) rfl (.inl rfl)) (de_name (i := 3) rfl (.inl rfl))) (de_name (i := 4) rfl (.inl rfl))) da_nil) (ar_cons ar_nil)))) (dw_or1 (db_cmp (opx_ne hu) snd_ne (de_ix hu1 (de_ix hu1 (de_name (i := 0) rfl (.inl rfl)) (de_name (i := 3) rfl (.inl rfl))) (de_name (i := 4) rfl (.inl rfl))) (de_name (i := 5) rfl (.inl rfl)))))) (dss_one (ds_ret de_bl)) dss_nil)))))))
    (dss_one (ds_ret de_bl)))))
theorem ok_l_right (c : SaysZ fa fn fx K) (X0 : K.In base) (G : base.Ns mainGlobals mg) (T0 : TbB K mg base) : DefOk P w K mg base ("_law_right", none) 6 ["found", "rinses"] d_l_right := by
  obtain ⟨fd, F⟩ := c.def_ 11 rfl
  exact ⟨⟨fd, fo_l_right F c X0 G T0, F.bindsN fun _ _ _ _ _ _ us hl => match us, hl with | [_, _], _ => rfl⟩, F.kp⟩
theorem sc_law : FnScope N_law ["script"] (defScope (top 19)) := ⟨rfl, rfl, rfl, by decide +kernel, rfl, by decide +kernel, by decide +kernel⟩
theorem fo_law {fd : FuncData} (F : FunD K "law" "law" (defArgs (top 19)) (defBody (top 19)) (defScope (top 19)) [] [] (He.fAd K ("law", none)) fd) (c : SaysZ fa fn fx K) (X0 : K.In base) (G : base.Ns mainGlobals mg) (T0 : TbB K mg base) : FnOk P w K mg base (L2.CX P w) 7 (He.fAd K ("law", none)) fd ["script"] (spD K mg 1 d_law) := by
  have O_l_right := ok_l_right (P := P) (w := w) c X0 G T0
  have O_l_rinses := ok_l_rinses (P := P) (w := w) c X0 G T0
  have O_l_stream := ok_l_stream (P := P) (w := w) c X0 G T0
  have O_l_take := ok_l_take (P := P) (w := w) c X0 G T0
  have O_least_rinses := ok_least_rinses (P := P) (w := w) c X0 G T0
  have nd := sc_law.nd
  refine fn_d F sc_law (fun cdv A outer s H E hr tk po => ?_)
  have hu := hr.units
  have hu65 := Room.u65 hr
  have hu1 := Nat.lt_of_le_of_lt (Nat.add_le_add_left (show 1 ≤ 64 by decide) _) hu
  exact (dss_cons (ds_for po rfl (di_enum false (da_cons (de_add (de_slice (de_name (i := 0) rfl (.inl rfl)) dpo_none (dpo_some de_int)) (de_lst (da_cons de_int da_nil))) da_nil) fun p => pi_enum rfl (He.free_ok X0 G (c.fact 24 (f := .free "enumerate") rfl)) p) (dg_tup (dgs_cons (dg_name (i := 1) nd rfl (.inl rfl)) (dgs_cons (dg_name (i := 2) nd rfl (.inl rfl)) dgs_nil fun p q => pgs_cons p q) fun p q => pgs_cons p q) fun p => pg_tup rfl p) (dss_cons (ds_set (i := 3) nd rfl (.inl rfl) (de_fn O_l_stream (He.glo_ok X0 G (c.fact 5 (f := .glo "_law_stream") rfl)) (hr.mono (by decide)) tk (da_cons (de_lst (da_cons (de_val (de_name (i := 2) rfl (.inl rfl))) (da_cons (de_val (de_name (i := 1) rfl (.inl rfl))) da_nil))) (da_cons de_int da_nil)) (ar_cons (ar_cons ar_nil))))
    (dss_cons (ds_set (i := 4) nd rfl (.inl rfl) (de_fn O_l_rinses (He.glo_ok X0 G (c.fact 8 (f := .glo "_law_rinses") rfl)) (hr.mono (by decide)) tk (da_cons (de_name (i := 3) rfl (.inl rfl)) (da_cons (de_add de_int (de_fn O_l_take (He.glo_ok X0 G (c.fact 6 (f := .glo "_law_take") rfl)) (hr.mono (by decide)) tk (da_cons (de_name (i := 3) rfl (.inl rfl)) (da_cons de_int da_nil)) (ar_cons (ar_cons ar_nil)))) da_nil)) (ar_cons (ar_cons ar_nil))))
    (dss_cons (ds_setLc (i := 5) (own := [("row", 8)]) rfl nd rfl rfl (sw_true rfl rfl rfl (by decide +kernel)) (di_seq false (de_name (i := 4) rfl (.inl rfl))) (blkOk_by (N := N_law) (sc := defScope (top 19)) (by decide +kernel)) (by decide) (fun _ _ _ _ _ => (dg_name (i := 8) nd rfl (.inl rfl))) (fun _ _ _ _ _ => dps_nil) (fun _ _ _ _ _ => (de_bty call_list_of snd_listOf rfl (He.free_ok X0 G (c.fact 21 (f := .free "list") rfl)) (by decide +kernel) (da_cons (de_name (i := 8) rfl (.inl rfl)) da_nil))))
    (dss_cons (ds_set (i := 6) nd rfl (.inl rfl) (de_lend (i := 5) (de_fn O_least_rinses (He.glo_ok X0 G (c.fact 3 (f := .glo "least_rinses") rfl)) (hr.mono (by decide)) tk (da_cons (de_name (i := 5) rfl (.inl rfl)) da_nil) (ar_cons ar_nil))))
    (dss_cons (ds_if (DW.db (dw_or (db_cmp (opx_ne hu) snd_ne (de_name (i := 5) rfl (.inl rfl)) (de_name (i := 4) rfl (.inl rfl))) (dw_or1 (db_not (db_truth (de_fn O_l_right (He.glo_ok X0 G (c.fact 11 (f := .glo "_law_right") rfl)) (hr.mono (by decide)) tk (da_cons (de_name (i := 6) rfl (.inl rfl)) (da_cons (de_name (i := 4) rfl (.inl rfl)) da_nil)) (ar_cons (ar_cons ar_nil)))))))) (dss_one (ds_ret de_bl)) dss_nil)
    (dss_cons (ds_setLend (i := 7) (k := 6) (own := [("row", 8)]) rfl nd rfl rfl (sw_true rfl rfl rfl (by decide +kernel)) (di_seq false (de_name (i := 6) rfl (.inl rfl))) (blkOk_by (N := N_law) (sc := defScope (top 19)) (by decide +kernel)) (by decide) (fun _ _ _ _ _ => (dg_name (i := 8) nd rfl (.inl rfl))) (fun _ _ _ _ _ => dps_nil) (fun _ _ _ _ _ => (de_bty call_list_of snd_listOf rfl (He.free_ok X0 G (c.fact 21 (f := .free "list") rfl)) (by decide +kernel) (da_cons (de_name (i := 8) rfl (.inl rfl)) da_nil))))
    (dss_cons (ds_sub hu1 (de_ix hu1 (de_name (i := 5) rfl (.inl rfl)) de_int) de_int (de_mod (de_add (de_ix hu1 (de_ix hu1 (de_name (i := 5) rfl (.inl rfl)) de_int) de_int) de_int) (de_pow de_int de_int)))
    (dss_cons (ds_if (db_cmp (opx_ne hu) snd_ne (de_name (i := 6) rfl (.inl rfl)) (de_name (i := 7) rfl (.inl rfl))) (dss_one (ds_ret de_bl)) dss_nil)
    (dss_cons (ds_sub hu1 (de_ix hu1 (de_name (i := 6) rfl (.inl rfl)) de_int) de_int (de_sub de_int de_int))
    (dss_cons (ds_expr (de_bm PySem.F.plainAttrs_list PySem.F.slot_list_append PySem.F.type_list_append mt_append snd_append (de_ix hu1 (de_name (i := 6) rfl (.inl rfl)) de_int) (da_cons de_int da_nil)))
    (dss_cons (ds_expr (de_bm0 PySem.F.plainAttrs_list PySem.F.slot_list_pop PySem.F.type_list_pop mt_pop snd_pop (de_name (i := 6) rfl (.inl rfl))))
    (dss_cons (ds_if (db_cmp (opx_ne hu) snd_ne (de_fn O_least_rinses (He.glo_ok X0 G (c.fact 3 (f := .glo "least_rinses") rfl)) (hr.mono (by decide)) tk (da_cons (de_name (i := 4) rfl (.inl rfl)) da_nil) (ar_cons ar_nil)) (de_name (i := 7) rfl (.inl rfl))) (dss_one (ds_ret de_bl)) dss_nil)
    (dss_cons (ds_expr (de_lend (i := 5) (de_fn O_least_rinses (He.glo_ok X0 G (c.fact 3 (f := .glo "least_rinses") rfl)) (hr.mono (by decide)) tk (da_cons (de_name (i := 5) rfl (.inl rfl)) da_nil) (ar_cons ar_nil))))
    (dss_one (ds_if (db_cmp (opx_ne hu) snd_ne (de_fn O_least_rinses (He.glo_ok X0 G (c.fact 3 (f := .glo "least_rinses") rfl)) (hr.mono (by decide)) tk (da_cons (de_name (i := 4) rfl (.inl rfl)) da_nil) (ar_cons ar_nil)) (de_name (i := 7) rfl (.inl rfl))) (dss_one (ds_ret de_bl)) dss_nil))))))))))))))))
    (dss_one (ds_ret de_bl)))
theorem ok_law (c : SaysZ fa fn fx K) (X0 : K.In base) (G : base.Ns mainGlobals mg) (T0 : TbB K mg base) : DefOk P w K mg base ("law", none) 7 ["script"] d_law := by
  obtain ⟨fd, F⟩ := c.def_ 12 rfl
  exact ⟨⟨fd, fo_law F c X0 G T0, F.bindsN fun _ _ _ _ _ _ us hl => match us, hl with | [_], _ => rfl⟩, F.kp⟩
end
def loose : List Str := (["MOST_HUES", "NoRinses", "RinseError", "_law_best", "_law_mixed", "_law_right", "_law_rinse", "_law_rinses", "_law_stream", "_law_take", "_law_whole", "is_whole", "least_rinses", "look_at_rinses", "sums_and_ways"] : List Str)
abbrev R : PySem.W.OpenRow := PySem.W.OpenLaw.row PySem.Challenge.rw_rinsework_k03_least_rinses
abbrev hk : PySem.W.Hook := hookT 6 fa fn fx
def ob (s : PySem.W.SharedT) : AlX := obsTG 6 fa fn fx (HandSHeadRun.getT s)
theorem ob_eq (s : PySem.W.SharedT) : ob s = hk.obs s.abs := obsTG_eq (HandSHeadRun.getT_eq s)
theorem run (w : World) : HandSHeadRun.RunEq R (PySem.W.view R.prog [19]) hk ob 4000 loose w := by
  intro os
  kernel_rfl
end Rw

set_option maxRecDepth 100000
set_option maxHeartbeats 400000
set_option linter.all false
set_option exponentiation.threshold 3000
namespace Rw
open DL
theorem take_ok (n m : Int) (hm : 0 < m) (hw : m.natAbs.log2 < 9000) : d_l_take [⟨false, .lst true [.int n]⟩, ⟨false, .int m⟩] = .ok (.int (n % m)) [.lst true [.int (n / m)], .int m] := by
  unfold d_l_take mkFn b_l_take
  simp [fE, ice, ices, sSeq, sSet, sSub, sRet, sRetN, sIf, sX, sNil, sPass, sBrk, sCnt, sFor, eV, eIx, eOp2, eRd, eCons, eConsC, eNil, eN, eC, eMv, eAnd, eOr, eNot, eIf, eNeg, eB, eMk, eChain, eLc, eDic0, eInt, bT, bB, bAnd, bOr, bNot, bYes, tru, iSeq, itO, iRng1, iRng2, iRng3, iEnm, iZp, enumD, zipD, isLst, kidsI, R.bind, R.bindS, R.mapE, Out.mapE, lockO, unlockO, lockL, unlockL, setLk, lkAt, rdO, rdL, tmpL, mkLst, mkTup, ixO, ixD, pick, putAt, D.kids, D.setK, isOwn, g1L, g2L, gI, gI0, gAdd, gSub, gMul, gFdiv, gMod, gPow, gC, gLt, gLe, gGt, gGe, gEq_ii, gEq_ss, gEq_bb, gEq_nn, gEq_in, gEq_ni, gEq_sn, gEq_ns, gEq_ints, gNe, neB, gIs, gIsnt, gIn, gNotIn, gLen, gSum, gAll, gAny, gMaxL, gMinL, gMax2, gMin2, gAbs, gStr, gIsi, tyD, isiB, tyList, flatD, eqD, gSlice, oD, vlO, setN, gdNil, gdCons, gdTup, wipeE, lcL, forL, eCall, okS, argL, argO, slotO, liftG, mSet, mSetL, mAppend, mClear, mReverse, chkT, ddA, wrL, wr1, back, setD, outs, L2.ixN, fz, fzs, line24, ices_ints, ices_strs, ices_bls, fzs_ints, fzs_strs, intsD_map, blsD_map, strsD_map, ices_app, fzs_app, gListOf, mPop, mPopAt, mInsert, gInX, gNotInX, inDic, keyD, isSc, gIntOf, gRevL, eFld, fldO, mFld, sFldS, sTupS, setNs, eMake, chkI, mSetD, ixl_1_0, ixm_1, ixl_2_0, ixl_2_1, ixm_2, ixl_3_0, ixl_3_1, ixl_3_2, ixm_3, ixl_4_0, ixl_4_1, ixl_4_2, ixl_4_3, ixm_4, ixl_5_0, ixl_5_1, ixl_5_2, ixl_5_3, ixl_5_4, ixm_5, ixl_6_0, ixl_6_1, ixl_6_2, ixl_6_3, ixl_6_4, ixl_6_5, ixm_6, eFz, gNe_ii, gNe_ss, gNe_bb, gNe_nn, gNe_in, gNe_ni, gMaxE, gMinE, ixN_zero, ixN_end, sof_inj, hm, hw, L2.CDivW]
theorem whole_ok (l : Bool) (d : D) (hi : ice d = true) : ∀ t, tyD d = some t → d_is_whole [⟨l, d⟩] = .ok (.bl (t == "int")) [d] := by
  intro t ht
  unfold d_is_whole mkFn b_is_whole
  cases d <;> simp [tyD] at ht <;> subst ht <;> simp [ice] at hi <;> simp [fE, ice, ices, sSeq, sSet, sSub, sRet, sRetN, sIf, sX, sNil, sPass, sBrk, sCnt, sFor, eV, eIx, eOp2, eRd, eCons, eConsC, eNil, eN, eC, eMv, eAnd, eOr, eNot, eIf, eNeg, eB, eMk, eChain, eLc, eDic0, eInt, bT, bB, bAnd, bOr, bNot, bYes, tru, iSeq, itO, iRng1, iRng2, iRng3, iEnm, iZp, enumD, zipD, isLst, kidsI, R.bind, R.bindS, R.mapE, Out.mapE, lockO, unlockO, lockL, unlockL, setLk, lkAt, rdO, rdL, tmpL, mkLst, mkTup, ixO, ixD, pick, putAt, D.kids, D.setK, isOwn, g1L, g2L, gI, gI0, gAdd, gSub, gMul, gFdiv, gMod, gPow, gC, gLt, gLe, gGt, gGe, gEq_ii, gEq_ss, gEq_bb, gEq_nn, gEq_in, gEq_ni, gEq_sn, gEq_ns, gEq_ints, gNe, neB, gIs, gIsnt, gIn, gNotIn, gLen, gSum, gAll, gAny, gMaxL, gMinL, gMax2, gMin2, gAbs, gStr, gIsi, tyD, isiB, tyList, flatD, eqD, gSlice, oD, vlO, setN, gdNil, gdCons, gdTup, wipeE, lcL, forL, eCall, okS, argL, argO, slotO, liftG, mSet, mSetL, mAppend, mClear, mReverse, chkT, ddA, wrL, wr1, back, setD, outs, L2.ixN, fz, fzs, line24, ices_ints, ices_strs, ices_bls, fzs_ints, fzs_strs, intsD_map, blsD_map, strsD_map, ices_app, fzs_app, gListOf, mPop, mPopAt, mInsert, gInX, gNotInX, inDic, keyD, isSc, gIntOf, gRevL, eFld, fldO, mFld, sFldS, sTupS, setNs, eMake, chkI, mSetD, ixl_1_0, ixm_1, ixl_2_0, ixl_2_1, ixm_2, ixl_3_0, ixl_3_1, ixl_3_2, ixm_3, ixl_4_0, ixl_4_1, ixl_4_2, ixl_4_3, ixm_4, ixl_5_0, ixl_5_1, ixl_5_2, ixl_5_3, ixl_5_4, ixm_5, ixl_6_0, ixl_6_1, ixl_6_2, ixl_6_3, ixl_6_4, ixl_6_5, ixm_6, eFz, gNe_ii, gNe_ss, gNe_bb, gNe_nn, gNe_in, gNe_ni, gMaxE, gMinE, ixN_zero, ixN_end, sof_inj, hi]
theorem mixed_ok (c k : Int) (hk : 0 ≤ k) (hk2 : k < 100) : ∃ r : Int, d_l_mixed [⟨false, .int c⟩, ⟨false, .int k⟩] = .ok (.int r) [.int c, .int k] ∧ 0 ≤ r ∧ r < 2147483647 := by
  refine ⟨((c % 1000000007 + 7919 * k + 101) * 48271 % 2147483647) * ((c % 1000000007 + 7919 * k + 101) * 48271 % 2147483647) % 2147483629 * 69621 % 2147483647, ?_, Int.emod_nonneg _ (by decide), Int.emod_lt_of_pos _ (by decide)⟩
  unfold d_l_mixed mkFn b_l_mixed
  have a0 := Int.emod_nonneg c (show (1000000007 : Int) ≠ 0 by decide)
  have a1 := Int.emod_lt_of_pos c (show (0 : Int) < 1000000007 by decide)
  have w : ∀ z : Int, 0 ≤ z → z < 2147483647 → z.natAbs.log2 < 31 := fun z h1 h2 => log2_small (by omega) (by decide)
  have c1 : L2.CMulW 7919 k := by unfold L2.CMulW; have := w k hk (by omega); have : (7919 : Int).natAbs.log2 = 12 := by decide
                                  omega
  have c2 : L2.CMulW (c % 1000000007 + 7919 * k + 101) 48271 := by
    unfold L2.CMulW; have := w (c % 1000000007 + 7919 * k + 101) (by omega) (by omega); have : (48271 : Int).natAbs.log2 = 15 := by decide
    omega
  have b0 := Int.emod_nonneg ((c % 1000000007 + 7919 * k + 101) * 48271) (show (2147483647 : Int) ≠ 0 by decide)
  have b1 := Int.emod_lt_of_pos ((c % 1000000007 + 7919 * k + 101) * 48271) (show (0 : Int) < 2147483647 by decide)
  generalize hone : (c % 1000000007 + 7919 * k + 101) * 48271 % 2147483647 = one at b0 b1
  have c3 : L2.CMulW one one := by unfold L2.CMulW; have := w one b0 b1; omega
  have d0 := Int.emod_nonneg (one * one) (show (2147483629 : Int) ≠ 0 by decide)
  have d1 := Int.emod_lt_of_pos (one * one) (show (0 : Int) < 2147483629 by decide)
  have c4 : L2.CMulW (one * one % 2147483629) 69621 := by
    unfold L2.CMulW; have := w (one * one % 2147483629) d0 (by omega); have : (69621 : Int).natAbs.log2 = 16 := by decide
    omega
  simp [fE, ice, ices, sSeq, sSet, sSub, sRet, sRetN, sIf, sX, sNil, sPass, sBrk, sCnt, sFor, eV, eIx, eOp2, eRd, eCons, eConsC, eNil, eN, eC, eMv, eAnd, eOr, eNot, eIf, eNeg, eB, eMk, eChain, eLc, eDic0, eInt, bT, bB, bAnd, bOr, bNot, bYes, tru, iSeq, itO, iRng1, iRng2, iRng3, iEnm, iZp, enumD, zipD, isLst, kidsI, R.bind, R.bindS, R.mapE, Out.mapE, lockO, unlockO, lockL, unlockL, setLk, lkAt, rdO, rdL, tmpL, mkLst, mkTup, ixO, ixD, pick, putAt, D.kids, D.setK, isOwn, g1L, g2L, gI, gI0, gAdd, gSub, gMul, gFdiv, gMod, gPow, gC, gLt, gLe, gGt, gGe, gEq_ii, gEq_ss, gEq_bb, gEq_nn, gEq_in, gEq_ni, gEq_sn, gEq_ns, gEq_ints, gNe, neB, gIs, gIsnt, gIn, gNotIn, gLen, gSum, gAll, gAny, gMaxL, gMinL, gMax2, gMin2, gAbs, gStr, gIsi, tyD, isiB, tyList, flatD, eqD, gSlice, oD, vlO, setN, gdNil, gdCons, gdTup, wipeE, lcL, forL, eCall, okS, argL, argO, slotO, liftG, mSet, mSetL, mAppend, mClear, mReverse, chkT, ddA, wrL, wr1, back, setD, outs, L2.ixN, fz, fzs, line24, ices_ints, ices_strs, ices_bls, fzs_ints, fzs_strs, intsD_map, blsD_map, strsD_map, ices_app, fzs_app, gListOf, mPop, mPopAt, mInsert, gInX, gNotInX, inDic, keyD, isSc, gIntOf, gRevL, eFld, fldO, mFld, sFldS, sTupS, setNs, eMake, chkI, mSetD, ixl_1_0, ixm_1, ixl_2_0, ixl_2_1, ixm_2, ixl_3_0, ixl_3_1, ixl_3_2, ixm_3, ixl_4_0, ixl_4_1, ixl_4_2, ixl_4_3, ixm_4, ixl_5_0, ixl_5_1, ixl_5_2, ixl_5_3, ixl_5_4, ixm_5, ixl_6_0, ixl_6_1, ixl_6_2, ixl_6_3, ixl_6_4, ixl_6_5, ixm_6, eFz, gNe_ii, gNe_ss, gNe_bb, gNe_nn, gNe_in, gNe_ni, gMaxE, gMinE, ixN_zero, ixN_end, sof_inj, c1, c2, c3, c4, hone]

theorem small_rng (a b : Int) (ha : 0 ≤ a) (ha2 : a < 1000) (hb : 0 ≤ b) (hb2 : b < 1000) : PySem.Builtin.Range.small a b 12 = true ∧ 0 ≤ PySem.Builtin.Range.rangeSize a b 12 ∧ PySem.Builtin.Range.rangeSize a b 12 ≤ (b + 11) / 12 ∧ ∀ i : Int, 0 ≤ i → i < PySem.Builtin.Range.rangeSize a b 12 → a + i * 12 < b := by
  have hs : 0 ≤ PySem.Builtin.Range.rangeSize a b 12 ∧ PySem.Builtin.Range.rangeSize a b 12 ≤ (b + 11) / 12 ∧ ∀ i : Int, 0 ≤ i → i < PySem.Builtin.Range.rangeSize a b 12 → a + i * 12 < b := by
    unfold PySem.Builtin.Range.rangeSize
    rw [if_pos (by decide)]
    split
    · refine ⟨by omega, by omega, fun i h0 h => by omega⟩
    · refine ⟨by omega, by omega, fun i h0 h => by omega⟩
  refine ⟨?_, hs⟩
  obtain ⟨h0, h1, _⟩ := hs
  unfold PySem.Builtin.Range.small
  generalize PySem.Builtin.Range.rangeSize a b 12 = r at *
  have fl : ∀ z : Int, -2000 ≤ z → z < 3000 → PySem.Builtin.Range.rangeFitsLong z = true := fun z h1 h2 => by
    unfold PySem.Builtin.Range.rangeFitsLong; simp; omega
  rw [fl a (by omega) (by omega), fl b (by omega) (by omega), fl 12 (by omega) (by omega), fl r (by omega) (by omega), if_pos (by decide), fl _ (by omega) (by omega)]
  simp
theorem strm2 (b l1 l2 o : Bool) (ns : List Int) (k c j : Int) (h4 h5 : Sl) (m : Nat) (x : Int) (hm : L2.ixN ns.length j = some m) (hx : ns[m]? = some x) (i : Nat) (hi : i < 20) (hc : 0 ≤ c) (hc2 : c < 2 ^ (400 * i)) :
    ∃ c' : Int, fb2_l_stream [⟨b, l1, .lst o (ns.map .int)⟩, ⟨false, l2, .int k⟩, ⟨false, false, .int c⟩, ⟨false, false, .int j⟩, h4, h5] = .nx [⟨b, l1, .lst o (ns.map .int)⟩, ⟨false, l2, .int k⟩, ⟨false, false, .int c'⟩, ⟨false, false, .int j⟩, h4, h5] ∧ 0 ≤ c' ∧ c' < 2 ^ (400 * (i + 1)) := by
  refine ⟨c * (10 ^ 60 * 10 ^ 60) + x % (10 ^ 60 * 10 ^ 60), ?_, ?_, ?_⟩
  · unfold fb2_l_stream
    have w : L2.CMulW c (10 ^ 60 * 10 ^ 60) := by
      unfold L2.CMulW
      have h1 : c.natAbs < 2 ^ (400 * i + 1) := by
        have : ((c.natAbs : Nat) : Int) < 2 ^ (400 * i + 1) := by
          rw [Int.natAbs_of_nonneg hc]
          calc c < 2 ^ (400 * i) := hc2
            _ ≤ 2 ^ (400 * i + 1) := by rw [Int.pow_succ]; have : (0 : Int) ≤ 2 ^ (400 * i) := Int.pow_nonneg (by decide); omega
        exact_mod_cast this
      have h2 := log2_small h1 (by omega)
      have : ((10 : Int) ^ 60 * 10 ^ 60).natAbs.log2 = 398 := by decide
      omega
    cases o <;> simp [-Int.reducePow, -Int.reduceMul, fE, ice, ices, sSeq, sSet, sSub, sRet, sRetN, sIf, sX, sNil, sPass, sBrk, sCnt, sFor, eV, eIx, eOp2, eRd, eCons, eConsC, eNil, eN, eC, eMv, eAnd, eOr, eNot, eIf, eNeg, eB, eMk, eChain, eLc, eDic0, eInt, bT, bB, bAnd, bOr, bNot, bYes, tru, iSeq, itO, iRng1, iRng2, iRng3, iEnm, iZp, enumD, zipD, isLst, kidsI, R.bind, R.bindS, R.mapE, Out.mapE, lockO, unlockO, lockL, unlockL, setLk, lkAt, rdO, rdL, tmpL, mkLst, mkTup, ixO, ixD, pick, putAt, D.kids, D.setK, isOwn, g1L, g2L, gI, gI0, gAdd, gSub, gMul, gFdiv, gMod, gPow, gC, gLt, gLe, gGt, gGe, gEq_ii, gEq_ss, gEq_bb, gEq_nn, gEq_in, gEq_ni, gEq_sn, gEq_ns, gEq_ints, gNe, neB, gIs, gIsnt, gIn, gNotIn, gLen, gSum, gAll, gAny, gMaxL, gMinL, gMax2, gMin2, gAbs, gStr, gIsi, tyD, isiB, tyList, flatD, eqD, gSlice, oD, vlO, setN, gdNil, gdCons, gdTup, wipeE, lcL, forL, eCall, okS, argL, argO, slotO, liftG, mSet, mSetL, mAppend, mClear, mReverse, chkT, ddA, wrL, wr1, back, setD, outs, fz, fzs, line24, ices_ints, ices_strs, ices_bls, fzs_ints, fzs_strs, intsD_map, blsD_map, strsD_map, ices_app, fzs_app, gListOf, mPop, mPopAt, mInsert, gInX, gNotInX, inDic, keyD, isSc, gIntOf, gRevL, eFld, fldO, mFld, sFldS, sTupS, setNs, eMake, chkI, mSetD, ixl_1_0, ixm_1, ixl_2_0, ixl_2_1, ixm_2, ixl_3_0, ixl_3_1, ixl_3_2, ixm_3, ixl_4_0, ixl_4_1, ixl_4_2, ixl_4_3, ixm_4, ixl_5_0, ixl_5_1, ixl_5_2, ixl_5_3, ixl_5_4, ixm_5, ixl_6_0, ixl_6_1, ixl_6_2, ixl_6_3, ixl_6_4, ixl_6_5, ixm_6, eFz, gNe_ii, gNe_ss, gNe_bb, gNe_nn, gNe_in, gNe_ni, gMaxE, gMinE, ixN_zero, ixN_end, sof_inj, ices_ints, w, hm, hx, show L2.CPow 10 60 by decide, show L2.CMulW (10 ^ 60) (10 ^ 60) by decide, show (0 : Int) < 10 ^ 60 * 10 ^ 60 by decide]
  · have := Int.emod_nonneg x (show ((10 : Int) ^ 60 * 10 ^ 60) ≠ 0 by decide)
    have := Int.mul_nonneg hc (show (0 : Int) ≤ 10 ^ 60 * 10 ^ 60 by decide)
    omega
  · have h1 := Int.emod_lt_of_pos x (show (0 : Int) < (10 ^ 60 * 10 ^ 60) by decide)
    have h2 : (c + 1) * (10 ^ 60 * 10 ^ 60) ≤ 2 ^ (400 * i) * (2 ^ 400) := by
      refine Int.mul_le_mul (by omega) (by decide) (by decide) (Int.pow_nonneg (by decide))
    have h3 : (2 : Int) ^ (400 * (i + 1)) = 2 ^ (400 * i) * 2 ^ 400 := by rw [← Int.pow_add]; congr 1
    rw [h3, Int.add_mul] at *
    omega

theorem strm1 (b l1 l2 o : Bool) (ns : List Int) (k c f : Int) (hk : 0 ≤ k) (hk2 : k < 100) (j : Nat) (h5 : Sl) (hj : j < 12) (hn : ns.length ≤ 200) (hf : 0 ≤ f) (hf2 : f < 2 ^ (31 * (j + 1))) :
    ∃ f' : Int, fb1_l_stream [⟨b, l1, .lst o (ns.map .int)⟩, ⟨false, l2, .int k⟩, ⟨false, false, .int c⟩, ⟨false, false, .int j⟩, ⟨false, false, .int f⟩, h5] = .nx [⟨b, l1, .lst o (ns.map .int)⟩, ⟨false, l2, .int k⟩, ⟨false, false, .int c⟩, ⟨false, false, .int j⟩, ⟨false, false, .int f'⟩, h5] ∧ 0 ≤ f' ∧ f' < 2 ^ (31 * (j + 1 + 1)) := by
  obtain ⟨r, hr, r0, r1⟩ := mixed_ok (c + 1009 * k + ns.length) j (by omega) (by omega)
  refine ⟨f * 2147483647 + r, ?_, ?_, ?_⟩
  · unfold fb1_l_stream
    have w : L2.CMulW f 2147483647 := by
      unfold L2.CMulW
      have h1 : f.natAbs < 2 ^ (31 * (j + 1)) := by
        have : ((f.natAbs : Nat) : Int) < 2 ^ (31 * (j + 1)) := by
          rw [Int.natAbs_of_nonneg hf]; exact hf2
        exact_mod_cast this
      have h2 := log2_small h1 (by omega)
      have : (2147483647 : Int).natAbs.log2 = 30 := by decide
      omega
    have wk : L2.CMulW 1009 k := by
      unfold L2.CMulW
      have : k.natAbs.log2 < 7 := log2_small (by omega) (by decide)
      have : (1009 : Int).natAbs.log2 = 9 := by decide
      omega
    cases o <;> simp [fE, ice, ices, sSeq, sSet, sSub, sRet, sRetN, sIf, sX, sNil, sPass, sBrk, sCnt, sFor, eV, eIx, eOp2, eRd, eCons, eConsC, eNil, eN, eC, eMv, eAnd, eOr, eNot, eIf, eNeg, eB, eMk, eChain, eLc, eDic0, eInt, bT, bB, bAnd, bOr, bNot, bYes, tru, iSeq, itO, iRng1, iRng2, iRng3, iEnm, iZp, enumD, zipD, isLst, kidsI, R.bind, R.bindS, R.mapE, Out.mapE, lockO, unlockO, lockL, unlockL, setLk, lkAt, rdO, rdL, tmpL, mkLst, mkTup, ixO, ixD, pick, putAt, D.kids, D.setK, isOwn, g1L, g2L, gI, gI0, gAdd, gSub, gMul, gFdiv, gMod, gPow, gC, gLt, gLe, gGt, gGe, gEq_ii, gEq_ss, gEq_bb, gEq_nn, gEq_in, gEq_ni, gEq_sn, gEq_ns, gEq_ints, gNe, neB, gIs, gIsnt, gIn, gNotIn, gLen, gSum, gAll, gAny, gMaxL, gMinL, gMax2, gMin2, gAbs, gStr, gIsi, tyD, isiB, tyList, flatD, eqD, gSlice, oD, vlO, setN, gdNil, gdCons, gdTup, wipeE, lcL, forL, eCall, okS, argL, argO, slotO, liftG, mSet, mSetL, mAppend, mClear, mReverse, chkT, ddA, wrL, wr1, back, setD, outs, L2.ixN, fz, fzs, line24, ices_ints, ices_strs, ices_bls, fzs_ints, fzs_strs, intsD_map, blsD_map, strsD_map, ices_app, fzs_app, gListOf, mPop, mPopAt, mInsert, gInX, gNotInX, inDic, keyD, isSc, gIntOf, gRevL, eFld, fldO, mFld, sFldS, sTupS, setNs, eMake, chkI, mSetD, ixl_1_0, ixm_1, ixl_2_0, ixl_2_1, ixm_2, ixl_3_0, ixl_3_1, ixl_3_2, ixm_3, ixl_4_0, ixl_4_1, ixl_4_2, ixl_4_3, ixm_4, ixl_5_0, ixl_5_1, ixl_5_2, ixl_5_3, ixl_5_4, ixm_5, ixl_6_0, ixl_6_1, ixl_6_2, ixl_6_3, ixl_6_4, ixl_6_5, ixm_6, eFz, gNe_ii, gNe_ss, gNe_bb, gNe_nn, gNe_in, gNe_ni, gMaxE, gMinE, ixN_zero, ixN_end, sof_inj, ices_ints, w, wk, hr]
  · have := Int.mul_nonneg hf (show (0 : Int) ≤ 2147483647 by decide)
    omega
  · have h2 : (f + 1) * 2147483648 ≤ 2 ^ (31 * (j + 1)) * (2 ^ 31) := by
      refine Int.mul_le_mul (by omega) (by decide) (by decide) (Int.pow_nonneg (by decide))
    have h3 : (2 : Int) ^ (31 * (j + 1 + 1)) = 2 ^ (31 * (j + 1)) * 2 ^ 31 := by rw [← Int.pow_add]; congr 1
    rw [h3]
    omega

theorem stream_ok (l1 l2 o : Bool) (ns : List Int) (k : Int) (hk : 0 ≤ k) (hk2 : k < 100) (hn : ns.length ≤ 200) : ∃ n : Int, 0 ≤ n ∧ d_l_stream [⟨l1, .lst o (ns.map .int)⟩, ⟨l2, .int k⟩] = .ok (.lst true [.int n]) [.lst o (ns.map .int), .int k] := by
  obtain ⟨hs, hr0, hr1, hr2⟩ := small_rng k ns.length hk (by omega) (by omega) (by omega)
  unfold d_l_stream mkFn b_l_stream
  have h2 := forL_inv (gd := setN 3) (bf := fb2_l_stream) (fun i δ => ∃ (c : Int) (b : Bool) (d : D), δ = [⟨b, l1, .lst o (ns.map .int)⟩, ⟨false, l2, .int k⟩, ⟨false, false, .int c⟩, ⟨false, false, d⟩, ⟨false, false, .hole⟩, ⟨false, false, .hole⟩] ∧ b = o ∧ 0 ≤ c ∧ c < 2 ^ (400 * i))
    ((List.range (PySem.Builtin.Range.rangeSize k ns.length 12).toNat).map fun i => .int (k + (i : Nat) * 12)) 0 [⟨o, l1, .lst o (ns.map .int)⟩, ⟨false, l2, .int k⟩, ⟨false, false, .int 0⟩, ⟨false, false, .hole⟩, ⟨false, false, .hole⟩, ⟨false, false, .hole⟩] ⟨0, o, .hole, rfl, rfl, by decide, by decide⟩
    (fun i d δ hd ⟨c, b, dj, e, hb, h0, h1⟩ => by
      subst e
      simp only [List.getElem?_map, Option.map_eq_some_iff] at hd
      obtain ⟨i', hi, rfl⟩ := hd
      rw [List.getElem?_eq_some_iff] at hi
      obtain ⟨hi, hi'⟩ := hi
      simp at hi hi'
      subst hi'
      have hlt := hr2 i (by omega) (by omega)
      have hm : L2.ixN ns.length (k + (i : Nat) * 12) = some (k + (i : Nat) * 12).toNat := by
        unfold L2.ixN; rw [if_pos (by omega), if_pos hlt]
      obtain ⟨c', e1, e2, e3⟩ := strm2 b l1 l2 o ns k c (k + (i : Nat) * 12) ⟨false, false, .hole⟩ ⟨false, false, .hole⟩ _ (ns[(k + (i : Nat) * 12).toNat]'(by omega)) hm (by simp) i (by omega) h0 (by simpa using h1)
      exact ⟨_, _, rfl, .inl e1, c', b, _, rfl, hb, e2, by simpa using e3⟩)
  obtain ⟨δ', h2, c, b, d, rfl, rfl, c0, c1⟩ := h2
  by_cases hc : c ≥ 10 ^ 18
  · refine ⟨c, c0, ?_⟩
    unfold f2_l_stream
    cases b <;> simp [-Int.reducePow, -Int.reduceMul, fE, ice, ices, sSeq, sSet, sSub, sRet, sRetN, sIf, sX, sNil, sPass, sBrk, sCnt, sFor, eV, eIx, eOp2, eRd, eCons, eConsC, eNil, eN, eC, eMv, eAnd, eOr, eNot, eIf, eNeg, eB, eMk, eChain, eLc, eDic0, eInt, bT, bB, bAnd, bOr, bNot, bYes, tru, iSeq, itO, iRng1, iRng2, iRng3, iEnm, iZp, enumD, zipD, isLst, kidsI, R.bind, R.bindS, R.mapE, Out.mapE, lockO, unlockO, lockL, unlockL, setLk, lkAt, rdO, rdL, tmpL, mkLst, mkTup, ixO, ixD, pick, putAt, D.kids, D.setK, isOwn, g1L, g2L, gI, gI0, gAdd, gSub, gMul, gFdiv, gMod, gPow, gC, gLt, gLe, gGt, gGe, gEq_ii, gEq_ss, gEq_bb, gEq_nn, gEq_in, gEq_ni, gEq_sn, gEq_ns, gEq_ints, gNe, neB, gIs, gIsnt, gIn, gNotIn, gLen, gSum, gAll, gAny, gMaxL, gMinL, gMax2, gMin2, gAbs, gStr, gIsi, tyD, isiB, tyList, flatD, eqD, gSlice, oD, vlO, setN, gdNil, gdCons, gdTup, wipeE, lcL, eCall, okS, argL, argO, slotO, liftG, mSet, mSetL, mAppend, mClear, mReverse, chkT, ddA, wrL, wr1, back, setD, outs, fz, fzs, line24, ices_ints, ices_strs, ices_bls, fzs_ints, fzs_strs, intsD_map, blsD_map, strsD_map, ices_app, fzs_app, gListOf, mPop, mPopAt, mInsert, gInX, gNotInX, inDic, keyD, isSc, gIntOf, gRevL, eFld, fldO, mFld, sFldS, sTupS, setNs, eMake, chkI, mSetD, ixl_1_0, ixm_1, ixl_2_0, ixl_2_1, ixm_2, ixl_3_0, ixl_3_1, ixl_3_2, ixm_3, ixl_4_0, ixl_4_1, ixl_4_2, ixl_4_3, ixm_4, ixl_5_0, ixl_5_1, ixl_5_2, ixl_5_3, ixl_5_4, ixm_5, ixl_6_0, ixl_6_1, ixl_6_2, ixl_6_3, ixl_6_4, ixl_6_5, ixm_6, eFz, gNe_ii, gNe_ss, gNe_bb, gNe_nn, gNe_in, gNe_ni, gMaxE, gMinE, ixN_zero, ixN_end, sof_inj, ices_ints, hs, hr0, h2, hc, show L2.CPow 10 18 by decide]
  · have hc' : ¬ (c ≥ 10 ^ 18) := hc
    have hlc := fun l3 : Bool => lcL_map (own := [5]) (gd := setN 5) (te := ce1_l_stream) (δ := [⟨b, l3, .lst b (ns.map .int)⟩, ⟨false, l2, .int k⟩, ⟨false, false, .int c⟩, ⟨false, false, d⟩, ⟨false, false, .hole⟩, ⟨false, false, .hole⟩])
      (fun d => match d with | .int y => .int (y % 10 ^ 18) | _ => .non) (ns.map .int) (by rw [line24]; simp; omega) (fun d hd => by
        obtain ⟨c, _, rfl⟩ := List.mem_map.mp hd
        refine ⟨[⟨b, l3, .lst b (ns.map .int)⟩, ⟨false, l2, .int k⟩, ⟨false, false, .int _⟩, ⟨false, false, d⟩, ⟨false, false, .hole⟩, ⟨false, false, .int c⟩], [⟨b, l3, .lst b (ns.map .int)⟩, ⟨false, l2, .int k⟩, ⟨false, false, .int _⟩, ⟨false, false, d⟩, ⟨false, false, .hole⟩, ⟨false, false, .int c⟩], rfl, ?_, rfl⟩
        unfold ce1_l_stream
        simp [-Int.reducePow, -Int.reduceMul, fE, ice, ices, sSeq, sSet, sSub, sRet, sRetN, sIf, sX, sNil, sPass, sBrk, sCnt, sFor, eV, eIx, eOp2, eRd, eCons, eConsC, eNil, eN, eC, eMv, eAnd, eOr, eNot, eIf, eNeg, eB, eMk, eChain, eLc, eDic0, eInt, bT, bB, bAnd, bOr, bNot, bYes, tru, iSeq, itO, iRng1, iRng2, iRng3, iEnm, iZp, enumD, zipD, isLst, kidsI, R.bind, R.bindS, R.mapE, Out.mapE, lockO, unlockO, lockL, unlockL, setLk, lkAt, rdO, rdL, tmpL, mkLst, mkTup, ixO, ixD, pick, putAt, D.kids, D.setK, isOwn, g1L, g2L, gI, gI0, gAdd, gSub, gMul, gFdiv, gMod, gPow, gC, gLt, gLe, gGt, gGe, gEq_ii, gEq_ss, gEq_bb, gEq_nn, gEq_in, gEq_ni, gEq_sn, gEq_ns, gEq_ints, gNe, neB, gIs, gIsnt, gIn, gNotIn, gLen, gSum, gAll, gAny, gMaxL, gMinL, gMax2, gMin2, gAbs, gStr, gIsi, tyD, isiB, tyList, flatD, eqD, gSlice, oD, vlO, setN, gdNil, gdCons, gdTup, wipeE, lcL, forL, eCall, okS, argL, argO, slotO, liftG, mSet, mSetL, mAppend, mClear, mReverse, chkT, ddA, wrL, wr1, back, setD, outs, L2.ixN, fz, fzs, line24, ices_ints, ices_strs, ices_bls, fzs_ints, fzs_strs, intsD_map, blsD_map, strsD_map, ices_app, fzs_app, gListOf, mPop, mPopAt, mInsert, gInX, gNotInX, inDic, keyD, isSc, gIntOf, gRevL, eFld, fldO, mFld, sFldS, sTupS, setNs, eMake, chkI, mSetD, ixl_1_0, ixm_1, ixl_2_0, ixl_2_1, ixm_2, ixl_3_0, ixl_3_1, ixl_3_2, ixm_3, ixl_4_0, ixl_4_1, ixl_4_2, ixl_4_3, ixm_4, ixl_5_0, ixl_5_1, ixl_5_2, ixl_5_3, ixl_5_4, ixm_5, ixl_6_0, ixl_6_1, ixl_6_2, ixl_6_3, ixl_6_4, ixl_6_5, ixm_6, eFz, gNe_ii, gNe_ss, gNe_bb, gNe_nn, gNe_in, gNe_ni, gMaxE, gMinE, ixN_zero, ixN_end, sof_inj, show L2.CPow 10 18 by decide, show (0 : Int) < 10 ^ 18 by decide])
    have hsum : ∃ S : List Int, (ns.map D.int).map (fun d => match d with | .int y => .int (y % 10 ^ 18) | _ => .non) = S.map D.int := ⟨ns.map fun y => y % 10 ^ 18, by simp⟩
    obtain ⟨S, hS⟩ := hsum
    rw [hS] at hlc
    have h1 := forL_inv (gd := setN 3) (bf := fb1_l_stream) (fun j δ => ∃ (f : Int) (dj : D), δ = [⟨b, l1, .lst b (ns.map .int)⟩, ⟨false, l2, .int k⟩, ⟨false, false, .int (c + S.sum)⟩, ⟨false, false, dj⟩, ⟨false, false, .int f⟩, ⟨false, false, .hole⟩] ∧ 0 ≤ f ∧ f < 2 ^ (31 * (j + 1)))
      ((List.range 12).map fun i => .int (i : Nat)) 0 [⟨b, l1, .lst b (ns.map .int)⟩, ⟨false, l2, .int k⟩, ⟨false, false, .int (c + S.sum)⟩, ⟨false, false, d⟩, ⟨false, false, .int 0⟩, ⟨false, false, .hole⟩] ⟨0, d, rfl, by decide, by decide⟩
      (fun i d δ hd ⟨f, dj, e, h0, h1⟩ => by
        subst e
        simp only [List.getElem?_map, Option.map_eq_some_iff] at hd
        obtain ⟨i', hi, rfl⟩ := hd
        rw [List.getElem?_eq_some_iff] at hi
        obtain ⟨hi, hi'⟩ := hi
        simp at hi hi'
        subst hi'
        obtain ⟨f', e1, e2, e3⟩ := strm1 b l1 l2 b ns k (c + S.sum) f hk hk2 i ⟨false, false, .hole⟩ hi hn h0 (by simpa using h1)
        exact ⟨_, _, rfl, .inl e1, f', _, rfl, e2, by simpa using e3⟩)
    obtain ⟨δ', h1, f, dj, rfl, f0, f1⟩ := h1
    refine ⟨f, f0, ?_⟩
    unfold f2_l_stream f1_l_stream c1_l_stream
    cases b <;> simp [-Int.reducePow, -Int.reduceMul, fE, ice, ices, sSeq, sSet, sSub, sRet, sRetN, sIf, sX, sNil, sPass, sBrk, sCnt, sFor, eV, eIx, eOp2, eRd, eCons, eConsC, eNil, eN, eC, eMv, eAnd, eOr, eNot, eIf, eNeg, eB, eMk, eChain, eLc, eDic0, eInt, bT, bB, bAnd, bOr, bNot, bYes, tru, iSeq, itO, iRng1, iRng2, iRng3, iEnm, iZp, enumD, zipD, isLst, kidsI, R.bind, R.bindS, R.mapE, Out.mapE, lockO, unlockO, lockL, unlockL, setLk, lkAt, rdO, rdL, tmpL, mkLst, mkTup, ixO, ixD, pick, putAt, D.kids, D.setK, isOwn, g1L, g2L, gI, gI0, gAdd, gSub, gMul, gFdiv, gMod, gPow, gC, gLt, gLe, gGt, gGe, gEq_ii, gEq_ss, gEq_bb, gEq_nn, gEq_in, gEq_ni, gEq_sn, gEq_ns, gEq_ints, gNe, neB, gIs, gIsnt, gIn, gNotIn, gLen, gSum, gAll, gAny, gMaxL, gMinL, gMax2, gMin2, gAbs, gStr, gIsi, tyD, isiB, tyList, flatD, eqD, gSlice, oD, vlO, setN, gdNil, gdCons, gdTup, wipeE, eCall, okS, argL, argO, slotO, liftG, mSet, mSetL, mAppend, mClear, mReverse, chkT, ddA, wrL, wr1, back, setD, outs, fz, fzs, line24, ices_ints, ices_strs, ices_bls, fzs_ints, fzs_strs, intsD_map, blsD_map, strsD_map, ices_app, fzs_app, gListOf, mPop, mPopAt, mInsert, gInX, gNotInX, inDic, keyD, isSc, gIntOf, gRevL, eFld, fldO, mFld, sFldS, sTupS, setNs, eMake, chkI, mSetD, ixl_1_0, ixm_1, ixl_2_0, ixl_2_1, ixm_2, ixl_3_0, ixl_3_1, ixl_3_2, ixm_3, ixl_4_0, ixl_4_1, ixl_4_2, ixl_4_3, ixm_4, ixl_5_0, ixl_5_1, ixl_5_2, ixl_5_3, ixl_5_4, ixm_5, ixl_6_0, ixl_6_1, ixl_6_2, ixl_6_3, ixl_6_4, ixl_6_5, ixm_6, eFz, gNe_ii, gNe_ss, gNe_bb, gNe_nn, gNe_in, gNe_ni, gMaxE, gMinE, ixN_zero, ixN_end, sof_inj, ices_ints, intsD_map, hs, hr0, h2, hc, hlc, h1, show L2.CPow 10 18 by decide, show InR 12 from inR_of (by decide) (by decide)]

def Good (m : Nat) (rows : List (List Int)) : Prop := rows.length = m + 1 ∧ ∀ r ∈ rows, r.length = m ∧ ∀ x ∈ r, 0 ≤ x ∧ x < 10 ^ 30
theorem rinse_ok (n : Int) : ∃ x m : Int, d_l_rinse [⟨false, .lst true [.int n]⟩] = .ok (.int x) [.lst true [.int m]] ∧ 0 ≤ x ∧ x < 10 ^ 30 := by
  have t := take_ok n 5 (by decide) (by decide)
  have b0 := Int.emod_nonneg n (show (5 : Int) ≠ 0 by decide)
  have b1 := Int.emod_lt_of_pos n (show (0 : Int) < 5 by decide)
  have tk : ∀ q : Int, 0 < q → q ≤ 10 ^ 30 → d_l_take [⟨false, .lst true [.int (n / 5)]⟩, ⟨false, .int q⟩] = .ok (.int (n / 5 % q)) [.lst true [.int (n / 5 / q)], .int q] := fun q h1 h2 => take_ok _ _ h1 (by
    have : q.natAbs.log2 < 100 := log2_small (by have : (10 : Int) ^ 30 < 2 ^ 100 := by decide
                                                 omega) (by decide)
    omega)
  have bd : ∀ q : Int, 0 < q → q ≤ 10 ^ 30 → 0 ≤ n / 5 % q ∧ n / 5 % q < 10 ^ 30 := fun q h1 h2 => ⟨Int.emod_nonneg _ (by omega), by have := Int.emod_lt_of_pos (n / 5) h1; omega⟩
  have hk : n % 5 = 0 ∨ n % 5 = 1 ∨ n % 5 = 2 ∨ n % 5 = 3 ∨ n % 5 = 4 := by omega
  rcases hk with h | h | h | h | h <;> rw [h] at t
  · exact ⟨n / 5 % 1, n / 5 / 1, by unfold d_l_rinse mkFn b_l_rinse; simp [fE, ice, ices, sSeq, sSet, sSub, sRet, sRetN, sIf, sX, sNil, sPass, sBrk, sCnt, sFor, eV, eIx, eOp2, eRd, eCons, eConsC, eNil, eN, eC, eMv, eAnd, eOr, eNot, eIf, eNeg, eB, eMk, eChain, eLc, eDic0, eInt, bT, bB, bAnd, bOr, bNot, bYes, tru, iSeq, itO, iRng1, iRng2, iRng3, iEnm, iZp, enumD, zipD, isLst, kidsI, R.bind, R.bindS, R.mapE, Out.mapE, lockO, unlockO, lockL, unlockL, setLk, lkAt, rdO, rdL, tmpL, mkLst, mkTup, ixO, ixD, pick, putAt, D.kids, D.setK, isOwn, g1L, g2L, gI, gI0, gAdd, gSub, gMul, gFdiv, gMod, gPow, gC, gLt, gLe, gGt, gGe, gEq_ii, gEq_ss, gEq_bb, gEq_nn, gEq_in, gEq_ni, gEq_sn, gEq_ns, gEq_ints, gNe, neB, gIs, gIsnt, gIn, gNotIn, gLen, gSum, gAll, gAny, gMaxL, gMinL, gMax2, gMin2, gAbs, gStr, gIsi, tyD, isiB, tyList, flatD, eqD, gSlice, oD, vlO, setN, gdNil, gdCons, gdTup, wipeE, lcL, forL, eCall, okS, argL, argO, slotO, liftG, mSet, mSetL, mAppend, mClear, mReverse, chkT, ddA, wrL, wr1, back, setD, outs, L2.ixN, fz, fzs, line24, ices_ints, ices_strs, ices_bls, fzs_ints, fzs_strs, intsD_map, blsD_map, strsD_map, ices_app, fzs_app, gListOf, mPop, mPopAt, mInsert, gInX, gNotInX, inDic, keyD, isSc, gIntOf, gRevL, eFld, fldO, mFld, sFldS, sTupS, setNs, eMake, chkI, mSetD, ixl_1_0, ixm_1, ixl_2_0, ixl_2_1, ixm_2, ixl_3_0, ixl_3_1, ixl_3_2, ixm_3, ixl_4_0, ixl_4_1, ixl_4_2, ixl_4_3, ixm_4, ixl_5_0, ixl_5_1, ixl_5_2, ixl_5_3, ixl_5_4, ixm_5, ixl_6_0, ixl_6_1, ixl_6_2, ixl_6_3, ixl_6_4, ixl_6_5, ixm_6, eFz, gNe_ii, gNe_ss, gNe_bb, gNe_nn, gNe_in, gNe_ni, gMaxE, gMinE, ixN_zero, ixN_end, sof_inj, t, tk 1 (by decide) (by decide)], bd 1 (by decide) (by decide)⟩
  · exact ⟨n / 5 % 4, n / 5 / 4, by unfold d_l_rinse mkFn b_l_rinse; simp [fE, ice, ices, sSeq, sSet, sSub, sRet, sRetN, sIf, sX, sNil, sPass, sBrk, sCnt, sFor, eV, eIx, eOp2, eRd, eCons, eConsC, eNil, eN, eC, eMv, eAnd, eOr, eNot, eIf, eNeg, eB, eMk, eChain, eLc, eDic0, eInt, bT, bB, bAnd, bOr, bNot, bYes, tru, iSeq, itO, iRng1, iRng2, iRng3, iEnm, iZp, enumD, zipD, isLst, kidsI, R.bind, R.bindS, R.mapE, Out.mapE, lockO, unlockO, lockL, unlockL, setLk, lkAt, rdO, rdL, tmpL, mkLst, mkTup, ixO, ixD, pick, putAt, D.kids, D.setK, isOwn, g1L, g2L, gI, gI0, gAdd, gSub, gMul, gFdiv, gMod, gPow, gC, gLt, gLe, gGt, gGe, gEq_ii, gEq_ss, gEq_bb, gEq_nn, gEq_in, gEq_ni, gEq_sn, gEq_ns, gEq_ints, gNe, neB, gIs, gIsnt, gIn, gNotIn, gLen, gSum, gAll, gAny, gMaxL, gMinL, gMax2, gMin2, gAbs, gStr, gIsi, tyD, isiB, tyList, flatD, eqD, gSlice, oD, vlO, setN, gdNil, gdCons, gdTup, wipeE, lcL, forL, eCall, okS, argL, argO, slotO, liftG, mSet, mSetL, mAppend, mClear, mReverse, chkT, ddA, wrL, wr1, back, setD, outs, L2.ixN, fz, fzs, line24, ices_ints, ices_strs, ices_bls, fzs_ints, fzs_strs, intsD_map, blsD_map, strsD_map, ices_app, fzs_app, gListOf, mPop, mPopAt, mInsert, gInX, gNotInX, inDic, keyD, isSc, gIntOf, gRevL, eFld, fldO, mFld, sFldS, sTupS, setNs, eMake, chkI, mSetD, ixl_1_0, ixm_1, ixl_2_0, ixl_2_1, ixm_2, ixl_3_0, ixl_3_1, ixl_3_2, ixm_3, ixl_4_0, ixl_4_1, ixl_4_2, ixl_4_3, ixm_4, ixl_5_0, ixl_5_1, ixl_5_2, ixl_5_3, ixl_5_4, ixm_5, ixl_6_0, ixl_6_1, ixl_6_2, ixl_6_3, ixl_6_4, ixl_6_5, ixm_6, eFz, gNe_ii, gNe_ss, gNe_bb, gNe_nn, gNe_in, gNe_ni, gMaxE, gMinE, ixN_zero, ixN_end, sof_inj, t, tk 4 (by decide) (by decide)], bd 4 (by decide) (by decide)⟩
  · exact ⟨n / 5 % 10, n / 5 / 10, by unfold d_l_rinse mkFn b_l_rinse; simp [fE, ice, ices, sSeq, sSet, sSub, sRet, sRetN, sIf, sX, sNil, sPass, sBrk, sCnt, sFor, eV, eIx, eOp2, eRd, eCons, eConsC, eNil, eN, eC, eMv, eAnd, eOr, eNot, eIf, eNeg, eB, eMk, eChain, eLc, eDic0, eInt, bT, bB, bAnd, bOr, bNot, bYes, tru, iSeq, itO, iRng1, iRng2, iRng3, iEnm, iZp, enumD, zipD, isLst, kidsI, R.bind, R.bindS, R.mapE, Out.mapE, lockO, unlockO, lockL, unlockL, setLk, lkAt, rdO, rdL, tmpL, mkLst, mkTup, ixO, ixD, pick, putAt, D.kids, D.setK, isOwn, g1L, g2L, gI, gI0, gAdd, gSub, gMul, gFdiv, gMod, gPow, gC, gLt, gLe, gGt, gGe, gEq_ii, gEq_ss, gEq_bb, gEq_nn, gEq_in, gEq_ni, gEq_sn, gEq_ns, gEq_ints, gNe, neB, gIs, gIsnt, gIn, gNotIn, gLen, gSum, gAll, gAny, gMaxL, gMinL, gMax2, gMin2, gAbs, gStr, gIsi, tyD, isiB, tyList, flatD, eqD, gSlice, oD, vlO, setN, gdNil, gdCons, gdTup, wipeE, lcL, forL, eCall, okS, argL, argO, slotO, liftG, mSet, mSetL, mAppend, mClear, mReverse, chkT, ddA, wrL, wr1, back, setD, outs, L2.ixN, fz, fzs, line24, ices_ints, ices_strs, ices_bls, fzs_ints, fzs_strs, intsD_map, blsD_map, strsD_map, ices_app, fzs_app, gListOf, mPop, mPopAt, mInsert, gInX, gNotInX, inDic, keyD, isSc, gIntOf, gRevL, eFld, fldO, mFld, sFldS, sTupS, setNs, eMake, chkI, mSetD, ixl_1_0, ixm_1, ixl_2_0, ixl_2_1, ixm_2, ixl_3_0, ixl_3_1, ixl_3_2, ixm_3, ixl_4_0, ixl_4_1, ixl_4_2, ixl_4_3, ixm_4, ixl_5_0, ixl_5_1, ixl_5_2, ixl_5_3, ixl_5_4, ixm_5, ixl_6_0, ixl_6_1, ixl_6_2, ixl_6_3, ixl_6_4, ixl_6_5, ixm_6, eFz, gNe_ii, gNe_ss, gNe_bb, gNe_nn, gNe_in, gNe_ni, gMaxE, gMinE, ixN_zero, ixN_end, sof_inj, t, tk 10 (by decide) (by decide)], bd 10 (by decide) (by decide)⟩
  · exact ⟨n / 5 % 1000, n / 5 / 1000, by unfold d_l_rinse mkFn b_l_rinse; simp [fE, ice, ices, sSeq, sSet, sSub, sRet, sRetN, sIf, sX, sNil, sPass, sBrk, sCnt, sFor, eV, eIx, eOp2, eRd, eCons, eConsC, eNil, eN, eC, eMv, eAnd, eOr, eNot, eIf, eNeg, eB, eMk, eChain, eLc, eDic0, eInt, bT, bB, bAnd, bOr, bNot, bYes, tru, iSeq, itO, iRng1, iRng2, iRng3, iEnm, iZp, enumD, zipD, isLst, kidsI, R.bind, R.bindS, R.mapE, Out.mapE, lockO, unlockO, lockL, unlockL, setLk, lkAt, rdO, rdL, tmpL, mkLst, mkTup, ixO, ixD, pick, putAt, D.kids, D.setK, isOwn, g1L, g2L, gI, gI0, gAdd, gSub, gMul, gFdiv, gMod, gPow, gC, gLt, gLe, gGt, gGe, gEq_ii, gEq_ss, gEq_bb, gEq_nn, gEq_in, gEq_ni, gEq_sn, gEq_ns, gEq_ints, gNe, neB, gIs, gIsnt, gIn, gNotIn, gLen, gSum, gAll, gAny, gMaxL, gMinL, gMax2, gMin2, gAbs, gStr, gIsi, tyD, isiB, tyList, flatD, eqD, gSlice, oD, vlO, setN, gdNil, gdCons, gdTup, wipeE, lcL, forL, eCall, okS, argL, argO, slotO, liftG, mSet, mSetL, mAppend, mClear, mReverse, chkT, ddA, wrL, wr1, back, setD, outs, L2.ixN, fz, fzs, line24, ices_ints, ices_strs, ices_bls, fzs_ints, fzs_strs, intsD_map, blsD_map, strsD_map, ices_app, fzs_app, gListOf, mPop, mPopAt, mInsert, gInX, gNotInX, inDic, keyD, isSc, gIntOf, gRevL, eFld, fldO, mFld, sFldS, sTupS, setNs, eMake, chkI, mSetD, ixl_1_0, ixm_1, ixl_2_0, ixl_2_1, ixm_2, ixl_3_0, ixl_3_1, ixl_3_2, ixm_3, ixl_4_0, ixl_4_1, ixl_4_2, ixl_4_3, ixm_4, ixl_5_0, ixl_5_1, ixl_5_2, ixl_5_3, ixl_5_4, ixm_5, ixl_6_0, ixl_6_1, ixl_6_2, ixl_6_3, ixl_6_4, ixl_6_5, ixm_6, eFz, gNe_ii, gNe_ss, gNe_bb, gNe_nn, gNe_in, gNe_ni, gMaxE, gMinE, ixN_zero, ixN_end, sof_inj, t, tk 1000 (by decide) (by decide)], bd 1000 (by decide) (by decide)⟩
  · exact ⟨n / 5 % 10 ^ 30, n / 5 / 10 ^ 30, by unfold d_l_rinse mkFn b_l_rinse; simp [-Int.reducePow, fE, ice, ices, sSeq, sSet, sSub, sRet, sRetN, sIf, sX, sNil, sPass, sBrk, sCnt, sFor, eV, eIx, eOp2, eRd, eCons, eConsC, eNil, eN, eC, eMv, eAnd, eOr, eNot, eIf, eNeg, eB, eMk, eChain, eLc, eDic0, eInt, bT, bB, bAnd, bOr, bNot, bYes, tru, iSeq, itO, iRng1, iRng2, iRng3, iEnm, iZp, enumD, zipD, isLst, kidsI, R.bind, R.bindS, R.mapE, Out.mapE, lockO, unlockO, lockL, unlockL, setLk, lkAt, rdO, rdL, tmpL, mkLst, mkTup, ixO, ixD, pick, putAt, D.kids, D.setK, isOwn, g1L, g2L, gI, gI0, gAdd, gSub, gMul, gFdiv, gMod, gPow, gC, gLt, gLe, gGt, gGe, gEq_ii, gEq_ss, gEq_bb, gEq_nn, gEq_in, gEq_ni, gEq_sn, gEq_ns, gEq_ints, gNe, neB, gIs, gIsnt, gIn, gNotIn, gLen, gSum, gAll, gAny, gMaxL, gMinL, gMax2, gMin2, gAbs, gStr, gIsi, tyD, isiB, tyList, flatD, eqD, gSlice, oD, vlO, setN, gdNil, gdCons, gdTup, wipeE, lcL, forL, eCall, okS, argL, argO, slotO, liftG, mSet, mSetL, mAppend, mClear, mReverse, chkT, ddA, wrL, wr1, back, setD, outs, L2.ixN, fz, fzs, line24, ices_ints, ices_strs, ices_bls, fzs_ints, fzs_strs, intsD_map, blsD_map, strsD_map, ices_app, fzs_app, gListOf, mPop, mPopAt, mInsert, gInX, gNotInX, inDic, keyD, isSc, gIntOf, gRevL, eFld, fldO, mFld, sFldS, sTupS, setNs, eMake, chkI, mSetD, ixl_1_0, ixm_1, ixl_2_0, ixl_2_1, ixm_2, ixl_3_0, ixl_3_1, ixl_3_2, ixm_3, ixl_4_0, ixl_4_1, ixl_4_2, ixl_4_3, ixm_4, ixl_5_0, ixl_5_1, ixl_5_2, ixl_5_3, ixl_5_4, ixm_5, ixl_6_0, ixl_6_1, ixl_6_2, ixl_6_3, ixl_6_4, ixl_6_5, ixm_6, eFz, gNe_ii, gNe_ss, gNe_bb, gNe_nn, gNe_in, gNe_ni, gMaxE, gMinE, ixN_zero, ixN_end, sof_inj, t, tk (10 ^ 30) (by decide) (by decide), show L2.CPow 10 30 by decide], bd (10 ^ 30) (by decide) (by decide)⟩
theorem row_ok (l : Bool) (n m : Int) (d2 : D) (hm : 0 ≤ m) (hm2 : m < 10) : ∃ (r : List Int) (n' : Int), c1_l_rinses [⟨true, false, .lst true [.int n]⟩, ⟨false, l, .int m⟩, ⟨false, false, d2⟩, ⟨false, false, .hole⟩] = .ok (.tmp (rowD true r)) [⟨true, false, .lst true [.int n']⟩, ⟨false, l, .int m⟩, ⟨false, false, d2⟩, ⟨false, false, .hole⟩] ∧ (r.length : Int) = m ∧ ∀ x ∈ r, 0 ≤ x ∧ x < 10 ^ 30 := by
  have h := lcL_inv (own := [3]) (gd := setN 3) (te := ce1_l_rinses) (fun i acc δ => ∃ (r : List Int) (n' : Int), acc = r.map .int ∧ r.length = i ∧ (∀ x ∈ r, 0 ≤ x ∧ x < 10 ^ 30) ∧ δ = [⟨true, false, .lst true [.int n']⟩, ⟨false, l, .int m⟩, ⟨false, false, d2⟩, ⟨false, false, .hole⟩])
    ((List.range m.toNat).map fun i => .int (i : Nat)) [] 0 [⟨true, false, .lst true [.int n]⟩, ⟨false, l, .int m⟩, ⟨false, false, d2⟩, ⟨false, false, .hole⟩] (by rw [line24, List.length_map, List.length_range]; simp only [List.length_nil]; omega) ⟨[], n, rfl, rfl, by simp, rfl⟩
    (fun k d acc δ hd ⟨r, n', e1, e2, e3, e4⟩ => by
      subst e1 e4
      simp only [List.getElem?_map, Option.map_eq_some_iff] at hd
      obtain ⟨i', hi, rfl⟩ := hd
      obtain ⟨x, m', hx, x0, x1⟩ := rinse_ok n'
      refine ⟨[⟨true, false, .lst true [.int n']⟩, ⟨false, l, .int m⟩, ⟨false, false, d2⟩, ⟨false, false, .int i'⟩], .int x, [⟨true, false, .lst true [.int m']⟩, ⟨false, l, .int m⟩, ⟨false, false, d2⟩, ⟨false, false, .int i'⟩], _, rfl, ?_, rfl, r ++ [x], m', by simp, by simp [e2], ?_, rfl⟩
      · unfold ce1_l_rinses; simp [fE, ice, ices, sSeq, sSet, sSub, sRet, sRetN, sIf, sX, sNil, sPass, sBrk, sCnt, sFor, eV, eIx, eOp2, eRd, eCons, eConsC, eNil, eN, eC, eMv, eAnd, eOr, eNot, eIf, eNeg, eB, eMk, eChain, eLc, eDic0, eInt, bT, bB, bAnd, bOr, bNot, bYes, tru, iSeq, itO, iRng1, iRng2, iRng3, iEnm, iZp, enumD, zipD, isLst, kidsI, R.bind, R.bindS, R.mapE, Out.mapE, lockO, unlockO, lockL, unlockL, setLk, lkAt, rdO, rdL, tmpL, mkLst, mkTup, ixO, ixD, pick, putAt, D.kids, D.setK, isOwn, g1L, g2L, gI, gI0, gAdd, gSub, gMul, gFdiv, gMod, gPow, gC, gLt, gLe, gGt, gGe, gEq_ii, gEq_ss, gEq_bb, gEq_nn, gEq_in, gEq_ni, gEq_sn, gEq_ns, gEq_ints, gNe, neB, gIs, gIsnt, gIn, gNotIn, gLen, gSum, gAll, gAny, gMaxL, gMinL, gMax2, gMin2, gAbs, gStr, gIsi, tyD, isiB, tyList, flatD, eqD, gSlice, oD, vlO, setN, gdNil, gdCons, gdTup, wipeE, lcL, forL, eCall, okS, argL, argO, slotO, liftG, mSet, mSetL, mAppend, mClear, mReverse, chkT, ddA, wrL, wr1, back, setD, outs, L2.ixN, fz, fzs, line24, ices_ints, ices_strs, ices_bls, fzs_ints, fzs_strs, intsD_map, blsD_map, strsD_map, ices_app, fzs_app, gListOf, mPop, mPopAt, mInsert, gInX, gNotInX, inDic, keyD, isSc, gIntOf, gRevL, eFld, fldO, mFld, sFldS, sTupS, setNs, eMake, chkI, mSetD, ixl_1_0, ixm_1, ixl_2_0, ixl_2_1, ixm_2, ixl_3_0, ixl_3_1, ixl_3_2, ixm_3, ixl_4_0, ixl_4_1, ixl_4_2, ixl_4_3, ixm_4, ixl_5_0, ixl_5_1, ixl_5_2, ixl_5_3, ixl_5_4, ixm_5, ixl_6_0, ixl_6_1, ixl_6_2, ixl_6_3, ixl_6_4, ixl_6_5, ixm_6, eFz, gNe_ii, gNe_ss, gNe_bb, gNe_nn, gNe_in, gNe_ni, gMaxE, gMinE, ixN_zero, ixN_end, sof_inj, hx]
      · intro y hy
        rcases List.mem_append.mp hy with h | h
        · exact e3 y h
        · rw [List.mem_singleton.mp h]; exact ⟨x0, x1⟩)
  obtain ⟨xs, δ', h1, r, n', rfl, e2, e3, rfl⟩ := h
  refine ⟨r, n', ?_, by simp at e2; omega, e3⟩
  unfold c1_l_rinses rowD
  generalize ce1_l_rinses = f at h1 ⊢
  simp [fE, ice, ices, sSeq, sSet, sSub, sRet, sRetN, sIf, sX, sNil, sPass, sBrk, sCnt, sFor, eV, eIx, eOp2, eRd, eCons, eConsC, eNil, eN, eC, eMv, eAnd, eOr, eNot, eIf, eNeg, eB, eMk, eChain, eLc, eDic0, eInt, bT, bB, bAnd, bOr, bNot, bYes, tru, iSeq, itO, iRng1, iRng2, iRng3, iEnm, iZp, enumD, zipD, isLst, kidsI, R.bind, R.bindS, R.mapE, Out.mapE, lockO, unlockO, lockL, unlockL, setLk, lkAt, rdO, rdL, tmpL, mkLst, mkTup, ixO, ixD, pick, putAt, D.kids, D.setK, isOwn, g1L, g2L, gI, gI0, gAdd, gSub, gMul, gFdiv, gMod, gPow, gC, gLt, gLe, gGt, gGe, gEq_ii, gEq_ss, gEq_bb, gEq_nn, gEq_in, gEq_ni, gEq_sn, gEq_ns, gEq_ints, gNe, neB, gIs, gIsnt, gIn, gNotIn, gLen, gSum, gAll, gAny, gMaxL, gMinL, gMax2, gMin2, gAbs, gStr, gIsi, tyD, isiB, tyList, flatD, eqD, gSlice, oD, vlO, setN, gdNil, gdCons, gdTup, wipeE, forL, eCall, okS, argL, argO, slotO, liftG, mSet, mSetL, mAppend, mClear, mReverse, chkT, ddA, wrL, wr1, back, setD, outs, L2.ixN, fz, fzs, line24, ices_ints, ices_strs, ices_bls, fzs_ints, fzs_strs, intsD_map, blsD_map, strsD_map, ices_app, fzs_app, gListOf, mPop, mPopAt, mInsert, gInX, gNotInX, inDic, keyD, isSc, gIntOf, gRevL, eFld, fldO, mFld, sFldS, sTupS, setNs, eMake, chkI, mSetD, ixl_1_0, ixm_1, ixl_2_0, ixl_2_1, ixm_2, ixl_3_0, ixl_3_1, ixl_3_2, ixm_3, ixl_4_0, ixl_4_1, ixl_4_2, ixl_4_3, ixm_4, ixl_5_0, ixl_5_1, ixl_5_2, ixl_5_3, ixl_5_4, ixm_5, ixl_6_0, ixl_6_1, ixl_6_2, ixl_6_3, ixl_6_4, ixl_6_5, ixm_6, eFz, gNe_ii, gNe_ss, gNe_bb, gNe_nn, gNe_in, gNe_ni, gMaxE, gMinE, ixN_zero, ixN_end, sof_inj, h1, show InR (m) from inR_of (by omega) (by omega)]
theorem rinses_ok (l : Bool) (n : Int) (m : Nat) (hm : m < 10) : ∃ (rows : List (List Int)) (n' : Int), d_l_rinses [⟨false, .lst true [.int n]⟩, ⟨l, .int m⟩] = .ok (matD true rows) [.lst true [.int n'], .int m] ∧ Good m rows := by
  have h := lcL_inv (own := [2]) (gd := setN 2) (te := ce2_l_rinses) (fun i acc δ => ∃ (rows : List (List Int)) (n' : Int), acc = rows.map (rowD true) ∧ rows.length = i ∧ (∀ r ∈ rows, r.length = m ∧ ∀ x ∈ r, 0 ≤ x ∧ x < 10 ^ 30) ∧ δ = [⟨true, false, .lst true [.int n']⟩, ⟨false, l, .int m⟩, ⟨false, false, .hole⟩, ⟨false, false, .hole⟩])
    ((List.range (m + 1)).map fun i => .int (i : Nat)) [] 0 [⟨true, false, .lst true [.int n]⟩, ⟨false, l, .int m⟩, ⟨false, false, .hole⟩, ⟨false, false, .hole⟩] (by rw [line24, List.length_map, List.length_range]; simp only [List.length_nil]; omega) ⟨[], n, rfl, rfl, by simp, rfl⟩
    (fun k d acc δ hd ⟨rows, n', e1, e2, e3, e4⟩ => by
      subst e1 e4
      simp only [List.getElem?_map, Option.map_eq_some_iff] at hd
      obtain ⟨i', hi, rfl⟩ := hd
      obtain ⟨r, m', hx, x0, x1⟩ := row_ok l n' m (.int i') (by omega) (by omega)
      refine ⟨[⟨true, false, .lst true [.int n']⟩, ⟨false, l, .int m⟩, ⟨false, false, .int i'⟩, ⟨false, false, .hole⟩], rowD true r, [⟨true, false, .lst true [.int m']⟩, ⟨false, l, .int m⟩, ⟨false, false, .int i'⟩, ⟨false, false, .hole⟩], _, rfl, ?_, rfl, rows ++ [r], m', by simp, by simp [e2], ?_, rfl⟩
      · exact eV_tmp hx
      · intro y hy
        rcases List.mem_append.mp hy with h | h
        · exact e3 y h
        · rw [List.mem_singleton.mp h]; exact ⟨by omega, x1⟩)
  obtain ⟨xs, δ', h1, rows, n', rfl, e2, e3, rfl⟩ := h
  refine ⟨rows, n', ?_, by simp at e2; omega, e3⟩
  unfold d_l_rinses mkFn b_l_rinses c2_l_rinses matD
  generalize ce2_l_rinses = f at h1 ⊢
  simp [fE, ice, ices, sSeq, sSet, sSub, sRet, sRetN, sIf, sX, sNil, sPass, sBrk, sCnt, sFor, eV, eIx, eOp2, eRd, eCons, eConsC, eNil, eN, eC, eMv, eAnd, eOr, eNot, eIf, eNeg, eB, eMk, eChain, eLc, eDic0, eInt, bT, bB, bAnd, bOr, bNot, bYes, tru, iSeq, itO, iRng1, iRng2, iRng3, iEnm, iZp, enumD, zipD, isLst, kidsI, R.bind, R.bindS, R.mapE, Out.mapE, lockO, unlockO, lockL, unlockL, setLk, lkAt, rdO, rdL, tmpL, mkLst, mkTup, ixO, ixD, pick, putAt, D.kids, D.setK, isOwn, g1L, g2L, gI, gI0, gAdd, gSub, gMul, gFdiv, gMod, gPow, gC, gLt, gLe, gGt, gGe, gEq_ii, gEq_ss, gEq_bb, gEq_nn, gEq_in, gEq_ni, gEq_sn, gEq_ns, gEq_ints, gNe, neB, gIs, gIsnt, gIn, gNotIn, gLen, gSum, gAll, gAny, gMaxL, gMinL, gMax2, gMin2, gAbs, gStr, gIsi, tyD, isiB, tyList, flatD, eqD, gSlice, oD, vlO, setN, gdNil, gdCons, gdTup, wipeE, forL, eCall, okS, argL, argO, slotO, liftG, mSet, mSetL, mAppend, mClear, mReverse, chkT, ddA, wrL, wr1, back, setD, outs, L2.ixN, fz, fzs, line24, ices_ints, ices_strs, ices_bls, fzs_ints, fzs_strs, intsD_map, blsD_map, strsD_map, ices_app, fzs_app, gListOf, mPop, mPopAt, mInsert, gInX, gNotInX, inDic, keyD, isSc, gIntOf, gRevL, eFld, fldO, mFld, sFldS, sTupS, setNs, eMake, chkI, mSetD, ixl_1_0, ixm_1, ixl_2_0, ixl_2_1, ixm_2, ixl_3_0, ixl_3_1, ixl_3_2, ixm_3, ixl_4_0, ixl_4_1, ixl_4_2, ixl_4_3, ixm_4, ixl_5_0, ixl_5_1, ixl_5_2, ixl_5_3, ixl_5_4, ixm_5, ixl_6_0, ixl_6_1, ixl_6_2, ixl_6_3, ixl_6_4, ixl_6_5, ixm_6, eFz, gNe_ii, gNe_ss, gNe_bb, gNe_nn, gNe_in, gNe_ni, gMaxE, gMinE, ixN_zero, ixN_end, sof_inj, h1, show InR ((m : Int) + 1) from inR_of (by omega) (by omega)]

theorem whole_int (l : Bool) (x : Int) : d_is_whole [⟨l, .int x⟩] = .ok (.bl true) [.int x] := whole_ok l (.int x) rfl _ rfl
theorem look1 (s0 s1 s2 : Sl) (x : Int) (hx : 0 ≤ x) : fb1_look_at_rinses [s0, s1, s2, ⟨false, false, .int x⟩] = .nx [s0, s1, s2, ⟨false, false, .int x⟩] := by
  have h := whole_int false x
  unfold fb1_look_at_rinses
  generalize d_is_whole = f at h ⊢
  simp [fE, ice, ices, sSeq, sSet, sSub, sRet, sRetN, sIf, sX, sNil, sPass, sBrk, sCnt, sFor, eV, eIx, eOp2, eRd, eCons, eConsC, eNil, eN, eC, eMv, eAnd, eOr, eNot, eIf, eNeg, eB, eMk, eChain, eLc, eDic0, eInt, bT, bB, bAnd, bOr, bNot, bYes, tru, iSeq, itO, iRng1, iRng2, iRng3, iEnm, iZp, enumD, zipD, isLst, kidsI, R.bind, R.bindS, R.mapE, Out.mapE, lockO, unlockO, lockL, unlockL, setLk, lkAt, rdO, rdL, tmpL, mkLst, mkTup, ixO, ixD, pick, putAt, D.kids, D.setK, isOwn, g1L, g2L, gI, gI0, gAdd, gSub, gMul, gFdiv, gMod, gPow, gC, gLt, gLe, gGt, gGe, gEq_ii, gEq_ss, gEq_bb, gEq_nn, gEq_in, gEq_ni, gEq_sn, gEq_ns, gEq_ints, gNe, neB, gIs, gIsnt, gIn, gNotIn, gLen, gSum, gAll, gAny, gMaxL, gMinL, gMax2, gMin2, gAbs, gStr, gIsi, tyD, isiB, tyList, flatD, eqD, gSlice, oD, vlO, setN, gdNil, gdCons, gdTup, wipeE, lcL, forL, eCall, okS, argL, argO, slotO, liftG, mSet, mSetL, mAppend, mClear, mReverse, chkT, ddA, wrL, wr1, back, setD, outs, L2.ixN, fz, fzs, line24, ices_ints, ices_strs, ices_bls, fzs_ints, fzs_strs, intsD_map, blsD_map, strsD_map, ices_app, fzs_app, gListOf, mPop, mPopAt, mInsert, gInX, gNotInX, inDic, keyD, isSc, gIntOf, gRevL, eFld, fldO, mFld, sFldS, sTupS, setNs, eMake, chkI, mSetD, ixl_1_0, ixm_1, ixl_2_0, ixl_2_1, ixm_2, ixl_3_0, ixl_3_1, ixl_3_2, ixm_3, ixl_4_0, ixl_4_1, ixl_4_2, ixl_4_3, ixm_4, ixl_5_0, ixl_5_1, ixl_5_2, ixl_5_3, ixl_5_4, ixm_5, ixl_6_0, ixl_6_1, ixl_6_2, ixl_6_3, ixl_6_4, ixl_6_5, ixm_6, eFz, gNe_ii, gNe_ss, gNe_bb, gNe_nn, gNe_in, gNe_ni, gMaxE, gMinE, ixN_zero, ixN_end, sof_inj, h, decide_eq_false (show ¬ x < 0 by omega)]
theorem look2 (s0 : Sl) (m : Nat) (r : List Int) (d3 : D) (hm : m < 10) (hr : r.length = m) (hx : ∀ x ∈ r, 0 ≤ x) : ∃ d, fb2_look_at_rinses [s0, ⟨false, false, .int m⟩, ⟨false, false, rowD false r⟩, ⟨false, false, d3⟩] = .nx [s0, ⟨false, false, .int m⟩, ⟨false, false, rowD false r⟩, ⟨false, false, d⟩] := by
  obtain ⟨d, h⟩ := forL_each (gd := setN 3) (bf := fb1_look_at_rinses) (fun d => [s0, ⟨false, false, .int m⟩, ⟨false, false, rowD false r⟩, ⟨false, false, d⟩]) (r.map .int) d3 (fun d _ e => rfl) (fun d hd => by
    obtain ⟨x, hx', rfl⟩ := List.mem_map.mp hd
    exact look1 _ _ _ _ (hx x hx'))
  refine ⟨d, ?_⟩
  unfold fb2_look_at_rinses f1_look_at_rinses
  generalize fb1_look_at_rinses = f at h ⊢
  unfold rowD at h ⊢
  simp [fE, ice, ices, sSeq, sSet, sSub, sRet, sRetN, sIf, sX, sNil, sPass, sBrk, sCnt, sFor, eV, eIx, eOp2, eRd, eCons, eConsC, eNil, eN, eC, eMv, eAnd, eOr, eNot, eIf, eNeg, eB, eMk, eChain, eLc, eDic0, eInt, bT, bB, bAnd, bOr, bNot, bYes, tru, iSeq, itO, iRng1, iRng2, iRng3, iEnm, iZp, enumD, zipD, isLst, kidsI, R.bind, R.bindS, R.mapE, Out.mapE, lockO, unlockO, lockL, unlockL, setLk, lkAt, rdO, rdL, tmpL, mkLst, mkTup, ixO, ixD, pick, putAt, D.kids, D.setK, isOwn, g1L, g2L, gI, gI0, gAdd, gSub, gMul, gFdiv, gMod, gPow, gC, gLt, gLe, gGt, gGe, gEq_ii, gEq_ss, gEq_bb, gEq_nn, gEq_in, gEq_ni, gEq_sn, gEq_ns, gEq_ints, gNe, neB, gIs, gIsnt, gIn, gNotIn, gLen, gSum, gAll, gAny, gMaxL, gMinL, gMax2, gMin2, gAbs, gStr, gIsi, tyD, isiB, tyList, flatD, eqD, gSlice, oD, vlO, setN, gdNil, gdCons, gdTup, wipeE, lcL, eCall, okS, argL, argO, slotO, liftG, mSet, mSetL, mAppend, mClear, mReverse, chkT, ddA, wrL, wr1, back, setD, outs, L2.ixN, fz, fzs, line24, ices_ints, ices_strs, ices_bls, fzs_ints, fzs_strs, intsD_map, blsD_map, strsD_map, ices_app, fzs_app, gListOf, mPop, mPopAt, mInsert, gInX, gNotInX, inDic, keyD, isSc, gIntOf, gRevL, eFld, fldO, mFld, sFldS, sTupS, setNs, eMake, chkI, mSetD, ixl_1_0, ixm_1, ixl_2_0, ixl_2_1, ixm_2, ixl_3_0, ixl_3_1, ixl_3_2, ixm_3, ixl_4_0, ixl_4_1, ixl_4_2, ixl_4_3, ixm_4, ixl_5_0, ixl_5_1, ixl_5_2, ixl_5_3, ixl_5_4, ixm_5, ixl_6_0, ixl_6_1, ixl_6_2, ixl_6_3, ixl_6_4, ixl_6_5, ixm_6, eFz, gNe_ii, gNe_ss, gNe_bb, gNe_nn, gNe_in, gNe_ni, gMaxE, gMinE, ixN_zero, ixN_end, sof_inj, h, hr, show m ≤ 16777216 by omega]
theorem look_ok (b : Bool) (m : Nat) (rows : List (List Int)) (hm : 1 ≤ m) (hm2 : m ≤ 4) (g : Good m rows) : d_look_at_rinses [⟨false, matD b rows⟩] = .ok .non [matD false rows] := by
  obtain ⟨d2, d3, h⟩ : ∃ d2 d3, forL (setN 2) fb2_look_at_rinses (rows.map (rowD false)) [⟨b, false, matD false rows⟩, ⟨false, false, .int m⟩, ⟨false, false, .hole⟩, ⟨false, false, .hole⟩] = .nx [⟨b, false, matD false rows⟩, ⟨false, false, .int m⟩, ⟨false, false, d2⟩, ⟨false, false, d3⟩] := by
    obtain ⟨δ', h, d2, d3, rfl⟩ := forL_inv (gd := setN 2) (bf := fb2_look_at_rinses) (fun _ δ => ∃ d2 d3, δ = [⟨b, false, matD false rows⟩, ⟨false, false, .int m⟩, ⟨false, false, d2⟩, ⟨false, false, d3⟩]) (rows.map (rowD false)) 0 [⟨b, false, matD false rows⟩, ⟨false, false, .int m⟩, ⟨false, false, .hole⟩, ⟨false, false, .hole⟩] ⟨_, _, rfl⟩
      (fun i d δ hd ⟨d2, d3, e⟩ => by
        subst e
        rw [List.getElem?_map, Option.map_eq_some_iff] at hd
        obtain ⟨r, hr, rfl⟩ := hd
        obtain ⟨d3', h3⟩ := look2 ⟨b, false, matD false rows⟩ m r d3 (by omega) (g.2 r (List.mem_of_getElem? hr)).1 (fun x hx => ((g.2 r (List.mem_of_getElem? hr)).2 x hx).1)
        exact ⟨_, _, rfl, .inl h3, _, _, rfl⟩)
    exact ⟨d2, d3, h⟩
  unfold d_look_at_rinses mkFn b_look_at_rinses f2_look_at_rinses
  generalize fb2_look_at_rinses = f at h ⊢
  unfold matD at h ⊢
  have hl : rows.length ≤ 16777216 := by rw [g.1]; omega
  have e1 : (rows.length : Int) - 1 = m := by rw [g.1]; omega
  cases b
  · simp [fE, ice, ices, sSeq, sSet, sSub, sRet, sRetN, sIf, sX, sNil, sPass, sBrk, sCnt, sFor, eV, eIx, eOp2, eRd, eCons, eConsC, eNil, eN, eC, eMv, eAnd, eOr, eNot, eIf, eNeg, eB, eMk, eChain, eLc, eDic0, eInt, bT, bB, bAnd, bOr, bNot, bYes, tru, iSeq, itO, iRng1, iRng2, iRng3, iEnm, iZp, enumD, zipD, isLst, kidsI, R.bind, R.bindS, R.mapE, Out.mapE, lockO, unlockO, lockL, unlockL, setLk, lkAt, rdO, rdL, tmpL, mkLst, mkTup, ixO, ixD, pick, putAt, D.kids, D.setK, isOwn, g1L, g2L, gI, gI0, gAdd, gSub, gMul, gFdiv, gMod, gPow, gC, gLt, gLe, gGt, gGe, gEq_ii, gEq_ss, gEq_bb, gEq_nn, gEq_in, gEq_ni, gEq_sn, gEq_ns, gEq_ints, gNe, neB, gIs, gIsnt, gIn, gNotIn, gLen, gSum, gAll, gAny, gMaxL, gMinL, gMax2, gMin2, gAbs, gStr, gIsi, tyD, isiB, tyList, flatD, eqD, gSlice, oD, vlO, setN, gdNil, gdCons, gdTup, wipeE, lcL, eCall, okS, argL, argO, slotO, liftG, mSet, mSetL, mAppend, mClear, mReverse, chkT, ddA, wrL, wr1, back, setD, outs, L2.ixN, fz, fzs, line24, ices_ints, ices_strs, ices_bls, fzs_ints, fzs_strs, intsD_map, blsD_map, strsD_map, ices_app, fzs_app, gListOf, mPop, mPopAt, mInsert, gInX, gNotInX, inDic, keyD, isSc, gIntOf, gRevL, eFld, fldO, mFld, sFldS, sTupS, setNs, eMake, chkI, mSetD, ixl_1_0, ixm_1, ixl_2_0, ixl_2_1, ixm_2, ixl_3_0, ixl_3_1, ixl_3_2, ixm_3, ixl_4_0, ixl_4_1, ixl_4_2, ixl_4_3, ixm_4, ixl_5_0, ixl_5_1, ixl_5_2, ixl_5_3, ixl_5_4, ixm_5, ixl_6_0, ixl_6_1, ixl_6_2, ixl_6_3, ixl_6_4, ixl_6_5, ixm_6, eFz, gNe_ii, gNe_ss, gNe_bb, gNe_nn, gNe_in, gNe_ni, gMaxE, gMinE, ixN_zero, ixN_end, sof_inj, h, hl, e1, ices_rows, fzs_rows, decide_eq_true (show (1 : Int) ≤ m by omega), decide_eq_true (show (m : Int) ≤ 4 by omega)]
  · have hi : ices (rows.map (rowD true)) = false := by
      cases rows with
      | nil => have := g.1; simp at this
      | cons r rs => simp [ices, ice, rowD]
    simp [fE, ice, ices, sSeq, sSet, sSub, sRet, sRetN, sIf, sX, sNil, sPass, sBrk, sCnt, sFor, eV, eIx, eOp2, eRd, eCons, eConsC, eNil, eN, eC, eMv, eAnd, eOr, eNot, eIf, eNeg, eB, eMk, eChain, eLc, eDic0, eInt, bT, bB, bAnd, bOr, bNot, bYes, tru, iSeq, itO, iRng1, iRng2, iRng3, iEnm, iZp, enumD, zipD, isLst, kidsI, R.bind, R.bindS, R.mapE, Out.mapE, lockO, unlockO, lockL, unlockL, setLk, lkAt, rdO, rdL, tmpL, mkLst, mkTup, ixO, ixD, pick, putAt, D.kids, D.setK, isOwn, g1L, g2L, gI, gI0, gAdd, gSub, gMul, gFdiv, gMod, gPow, gC, gLt, gLe, gGt, gGe, gEq_ii, gEq_ss, gEq_bb, gEq_nn, gEq_in, gEq_ni, gEq_sn, gEq_ns, gEq_ints, gNe, neB, gIs, gIsnt, gIn, gNotIn, gLen, gSum, gAll, gAny, gMaxL, gMinL, gMax2, gMin2, gAbs, gStr, gIsi, tyD, isiB, tyList, flatD, eqD, gSlice, oD, vlO, setN, gdNil, gdCons, gdTup, wipeE, lcL, eCall, okS, argL, argO, slotO, liftG, mSet, mSetL, mAppend, mClear, mReverse, chkT, ddA, wrL, wr1, back, setD, outs, L2.ixN, fz, fzs, line24, ices_ints, ices_strs, ices_bls, fzs_ints, fzs_strs, intsD_map, blsD_map, strsD_map, ices_app, fzs_app, gListOf, mPop, mPopAt, mInsert, gInX, gNotInX, inDic, keyD, isSc, gIntOf, gRevL, eFld, fldO, mFld, sFldS, sTupS, setNs, eMake, chkI, mSetD, ixl_1_0, ixm_1, ixl_2_0, ixl_2_1, ixm_2, ixl_3_0, ixl_3_1, ixl_3_2, ixm_3, ixl_4_0, ixl_4_1, ixl_4_2, ixl_4_3, ixm_4, ixl_5_0, ixl_5_1, ixl_5_2, ixl_5_3, ixl_5_4, ixm_5, ixl_6_0, ixl_6_1, ixl_6_2, ixl_6_3, ixl_6_4, ixl_6_5, ixm_6, eFz, gNe_ii, gNe_ss, gNe_bb, gNe_nn, gNe_in, gNe_ni, gMaxE, gMinE, ixN_zero, ixN_end, sof_inj, h, hl, e1, ices_rows, fzs_rows, hi, decide_eq_true (show (1 : Int) ≤ m by omega), decide_eq_true (show (m : Int) ≤ 4 by omega)]

theorem ix_in {n : Nat} {i : Int} (h1 : -1 ≤ i) (h2 : i < n) (h0 : 0 < n) : ∃ j, L2.ixN n i = some j ∧ j < n := by
  unfold L2.ixN
  by_cases h : 0 ≤ i
  · rw [if_pos h, if_pos h2]; exact ⟨_, rfl, by omega⟩
  · rw [if_neg h, if_pos (by omega)]; exact ⟨_, rfl, by omega⟩
theorem cell_ok {m : Nat} {rows : List (List Int)} (g : Good m rows) {i j : Int} (h1 : -1 ≤ i) (h2 : i ≤ m) (h3 : 0 ≤ j) (h4 : j < m) : ∃ ii jj r, L2.ixN rows.length i = some ii ∧ rows[ii]? = some r ∧ L2.ixN r.length j = some jj ∧ r[jj]? = some (cell rows i j) ∧ 0 ≤ cell rows i j ∧ cell rows i j < 10 ^ 30 := by
  obtain ⟨ii, e1, l1⟩ := ix_in (n := rows.length) h1 (by rw [g.1]; omega) (by rw [g.1]; omega)
  have hr := g.2 rows[ii] (List.getElem_mem l1)
  obtain ⟨jj, e2, l2⟩ := ix_in (n := rows[ii].length) (i := j) (by omega) (by rw [hr.1]; omega) (by rw [hr.1]; omega)
  have ec : cell rows i j = rows[ii][jj] := by
    unfold cell L2.atI
    simp [e1, List.getElem?_eq_getElem l1, e2, List.getElem?_eq_getElem l2]
  have hb := hr.2 _ (List.getElem_mem l2)
  rw [ec]
  exact ⟨ii, jj, rows[ii], e1, List.getElem?_eq_getElem l1, e2, List.getElem?_eq_getElem l2, hb.1, hb.2⟩
theorem lwhole_ok (l : Bool) (x : Int) : d_l_whole [⟨l, .int x⟩] = .ok (.bl true) [.int x] := by
  unfold d_l_whole mkFn b_l_whole
  simp [fE, ice, ices, sSeq, sSet, sSub, sRet, sRetN, sIf, sX, sNil, sPass, sBrk, sCnt, sFor, eV, eIx, eOp2, eRd, eCons, eConsC, eNil, eN, eC, eMv, eAnd, eOr, eNot, eIf, eNeg, eB, eMk, eChain, eLc, eDic0, eInt, bT, bB, bAnd, bOr, bNot, bYes, tru, iSeq, itO, iRng1, iRng2, iRng3, iEnm, iZp, enumD, zipD, isLst, kidsI, R.bind, R.bindS, R.mapE, Out.mapE, lockO, unlockO, lockL, unlockL, setLk, lkAt, rdO, rdL, tmpL, mkLst, mkTup, ixO, ixD, pick, putAt, D.kids, D.setK, isOwn, g1L, g2L, gI, gI0, gAdd, gSub, gMul, gFdiv, gMod, gPow, gC, gLt, gLe, gGt, gGe, gEq_ii, gEq_ss, gEq_bb, gEq_nn, gEq_in, gEq_ni, gEq_sn, gEq_ns, gEq_ints, gNe, neB, gIs, gIsnt, gIn, gNotIn, gLen, gSum, gAll, gAny, gMaxL, gMinL, gMax2, gMin2, gAbs, gStr, gIsi, tyD, isiB, tyList, flatD, eqD, gSlice, oD, vlO, setN, gdNil, gdCons, gdTup, wipeE, lcL, forL, eCall, okS, argL, argO, slotO, liftG, mSet, mSetL, mAppend, mClear, mReverse, chkT, ddA, wrL, wr1, back, setD, outs, L2.ixN, fz, fzs, line24, ices_ints, ices_strs, ices_bls, fzs_ints, fzs_strs, intsD_map, blsD_map, strsD_map, ices_app, fzs_app, gListOf, mPop, mPopAt, mInsert, gInX, gNotInX, inDic, keyD, isSc, gIntOf, gRevL, eFld, fldO, mFld, sFldS, sTupS, setNs, eMake, chkI, mSetD, ixl_1_0, ixm_1, ixl_2_0, ixl_2_1, ixm_2, ixl_3_0, ixl_3_1, ixl_3_2, ixm_3, ixl_4_0, ixl_4_1, ixl_4_2, ixl_4_3, ixm_4, ixl_5_0, ixl_5_1, ixl_5_2, ixl_5_3, ixl_5_4, ixm_5, ixl_6_0, ixl_6_1, ixl_6_2, ixl_6_3, ixl_6_4, ixl_6_5, ixm_6, eFz, gNe_ii, gNe_ss, gNe_bb, gNe_nn, gNe_in, gNe_ni, gMaxE, gMinE, ixN_zero, ixN_end, sof_inj]
def wayD (W : List (List (List Int))) : D := .lst true (W.map fun r => .lst true (r.map (rowD true)))
theorem Good.nng {m : Nat} {rows : List (List Int)} (g : Good m rows) : Nng m rows := ⟨⟨g.1, fun r hr => (g.2 r hr).1⟩, fun r hr x hx => ((g.2 r hr).2 x hx).1⟩
theorem fst_ok (s0 s7 s8 : Sl) (d6 : D) {m t f l : Nat} {rows S : List (List Int)} {W : List (List (List Int))} (h : FW m rows S W) (ht : t < m) (hf : f ≤ m) (hl : l < m) (hm : m ≤ 4) (hw : ∀ i j, (gx [] W i j).length ≤ 1000) :
    ∃ d6', fb1_sums_and_ways [s0, ⟨false, false, matD true S⟩, ⟨false, false, wayD W⟩, ⟨false, false, .int t⟩, ⟨false, false, .int f⟩, ⟨false, false, .int l⟩, ⟨false, false, d6⟩, s7, s8] =
      .nx (if gx 0 S f t + gx 0 S t l < gx 0 S f l then [s0, ⟨false, false, matD true (sx S f l (gx 0 S f t + gx 0 S t l))⟩, ⟨false, false, wayD (sx W f l (gx [] W f t ++ gx [] W t l))⟩, ⟨false, false, .int t⟩, ⟨false, false, .int f⟩, ⟨false, false, .int l⟩, ⟨false, false, d6'⟩, s7, s8]
        else [s0, ⟨false, false, matD true S⟩, ⟨false, false, wayD W⟩, ⟨false, false, .int t⟩, ⟨false, false, .int f⟩, ⟨false, false, .int l⟩, ⟨false, false, d6'⟩, s7, s8]) := by
  obtain ⟨rf, a1, a2, a3⟩ := h.ds.get 0 hf ht
  obtain ⟨rf', b1, b2, b3⟩ := h.ds.get 0 hf hl
  obtain ⟨rt, c1, c2, c3⟩ := h.ds.get 0 (i := t) (by omega) hl
  rw [a1] at b1; cases b1
  obtain ⟨wf, p1, p2, p3⟩ := h.dw.get [] hf ht
  obtain ⟨wf', q1, q2, q3⟩ := h.dw.get [] hf hl
  obtain ⟨wt, r1, r2, r3⟩ := h.dw.get [] (i := t) (by omega) hl
  rw [p1] at q1; cases q1
  have n1 : L2.ixN S.length (f : Int) = some f := ixN_nat (by rw [h.ds.1]; omega)
  have n2 : L2.ixN S.length (t : Int) = some t := ixN_nat (by rw [h.ds.1]; omega)
  have n3 : L2.ixN rf.length (t : Int) = some t := ixN_nat (by omega)
  have n4 : L2.ixN rf.length (l : Int) = some l := ixN_nat (by omega)
  have n5 : L2.ixN rt.length (l : Int) = some l := ixN_nat (by omega)
  have k1 : L2.ixN W.length (f : Int) = some f := ixN_nat (by rw [h.dw.1]; omega)
  have k2 : L2.ixN W.length (t : Int) = some t := ixN_nat (by rw [h.dw.1]; omega)
  have k3 : L2.ixN wf.length (t : Int) = some t := ixN_nat (by omega)
  have k4 : L2.ixN wf.length (l : Int) = some l := ixN_nat (by omega)
  have k5 : L2.ixN wt.length (l : Int) = some l := ixN_nat (by omega)
  have ha := hw f t
  have hb := hw t l
  have e1 : sx S f l (gx 0 S f t + gx 0 S t l) = S.set f (rf.set l (gx 0 S f t + gx 0 S t l)) := by unfold sx; rw [a1, Option.getD_some]
  have e2 : sx W f l (gx [] W f t ++ gx [] W t l) = W.set f (wf.set l (gx [] W f t ++ gx [] W t l)) := by unfold sx; rw [p1, Option.getD_some]
  rw [e1, e2]
  generalize gx 0 S f t = x1 at *
  generalize gx 0 S t l = x2 at *
  generalize gx 0 S f l = x3 at *
  generalize gx [] W f t = y1 at *
  generalize gx [] W t l = y2 at *
  refine ⟨.int (x1 + x2), ?_⟩
  unfold fb1_sums_and_ways matD wayD
  by_cases hc : x1 + x2 < x3
  · rw [if_pos hc]
    simp [fE, ice, ices, sSeq, sSet, sSub, sRet, sRetN, sIf, sX, sNil, sPass, sBrk, sCnt, sFor, eV, eIx, eOp2, eRd, eCons, eConsC, eNil, eN, eC, eMv, eAnd, eOr, eNot, eIf, eNeg, eB, eMk, eChain, eLc, eDic0, eInt, bT, bB, bAnd, bOr, bNot, bYes, tru, iSeq, itO, iRng1, iRng2, iRng3, iEnm, iZp, enumD, zipD, isLst, kidsI, R.bind, R.bindS, R.mapE, Out.mapE, lockO, unlockO, lockL, unlockL, setLk, lkAt, rdO, rdL, tmpL, mkLst, mkTup, ixO, ixD, pick, putAt, D.kids, D.setK, isOwn, g1L, g2L, gI, gI0, gAdd, gSub, gMul, gFdiv, gMod, gPow, gC, gLt, gLe, gGt, gGe, gEq_ii, gEq_ss, gEq_bb, gEq_nn, gEq_in, gEq_ni, gEq_sn, gEq_ns, gEq_ints, gNe, neB, gIs, gIsnt, gIn, gNotIn, gLen, gSum, gAll, gAny, gMaxL, gMinL, gMax2, gMin2, gAbs, gStr, gIsi, tyD, isiB, tyList, flatD, eqD, gSlice, oD, vlO, setN, gdNil, gdCons, gdTup, wipeE, lcL, forL, eCall, okS, argL, argO, slotO, liftG, mSet, mSetL, mAppend, mClear, mReverse, chkT, ddA, wrL, wr1, back, setD, outs, fz, fzs, line24, ices_ints, ices_strs, ices_bls, fzs_ints, fzs_strs, intsD_map, blsD_map, strsD_map, ices_app, fzs_app, gListOf, mPop, mPopAt, mInsert, gInX, gNotInX, inDic, keyD, isSc, gIntOf, gRevL, eFld, fldO, mFld, sFldS, sTupS, setNs, eMake, chkI, mSetD, ixl_1_0, ixm_1, ixl_2_0, ixl_2_1, ixm_2, ixl_3_0, ixl_3_1, ixl_3_2, ixm_3, ixl_4_0, ixl_4_1, ixl_4_2, ixl_4_3, ixm_4, ixl_5_0, ixl_5_1, ixl_5_2, ixl_5_3, ixl_5_4, ixm_5, ixl_6_0, ixl_6_1, ixl_6_2, ixl_6_3, ixl_6_4, ixl_6_5, ixm_6, eFz, gNe_ii, gNe_ss, gNe_bb, gNe_nn, gNe_in, gNe_ni, gMaxE, gMinE, ixN_zero, ixN_end, sof_inj, n1, n2, n3, n4, n5, k1, k2, k3, k4, k5, a1, a3, b3, c1, c3, p1, p3, q3, r1, r3, decide_eq_true hc, rowD, show y1.length + y2.length ≤ 16777216 by omega]
  · rw [if_neg hc]
    simp [fE, ice, ices, sSeq, sSet, sSub, sRet, sRetN, sIf, sX, sNil, sPass, sBrk, sCnt, sFor, eV, eIx, eOp2, eRd, eCons, eConsC, eNil, eN, eC, eMv, eAnd, eOr, eNot, eIf, eNeg, eB, eMk, eChain, eLc, eDic0, eInt, bT, bB, bAnd, bOr, bNot, bYes, tru, iSeq, itO, iRng1, iRng2, iRng3, iEnm, iZp, enumD, zipD, isLst, kidsI, R.bind, R.bindS, R.mapE, Out.mapE, lockO, unlockO, lockL, unlockL, setLk, lkAt, rdO, rdL, tmpL, mkLst, mkTup, ixO, ixD, pick, putAt, D.kids, D.setK, isOwn, g1L, g2L, gI, gI0, gAdd, gSub, gMul, gFdiv, gMod, gPow, gC, gLt, gLe, gGt, gGe, gEq_ii, gEq_ss, gEq_bb, gEq_nn, gEq_in, gEq_ni, gEq_sn, gEq_ns, gEq_ints, gNe, neB, gIs, gIsnt, gIn, gNotIn, gLen, gSum, gAll, gAny, gMaxL, gMinL, gMax2, gMin2, gAbs, gStr, gIsi, tyD, isiB, tyList, flatD, eqD, gSlice, oD, vlO, setN, gdNil, gdCons, gdTup, wipeE, lcL, forL, eCall, okS, argL, argO, slotO, liftG, mSet, mSetL, mAppend, mClear, mReverse, chkT, ddA, wrL, wr1, back, setD, outs, fz, fzs, line24, ices_ints, ices_strs, ices_bls, fzs_ints, fzs_strs, intsD_map, blsD_map, strsD_map, ices_app, fzs_app, gListOf, mPop, mPopAt, mInsert, gInX, gNotInX, inDic, keyD, isSc, gIntOf, gRevL, eFld, fldO, mFld, sFldS, sTupS, setNs, eMake, chkI, mSetD, ixl_1_0, ixm_1, ixl_2_0, ixl_2_1, ixm_2, ixl_3_0, ixl_3_1, ixl_3_2, ixm_3, ixl_4_0, ixl_4_1, ixl_4_2, ixl_4_3, ixm_4, ixl_5_0, ixl_5_1, ixl_5_2, ixl_5_3, ixl_5_4, ixm_5, ixl_6_0, ixl_6_1, ixl_6_2, ixl_6_3, ixl_6_4, ixl_6_5, ixm_6, eFz, gNe_ii, gNe_ss, gNe_bb, gNe_nn, gNe_in, gNe_ni, gMaxE, gMinE, ixN_zero, ixN_end, sof_inj, n1, n2, n3, n4, n5, a1, a3, b3, c1, c3, decide_eq_false hc, rowD]

theorem lp1_ok (s0 s7 s8 : Sl) {m t f : Nat} {rows S0 : List (List Int)} {W0 : List (List (List Int))} (g : Nng m rows) (ht : t < m) (hf : f ≤ m) (hm : m ≤ 4) (S : List (List Int)) (W : List (List (List Int))) (d5 d6 : D) (h : FI m rows t S0 W0 S W)
    (hp : ∀ i j, i < f → j < m → gx 0 S i j ≤ gx 0 S0 i t + gx 0 S0 t j) :
    ∃ S' W' d5' d6', forL (setN 5) fb1_sums_and_ways ((List.range m).map fun i => .int (i : Nat)) [s0, ⟨false, false, matD true S⟩, ⟨false, false, wayD W⟩, ⟨false, false, .int t⟩, ⟨false, false, .int f⟩, ⟨false, false, d5⟩, ⟨false, false, d6⟩, s7, s8] =
      .nx [s0, ⟨false, false, matD true S'⟩, ⟨false, false, wayD W'⟩, ⟨false, false, .int t⟩, ⟨false, false, .int f⟩, ⟨false, false, d5'⟩, ⟨false, false, d6'⟩, s7, s8] ∧ FI m rows t S0 W0 S' W' ∧ (∀ i j, i < f + 1 → j < m → gx 0 S' i j ≤ gx 0 S0 i t + gx 0 S0 t j) ∧ (S', W') = it1 m t (S, W) f := by
  obtain ⟨δ', e, S', W', d5', d6', rfl, h1, h2, h3, h4⟩ := forL_inv (gd := setN 5) (bf := fb1_sums_and_ways) (fun k δ => ∃ Sx Wx d5 d6, δ = [s0, ⟨false, false, matD true Sx⟩, ⟨false, false, wayD Wx⟩, ⟨false, false, .int t⟩, ⟨false, false, .int f⟩, ⟨false, false, d5⟩, ⟨false, false, d6⟩, s7, s8] ∧ FI m rows t S0 W0 Sx Wx ∧ (∀ i j, i < f → j < m → gx 0 Sx i j ≤ gx 0 S0 i t + gx 0 S0 t j) ∧ (∀ j, j < k → j < m → gx 0 Sx f j ≤ gx 0 S0 f t + gx 0 S0 t j) ∧ (Sx, Wx) = (List.range k).foldl (st1 t f) (S, W))
    ((List.range m).map fun i => .int (i : Nat)) 0 [s0, ⟨false, false, matD true S⟩, ⟨false, false, wayD W⟩, ⟨false, false, .int t⟩, ⟨false, false, .int f⟩, ⟨false, false, d5⟩, ⟨false, false, d6⟩, s7, s8] ⟨S, W, d5, d6, rfl, h, hp, (fun j hj => by omega), rfl⟩
    (fun k d δ hd ⟨S1, W1, d5, d6, e, h, h2, h3, h4⟩ => by
      subst e
      simp only [List.getElem?_map, Option.map_eq_some_iff] at hd
      obtain ⟨i', hi, rfl⟩ := hd
      rw [List.getElem?_eq_some_iff] at hi
      obtain ⟨hi, hi'⟩ := hi
      simp only [List.length_range, List.getElem_range] at hi hi'
      subst hi'
      have hb : ∀ i j, (gx [] W1 i j).length ≤ 1000 := fun i j => by
        have := h.len i j
        have : (2 : Nat) ^ t ≤ 2 ^ 4 := Nat.pow_le_pow_right (by decide) (by omega)
        omega
      obtain ⟨d6', st⟩ := fst_ok s0 s7 s8 d6 h.fw ht hf hi hm hb
      obtain ⟨n1, n2, n3⟩ := h.step g ht hf hi
      rw [Nat.zero_add] at h3 h4 ⊢
      refine ⟨_, _, rfl, .inl st, nS S1 t f k, nW S1 W1 t f k, .int k, d6', ?_, n1, fun i j hi' hj => Int.le_trans (n3 i j (by omega) hj) (h2 i j hi' hj), fun j hj hjm => ?_, ?_⟩
      · unfold nS nW
        split <;> rfl
      · by_cases e : j = k
        · subst e; exact n2
        · exact Int.le_trans (n3 f j hf hjm) (h3 j (by omega) hjm)
      · rw [foldl_range, ← h4]; rfl)
  rw [List.length_map, List.length_range, Nat.zero_add] at h4
  refine ⟨S', W', d5', d6', e, h1, fun i j hi hj => ?_, h4⟩
  by_cases e : i = f
  · subst e; exact h3 j (by simp; omega) hj
  · exact h2 i j (by omega) hj
theorem lp2_ok (b : Bool) (s7 s8 : Sl) {m t : Nat} {rows S0 : List (List Int)} {W0 : List (List (List Int))} (g : Nng m rows) (hl : rows.length = m + 1) (ht : t < m) (hm : m ≤ 4) (d4 d5 d6 : D) (h : FI m rows t S0 W0 S0 W0) :
    ∃ S' W' d4' d5' d6', fb3_sums_and_ways [⟨b, false, matD false rows⟩, ⟨false, false, matD true S0⟩, ⟨false, false, wayD W0⟩, ⟨false, false, .int t⟩, ⟨false, false, d4⟩, ⟨false, false, d5⟩, ⟨false, false, d6⟩, s7, s8] =
      .nx [⟨b, false, matD false rows⟩, ⟨false, false, matD true S'⟩, ⟨false, false, wayD W'⟩, ⟨false, false, .int t⟩, ⟨false, false, d4'⟩, ⟨false, false, d5'⟩, ⟨false, false, d6'⟩, s7, s8] ∧ FI m rows t S0 W0 S' W' ∧ (∀ i j, i ≤ m → j < m → gx 0 S' i j ≤ gx 0 S0 i t + gx 0 S0 t j) ∧ (S', W') = it2 m (S0, W0) t := by
  obtain ⟨δ', e, S', W', d4', d5', d6', rfl, h1, h2, h4⟩ := forL_inv (gd := setN 4) (bf := fb2_sums_and_ways) (fun k δ => ∃ S W d4 d5 d6, δ = [⟨b, false, matD false rows⟩, ⟨false, false, matD true S⟩, ⟨false, false, wayD W⟩, ⟨false, false, .int t⟩, ⟨false, false, d4⟩, ⟨false, false, d5⟩, ⟨false, false, d6⟩, s7, s8] ∧ FI m rows t S0 W0 S W ∧ (∀ i j, i < k → j < m → gx 0 S i j ≤ gx 0 S0 i t + gx 0 S0 t j) ∧ (S, W) = (List.range k).foldl (it1 m t) (S0, W0))
    ((List.range (m + 1)).map fun i => .int (i : Nat)) 0 [⟨b, false, matD false rows⟩, ⟨false, false, matD true S0⟩, ⟨false, false, wayD W0⟩, ⟨false, false, .int t⟩, ⟨false, false, d4⟩, ⟨false, false, d5⟩, ⟨false, false, d6⟩, s7, s8] ⟨S0, W0, d4, d5, d6, rfl, h, (fun i j hi => by omega), rfl⟩
    (fun k d δ hd ⟨S, W, d4, d5, d6, e, h, h2, h4⟩ => by
      subst e
      simp only [List.getElem?_map, Option.map_eq_some_iff] at hd
      obtain ⟨i', hi, rfl⟩ := hd
      rw [List.getElem?_eq_some_iff] at hi
      obtain ⟨hi, hi'⟩ := hi
      simp only [List.length_range, List.getElem_range] at hi hi'
      subst hi'
      rw [Nat.zero_add] at h2 h4 ⊢
      obtain ⟨S', W', d5', d6', st, n1, n2, n4⟩ := lp1_ok ⟨b, false, matD false rows⟩ s7 s8 g ht (f := k) (by omega) hm S W d5 d6 h h2
      refine ⟨_, [⟨b, false, matD false rows⟩, ⟨false, false, matD true S'⟩, ⟨false, false, wayD W'⟩, ⟨false, false, .int t⟩, ⟨false, false, .int k⟩, ⟨false, false, d5'⟩, ⟨false, false, d6'⟩, s7, s8], rfl, .inl ?_, S', W', _, _, _, rfl, n1, n2, by rw [foldl_range, ← h4]; exact n4⟩
      unfold fb2_sums_and_ways f1_sums_and_ways
      generalize fb1_sums_and_ways = f at st ⊢
      have e1 : (rows.length : Int) - 1 = m := by rw [hl]; omega
      unfold matD wayD at *
      simp [fE, ice, ices, sSeq, sSet, sSub, sRet, sRetN, sIf, sX, sNil, sPass, sBrk, sCnt, sFor, eV, eIx, eOp2, eRd, eCons, eConsC, eNil, eN, eC, eMv, eAnd, eOr, eNot, eIf, eNeg, eB, eMk, eChain, eLc, eDic0, eInt, bT, bB, bAnd, bOr, bNot, bYes, tru, iSeq, itO, iRng1, iRng2, iRng3, iEnm, iZp, enumD, zipD, isLst, kidsI, R.bind, R.bindS, R.mapE, Out.mapE, lockO, unlockO, lockL, unlockL, setLk, lkAt, rdO, rdL, tmpL, mkLst, mkTup, ixO, ixD, pick, putAt, D.kids, D.setK, isOwn, g1L, g2L, gI, gI0, gAdd, gSub, gMul, gFdiv, gMod, gPow, gC, gLt, gLe, gGt, gGe, gEq_ii, gEq_ss, gEq_bb, gEq_nn, gEq_in, gEq_ni, gEq_sn, gEq_ns, gEq_ints, gNe, neB, gIs, gIsnt, gIn, gNotIn, gLen, gSum, gAll, gAny, gMaxL, gMinL, gMax2, gMin2, gAbs, gStr, gIsi, tyD, isiB, tyList, flatD, eqD, gSlice, oD, vlO, setN, gdNil, gdCons, gdTup, wipeE, lcL, eCall, okS, argL, argO, slotO, liftG, mSet, mSetL, mAppend, mClear, mReverse, chkT, ddA, wrL, wr1, back, setD, outs, L2.ixN, fz, fzs, line24, ices_ints, ices_strs, ices_bls, fzs_ints, fzs_strs, intsD_map, blsD_map, strsD_map, ices_app, fzs_app, gListOf, mPop, mPopAt, mInsert, gInX, gNotInX, inDic, keyD, isSc, gIntOf, gRevL, eFld, fldO, mFld, sFldS, sTupS, setNs, eMake, chkI, mSetD, ixl_1_0, ixm_1, ixl_2_0, ixl_2_1, ixm_2, ixl_3_0, ixl_3_1, ixl_3_2, ixm_3, ixl_4_0, ixl_4_1, ixl_4_2, ixl_4_3, ixm_4, ixl_5_0, ixl_5_1, ixl_5_2, ixl_5_3, ixl_5_4, ixm_5, ixl_6_0, ixl_6_1, ixl_6_2, ixl_6_3, ixl_6_4, ixl_6_5, ixm_6, eFz, gNe_ii, gNe_ss, gNe_bb, gNe_nn, gNe_in, gNe_ni, gMaxE, gMinE, ixN_zero, ixN_end, sof_inj, ices_rows, st, e1, hl, show rows.length ≤ 16777216 by omega, show m + 1 ≤ 16777216 by omega, show InR (m : Int) from inR_of (by omega) (by omega)])
  rw [List.length_map, List.length_range, Nat.zero_add] at h4
  refine ⟨S', W', d4', d5', d6', ?_, h1, fun i j hi hj => h2 i j (by simp; omega) hj, h4⟩
  unfold fb3_sums_and_ways f2_sums_and_ways
  generalize fb2_sums_and_ways = f at e ⊢
  unfold matD wayD at *
  simp [fE, ice, ices, sSeq, sSet, sSub, sRet, sRetN, sIf, sX, sNil, sPass, sBrk, sCnt, sFor, eV, eIx, eOp2, eRd, eCons, eConsC, eNil, eN, eC, eMv, eAnd, eOr, eNot, eIf, eNeg, eB, eMk, eChain, eLc, eDic0, eInt, bT, bB, bAnd, bOr, bNot, bYes, tru, iSeq, itO, iRng1, iRng2, iRng3, iEnm, iZp, enumD, zipD, isLst, kidsI, R.bind, R.bindS, R.mapE, Out.mapE, lockO, unlockO, lockL, unlockL, setLk, lkAt, rdO, rdL, tmpL, mkLst, mkTup, ixO, ixD, pick, putAt, D.kids, D.setK, isOwn, g1L, g2L, gI, gI0, gAdd, gSub, gMul, gFdiv, gMod, gPow, gC, gLt, gLe, gGt, gGe, gEq_ii, gEq_ss, gEq_bb, gEq_nn, gEq_in, gEq_ni, gEq_sn, gEq_ns, gEq_ints, gNe, neB, gIs, gIsnt, gIn, gNotIn, gLen, gSum, gAll, gAny, gMaxL, gMinL, gMax2, gMin2, gAbs, gStr, gIsi, tyD, isiB, tyList, flatD, eqD, gSlice, oD, vlO, setN, gdNil, gdCons, gdTup, wipeE, lcL, eCall, okS, argL, argO, slotO, liftG, mSet, mSetL, mAppend, mClear, mReverse, chkT, ddA, wrL, wr1, back, setD, outs, L2.ixN, fz, fzs, line24, ices_ints, ices_strs, ices_bls, fzs_ints, fzs_strs, intsD_map, blsD_map, strsD_map, ices_app, fzs_app, gListOf, mPop, mPopAt, mInsert, gInX, gNotInX, inDic, keyD, isSc, gIntOf, gRevL, eFld, fldO, mFld, sFldS, sTupS, setNs, eMake, chkI, mSetD, ixl_1_0, ixm_1, ixl_2_0, ixl_2_1, ixm_2, ixl_3_0, ixl_3_1, ixl_3_2, ixm_3, ixl_4_0, ixl_4_1, ixl_4_2, ixl_4_3, ixm_4, ixl_5_0, ixl_5_1, ixl_5_2, ixl_5_3, ixl_5_4, ixm_5, ixl_6_0, ixl_6_1, ixl_6_2, ixl_6_3, ixl_6_4, ixl_6_5, ixm_6, eFz, gNe_ii, gNe_ss, gNe_bb, gNe_nn, gNe_in, gNe_ni, gMaxE, gMinE, ixN_zero, ixN_end, sof_inj, ices_rows, e, hl, show m + 1 ≤ 16777216 by omega, show InR ((m : Int) + 1) from inR_of (by omega) (by omega)]
theorem Low.start {m : Nat} {rows : List (List Int)} (g : Dim m rows) : Low m rows rows 0 := by
  intro i j hi hj q hq
  have : q = [] := by
    cases q with
    | nil => rfl
    | cons x q => have := hq x List.mem_cons_self; omega
  subst this
  simp only [List.nil_append, wk, Int.add_zero]
  rw [cell_nat g hi hj]
  exact Int.le_refl _
theorem lp3_ok (b : Bool) (s7 s8 : Sl) {m : Nat} {rows : List (List Int)} {W0 : List (List (List Int))} (g : Nng m rows) (hm : m ≤ 4) (h : FW m rows rows W0) (hl : ∀ i j, (gx [] W0 i j).length ≤ 1) :
    ∃ S W d3 d4 d5 d6, f3_sums_and_ways [⟨b, false, matD false rows⟩, ⟨false, false, matD true rows⟩, ⟨false, false, wayD W0⟩, ⟨false, false, .hole⟩, ⟨false, false, .hole⟩, ⟨false, false, .hole⟩, ⟨false, false, .hole⟩, s7, s8] =
      .nx [⟨b, false, matD false rows⟩, ⟨false, false, matD true S⟩, ⟨false, false, wayD W⟩, ⟨false, false, d3⟩, ⟨false, false, d4⟩, ⟨false, false, d5⟩, ⟨false, false, d6⟩, s7, s8] ∧ Least m rows S W ∧ (∀ i j, (gx [] W i j).length ≤ 16) ∧ (S, W) = it3 m (rows, W0) := by
  obtain ⟨δ', e, S', W', d3, d4', d5', d6', rfl, h1, h2, h3, h4⟩ := forL_inv (gd := setN 3) (bf := fb3_sums_and_ways) (fun k δ => ∃ S W d3 d4 d5 d6, δ = [⟨b, false, matD false rows⟩, ⟨false, false, matD true S⟩, ⟨false, false, wayD W⟩, ⟨false, false, d3⟩, ⟨false, false, d4⟩, ⟨false, false, d5⟩, ⟨false, false, d6⟩, s7, s8] ∧ FW m rows S W ∧ Low m rows S k ∧ (∀ i j, (gx [] W i j).length ≤ 2 ^ k) ∧ (S, W) = (List.range k).foldl (it2 m) (rows, W0))
    ((List.range m).map fun i => .int (i : Nat)) 0 [⟨b, false, matD false rows⟩, ⟨false, false, matD true rows⟩, ⟨false, false, wayD W0⟩, ⟨false, false, .hole⟩, ⟨false, false, .hole⟩, ⟨false, false, .hole⟩, ⟨false, false, .hole⟩, s7, s8] ⟨rows, W0, .hole, .hole, .hole, .hole, rfl, h, Low.start g.1, hl, rfl⟩
    (fun k d δ hd ⟨S, W, d3, d4, d5, d6, e, h, h2, h3, h4⟩ => by
      subst e
      simp only [List.getElem?_map, Option.map_eq_some_iff] at hd
      obtain ⟨i', hi, rfl⟩ := hd
      rw [List.getElem?_eq_some_iff] at hi
      obtain ⟨hi, hi'⟩ := hi
      simp only [List.length_range, List.getElem_range] at hi hi'
      subst hi'
      rw [Nat.zero_add] at h2 h3 h4 ⊢
      obtain ⟨S', W', d4', d5', d6', st, n1, n2, n4⟩ := lp2_ok b s7 s8 g g.1.1 hi hm d4 d5 d6 ⟨h, fun i j _ _ => Int.le_refl _, fun i j => by have := h3 i j; omega, h3, fun _ _ => rfl, fun _ _ => rfl⟩
      refine ⟨_, _, rfl, .inl st, S', W', _, _, _, _, rfl, n1.fw, low_step g hi h2 n1.le n2, fun i j => ?_, by rw [foldl_range, ← h4]; exact n4⟩
      have := n1.len i j
      rw [Nat.pow_succ]; omega)
  rw [List.length_map, List.length_range, Nat.zero_add] at h2 h3 h4
  refine ⟨S', W', d3, d4', d5', d6', ?_, ⟨h1, h2⟩, fun i j => ?_, h4⟩
  · unfold f3_sums_and_ways
    generalize fb3_sums_and_ways = f at e ⊢
    have e1 : (rows.length : Int) - 1 = m := by rw [g.1.1]; omega
    unfold matD wayD at *
    simp [fE, ice, ices, sSeq, sSet, sSub, sRet, sRetN, sIf, sX, sNil, sPass, sBrk, sCnt, sFor, eV, eIx, eOp2, eRd, eCons, eConsC, eNil, eN, eC, eMv, eAnd, eOr, eNot, eIf, eNeg, eB, eMk, eChain, eLc, eDic0, eInt, bT, bB, bAnd, bOr, bNot, bYes, tru, iSeq, itO, iRng1, iRng2, iRng3, iEnm, iZp, enumD, zipD, isLst, kidsI, R.bind, R.bindS, R.mapE, Out.mapE, lockO, unlockO, lockL, unlockL, setLk, lkAt, rdO, rdL, tmpL, mkLst, mkTup, ixO, ixD, pick, putAt, D.kids, D.setK, isOwn, g1L, g2L, gI, gI0, gAdd, gSub, gMul, gFdiv, gMod, gPow, gC, gLt, gLe, gGt, gGe, gEq_ii, gEq_ss, gEq_bb, gEq_nn, gEq_in, gEq_ni, gEq_sn, gEq_ns, gEq_ints, gNe, neB, gIs, gIsnt, gIn, gNotIn, gLen, gSum, gAll, gAny, gMaxL, gMinL, gMax2, gMin2, gAbs, gStr, gIsi, tyD, isiB, tyList, flatD, eqD, gSlice, oD, vlO, setN, gdNil, gdCons, gdTup, wipeE, lcL, eCall, okS, argL, argO, slotO, liftG, mSet, mSetL, mAppend, mClear, mReverse, chkT, ddA, wrL, wr1, back, setD, outs, L2.ixN, fz, fzs, line24, ices_ints, ices_strs, ices_bls, fzs_ints, fzs_strs, intsD_map, blsD_map, strsD_map, ices_app, fzs_app, gListOf, mPop, mPopAt, mInsert, gInX, gNotInX, inDic, keyD, isSc, gIntOf, gRevL, eFld, fldO, mFld, sFldS, sTupS, setNs, eMake, chkI, mSetD, ixl_1_0, ixm_1, ixl_2_0, ixl_2_1, ixm_2, ixl_3_0, ixl_3_1, ixl_3_2, ixm_3, ixl_4_0, ixl_4_1, ixl_4_2, ixl_4_3, ixm_4, ixl_5_0, ixl_5_1, ixl_5_2, ixl_5_3, ixl_5_4, ixm_5, ixl_6_0, ixl_6_1, ixl_6_2, ixl_6_3, ixl_6_4, ixl_6_5, ixm_6, eFz, gNe_ii, gNe_ss, gNe_bb, gNe_nn, gNe_in, gNe_ni, gMaxE, gMinE, ixN_zero, ixN_end, sof_inj, ices_rows, e, e1, g.1.1, show m + 1 ≤ 16777216 by omega, show InR (m : Int) from inR_of (by omega) (by omega)]
  · have := h3 i j
    have : (2 : Nat) ^ m ≤ 2 ^ 4 := Nat.pow_le_pow_right (by decide) hm
    omega
def W0f (rows : List (List Int)) : List (List (List Int)) := rows.map fun r => (List.range r.length).map fun h => [((h : Nat) : Int)]
theorem W0_get {m : Nat} {rows : List (List Int)} (g : Dim m rows) {i j : Nat} (hi : i ≤ m) (hj : j < m) : gx [] (W0f rows) i j = [(j : Int)] := by
  obtain ⟨r, h1, h2⟩ := g.row hi
  unfold gx W0f
  rw [List.getElem?_map, h1]
  simp [h2, hj]
theorem W0_len (rows : List (List Int)) (i j : Nat) : (gx [] (W0f rows) i j).length ≤ 1 := by
  unfold gx W0f
  rw [List.getElem?_map]
  cases h : rows[i]? with
  | none => simp
  | some r =>
    simp only [Option.map_some, Option.getD_some, List.getElem?_map]
    cases q : (List.range r.length)[j]? with
    | none => simp
    | some k => simp
theorem FW.start {m : Nat} {rows : List (List Int)} (g : Dim m rows) : FW m rows rows (W0f rows) := by
  refine ⟨g, ⟨by unfold W0f; rw [List.length_map]; exact g.1, fun r hr => ?_⟩, fun i j hi hj => ⟨[], ?_, fun x hx => by simp at hx, ?_⟩⟩
  · obtain ⟨s, hs, rfl⟩ := List.mem_map.mp hr
    rw [List.length_map, List.length_range]; exact g.2 s hs
  · rw [W0_get g hi hj]; rfl
  · rw [W0_get g hi hj]
    simp only [wk, Int.add_zero]
    exact cell_nat g hi hj
theorem c3s_ok (b : Bool) (s1 s2 s3 s4 s5 s6 s8 : Sl) {m : Nat} {rows : List (List Int)} (g : Dim m rows) (hm : m ≤ 4) : c3_sums_and_ways [⟨b, false, matD false rows⟩, s1, s2, s3, s4, s5, s6, ⟨false, false, .hole⟩, s8] = .ok (.tmp (matD true rows)) [⟨b, false, matD false rows⟩, s1, s2, s3, s4, s5, s6, ⟨false, false, .hole⟩, s8] := by
  have h := lcL_map (own := [7]) (gd := setN 7) (te := ce3_sums_and_ways) (δ := [⟨b, false, matD false rows⟩, s1, s2, s3, s4, s5, s6, ⟨false, false, .hole⟩, s8])
      (fun d => match d with | .lst _ xs => .lst true xs | _ => .non) (rows.map (rowD false)) (by rw [line24, List.length_map, g.1]; omega) (fun d hd => by
        obtain ⟨r, hr, rfl⟩ := List.mem_map.mp hd
        refine ⟨[⟨b, false, matD false rows⟩, s1, s2, s3, s4, s5, s6, ⟨false, false, rowD false r⟩, s8], [⟨b, false, matD false rows⟩, s1, s2, s3, s4, s5, s6, ⟨false, false, rowD false r⟩, s8], rfl, ?_, rfl⟩
        unfold ce3_sums_and_ways rowD
        simp [fE, ice, ices, sSeq, sSet, sSub, sRet, sRetN, sIf, sX, sNil, sPass, sBrk, sCnt, sFor, eV, eIx, eOp2, eRd, eCons, eConsC, eNil, eN, eC, eMv, eAnd, eOr, eNot, eIf, eNeg, eB, eMk, eChain, eLc, eDic0, eInt, bT, bB, bAnd, bOr, bNot, bYes, tru, iSeq, itO, iRng1, iRng2, iRng3, iEnm, iZp, enumD, zipD, isLst, kidsI, R.bind, R.bindS, R.mapE, Out.mapE, lockO, unlockO, lockL, unlockL, setLk, lkAt, rdO, rdL, tmpL, mkLst, mkTup, ixO, ixD, pick, putAt, D.kids, D.setK, isOwn, g1L, g2L, gI, gI0, gAdd, gSub, gMul, gFdiv, gMod, gPow, gC, gLt, gLe, gGt, gGe, gEq_ii, gEq_ss, gEq_bb, gEq_nn, gEq_in, gEq_ni, gEq_sn, gEq_ns, gEq_ints, gNe, neB, gIs, gIsnt, gIn, gNotIn, gLen, gSum, gAll, gAny, gMaxL, gMinL, gMax2, gMin2, gAbs, gStr, gIsi, tyD, isiB, tyList, flatD, eqD, gSlice, oD, vlO, setN, gdNil, gdCons, gdTup, wipeE, lcL, forL, eCall, okS, argL, argO, slotO, liftG, mSet, mSetL, mAppend, mClear, mReverse, chkT, ddA, wrL, wr1, back, setD, outs, L2.ixN, fz, fzs, line24, ices_ints, ices_strs, ices_bls, fzs_ints, fzs_strs, intsD_map, blsD_map, strsD_map, ices_app, fzs_app, gListOf, mPop, mPopAt, mInsert, gInX, gNotInX, inDic, keyD, isSc, gIntOf, gRevL, eFld, fldO, mFld, sFldS, sTupS, setNs, eMake, chkI, mSetD, ixl_1_0, ixm_1, ixl_2_0, ixl_2_1, ixm_2, ixl_3_0, ixl_3_1, ixl_3_2, ixm_3, ixl_4_0, ixl_4_1, ixl_4_2, ixl_4_3, ixm_4, ixl_5_0, ixl_5_1, ixl_5_2, ixl_5_3, ixl_5_4, ixm_5, ixl_6_0, ixl_6_1, ixl_6_2, ixl_6_3, ixl_6_4, ixl_6_5, ixm_6, eFz, gNe_ii, gNe_ss, gNe_bb, gNe_nn, gNe_in, gNe_ni, gMaxE, gMinE, ixN_zero, ixN_end, sof_inj])
  have e1 : (rows.map (rowD false)).map (fun d => match d with | .lst _ xs => D.lst true xs | _ => .non) = rows.map (rowD true) := by rw [List.map_map]; rfl
  rw [e1] at h
  unfold c3_sums_and_ways
  generalize ce3_sums_and_ways = f at h ⊢
  unfold matD at *
  simp [fE, ice, ices, sSeq, sSet, sSub, sRet, sRetN, sIf, sX, sNil, sPass, sBrk, sCnt, sFor, eV, eIx, eOp2, eRd, eCons, eConsC, eNil, eN, eC, eMv, eAnd, eOr, eNot, eIf, eNeg, eB, eMk, eChain, eLc, eDic0, eInt, bT, bB, bAnd, bOr, bNot, bYes, tru, iSeq, itO, iRng1, iRng2, iRng3, iEnm, iZp, enumD, zipD, isLst, kidsI, R.bind, R.bindS, R.mapE, Out.mapE, lockO, unlockO, lockL, unlockL, setLk, lkAt, rdO, rdL, tmpL, mkLst, mkTup, ixO, ixD, pick, putAt, D.kids, D.setK, isOwn, g1L, g2L, gI, gI0, gAdd, gSub, gMul, gFdiv, gMod, gPow, gC, gLt, gLe, gGt, gGe, gEq_ii, gEq_ss, gEq_bb, gEq_nn, gEq_in, gEq_ni, gEq_sn, gEq_ns, gEq_ints, gNe, neB, gIs, gIsnt, gIn, gNotIn, gLen, gSum, gAll, gAny, gMaxL, gMinL, gMax2, gMin2, gAbs, gStr, gIsi, tyD, isiB, tyList, flatD, eqD, gSlice, oD, vlO, setN, gdNil, gdCons, gdTup, wipeE, forL, eCall, okS, argL, argO, slotO, liftG, mSet, mSetL, mAppend, mClear, mReverse, chkT, ddA, wrL, wr1, back, setD, outs, L2.ixN, fz, fzs, line24, ices_ints, ices_strs, ices_bls, fzs_ints, fzs_strs, intsD_map, blsD_map, strsD_map, ices_app, fzs_app, gListOf, mPop, mPopAt, mInsert, gInX, gNotInX, inDic, keyD, isSc, gIntOf, gRevL, eFld, fldO, mFld, sFldS, sTupS, setNs, eMake, chkI, mSetD, ixl_1_0, ixm_1, ixl_2_0, ixl_2_1, ixm_2, ixl_3_0, ixl_3_1, ixl_3_2, ixm_3, ixl_4_0, ixl_4_1, ixl_4_2, ixl_4_3, ixm_4, ixl_5_0, ixl_5_1, ixl_5_2, ixl_5_3, ixl_5_4, ixm_5, ixl_6_0, ixl_6_1, ixl_6_2, ixl_6_3, ixl_6_4, ixl_6_5, ixm_6, eFz, gNe_ii, gNe_ss, gNe_bb, gNe_nn, gNe_in, gNe_ni, gMaxE, gMinE, ixN_zero, ixN_end, sof_inj, ices_rows, fzs_rows, h]
theorem c1s_ok (s0 s1 s2 s3 s4 s5 s6 : Sl) (r : List Int) (hr : r.length ≤ 10) : c1_sums_and_ways [s0, s1, s2, s3, s4, s5, s6, ⟨false, false, rowD false r⟩, ⟨false, false, .hole⟩] = .ok (.tmp (.lst true (((List.range r.length).map fun h => [((h : Nat) : Int)]).map (rowD true)))) [s0, s1, s2, s3, s4, s5, s6, ⟨false, false, rowD false r⟩, ⟨false, false, .hole⟩] := by
  have h := lcL_map (own := [8]) (gd := setN 8) (te := ce1_sums_and_ways) (δ := [s0, s1, s2, s3, s4, s5, s6, ⟨false, false, rowD false r⟩, ⟨false, false, .hole⟩])
      (fun d => .lst true [d]) ((List.range r.length).map fun h => .int (h : Nat)) (by rw [line24, List.length_map, List.length_range]; omega) (fun d hd => by
        obtain ⟨k, hk, rfl⟩ := List.mem_map.mp hd
        refine ⟨[s0, s1, s2, s3, s4, s5, s6, ⟨false, false, rowD false r⟩, ⟨false, false, .int k⟩], [s0, s1, s2, s3, s4, s5, s6, ⟨false, false, rowD false r⟩, ⟨false, false, .int k⟩], rfl, ?_, rfl⟩
        unfold ce1_sums_and_ways rowD
        simp [fE, ice, ices, sSeq, sSet, sSub, sRet, sRetN, sIf, sX, sNil, sPass, sBrk, sCnt, sFor, eV, eIx, eOp2, eRd, eCons, eConsC, eNil, eN, eC, eMv, eAnd, eOr, eNot, eIf, eNeg, eB, eMk, eChain, eLc, eDic0, eInt, bT, bB, bAnd, bOr, bNot, bYes, tru, iSeq, itO, iRng1, iRng2, iRng3, iEnm, iZp, enumD, zipD, isLst, kidsI, R.bind, R.bindS, R.mapE, Out.mapE, lockO, unlockO, lockL, unlockL, setLk, lkAt, rdO, rdL, tmpL, mkLst, mkTup, ixO, ixD, pick, putAt, D.kids, D.setK, isOwn, g1L, g2L, gI, gI0, gAdd, gSub, gMul, gFdiv, gMod, gPow, gC, gLt, gLe, gGt, gGe, gEq_ii, gEq_ss, gEq_bb, gEq_nn, gEq_in, gEq_ni, gEq_sn, gEq_ns, gEq_ints, gNe, neB, gIs, gIsnt, gIn, gNotIn, gLen, gSum, gAll, gAny, gMaxL, gMinL, gMax2, gMin2, gAbs, gStr, gIsi, tyD, isiB, tyList, flatD, eqD, gSlice, oD, vlO, setN, gdNil, gdCons, gdTup, wipeE, lcL, forL, eCall, okS, argL, argO, slotO, liftG, mSet, mSetL, mAppend, mClear, mReverse, chkT, ddA, wrL, wr1, back, setD, outs, L2.ixN, fz, fzs, line24, ices_ints, ices_strs, ices_bls, fzs_ints, fzs_strs, intsD_map, blsD_map, strsD_map, ices_app, fzs_app, gListOf, mPop, mPopAt, mInsert, gInX, gNotInX, inDic, keyD, isSc, gIntOf, gRevL, eFld, fldO, mFld, sFldS, sTupS, setNs, eMake, chkI, mSetD, ixl_1_0, ixm_1, ixl_2_0, ixl_2_1, ixm_2, ixl_3_0, ixl_3_1, ixl_3_2, ixm_3, ixl_4_0, ixl_4_1, ixl_4_2, ixl_4_3, ixm_4, ixl_5_0, ixl_5_1, ixl_5_2, ixl_5_3, ixl_5_4, ixm_5, ixl_6_0, ixl_6_1, ixl_6_2, ixl_6_3, ixl_6_4, ixl_6_5, ixm_6, eFz, gNe_ii, gNe_ss, gNe_bb, gNe_nn, gNe_in, gNe_ni, gMaxE, gMinE, ixN_zero, ixN_end, sof_inj])
  have e1 : ((List.range r.length).map fun h => D.int (h : Nat)).map (fun d => D.lst true [d]) = ((List.range r.length).map fun h => [((h : Nat) : Int)]).map (rowD true) := by rw [List.map_map, List.map_map]; rfl
  rw [e1] at h
  unfold c1_sums_and_ways
  generalize ce1_sums_and_ways = f at h ⊢
  generalize ((List.range r.length).map fun h => [((h : Nat) : Int)]).map (rowD true) = res at h ⊢
  unfold rowD at *
  simp [fE, ice, ices, sSeq, sSet, sSub, sRet, sRetN, sIf, sX, sNil, sPass, sBrk, sCnt, sFor, eV, eIx, eOp2, eRd, eCons, eConsC, eNil, eN, eC, eMv, eAnd, eOr, eNot, eIf, eNeg, eB, eMk, eChain, eLc, eDic0, eInt, bT, bB, bAnd, bOr, bNot, bYes, tru, iSeq, itO, iRng1, iRng2, iRng3, iEnm, iZp, enumD, zipD, isLst, kidsI, R.bind, R.bindS, R.mapE, Out.mapE, lockO, unlockO, lockL, unlockL, setLk, lkAt, rdO, rdL, tmpL, mkLst, mkTup, ixO, ixD, pick, putAt, D.kids, D.setK, isOwn, g1L, g2L, gI, gI0, gAdd, gSub, gMul, gFdiv, gMod, gPow, gC, gLt, gLe, gGt, gGe, gEq_ii, gEq_ss, gEq_bb, gEq_nn, gEq_in, gEq_ni, gEq_sn, gEq_ns, gEq_ints, gNe, neB, gIs, gIsnt, gIn, gNotIn, gLen, gSum, gAll, gAny, gMaxL, gMinL, gMax2, gMin2, gAbs, gStr, gIsi, tyD, isiB, tyList, flatD, eqD, gSlice, oD, vlO, setN, gdNil, gdCons, gdTup, wipeE, forL, eCall, okS, argL, argO, slotO, liftG, mSet, mSetL, mAppend, mClear, mReverse, chkT, ddA, wrL, wr1, back, setD, outs, L2.ixN, fz, fzs, line24, ices_ints, ices_strs, ices_bls, fzs_ints, fzs_strs, intsD_map, blsD_map, strsD_map, ices_app, fzs_app, gListOf, mPop, mPopAt, mInsert, gInX, gNotInX, inDic, keyD, isSc, gIntOf, gRevL, eFld, fldO, mFld, sFldS, sTupS, setNs, eMake, chkI, mSetD, ixl_1_0, ixm_1, ixl_2_0, ixl_2_1, ixm_2, ixl_3_0, ixl_3_1, ixl_3_2, ixm_3, ixl_4_0, ixl_4_1, ixl_4_2, ixl_4_3, ixm_4, ixl_5_0, ixl_5_1, ixl_5_2, ixl_5_3, ixl_5_4, ixm_5, ixl_6_0, ixl_6_1, ixl_6_2, ixl_6_3, ixl_6_4, ixl_6_5, ixm_6, eFz, gNe_ii, gNe_ss, gNe_bb, gNe_nn, gNe_in, gNe_ni, gMaxE, gMinE, ixN_zero, ixN_end, sof_inj, h, show r.length ≤ 16777216 by omega, show InR (r.length : Int) from inR_of (by omega) (by omega)]
theorem c2s_ok (b : Bool) (s1 s2 s3 s4 s5 s6 : Sl) {m : Nat} {rows : List (List Int)} (g : Dim m rows) (hm : m ≤ 4) : c2_sums_and_ways [⟨b, false, matD false rows⟩, s1, s2, s3, s4, s5, s6, ⟨false, false, .hole⟩, ⟨false, false, .hole⟩] = .ok (.tmp (wayD (W0f rows))) [⟨b, false, matD false rows⟩, s1, s2, s3, s4, s5, s6, ⟨false, false, .hole⟩, ⟨false, false, .hole⟩] := by
  have h := lcL_map (own := [7]) (gd := setN 7) (te := ce2_sums_and_ways) (δ := [⟨b, false, matD false rows⟩, s1, s2, s3, s4, s5, s6, ⟨false, false, .hole⟩, ⟨false, false, .hole⟩])
      (fun d => match d with | .lst _ xs => .lst true (((List.range xs.length).map fun h => [((h : Nat) : Int)]).map (rowD true)) | _ => .non) (rows.map (rowD false)) (by rw [line24, List.length_map, g.1]; omega) (fun d hd => by
        obtain ⟨r, hr, rfl⟩ := List.mem_map.mp hd
        refine ⟨[⟨b, false, matD false rows⟩, s1, s2, s3, s4, s5, s6, ⟨false, false, rowD false r⟩, ⟨false, false, .hole⟩], [⟨b, false, matD false rows⟩, s1, s2, s3, s4, s5, s6, ⟨false, false, rowD false r⟩, ⟨false, false, .hole⟩], rfl, ?_, rfl⟩
        have := c1s_ok ⟨b, false, matD false rows⟩ s1 s2 s3 s4 s5 s6 r (by rw [g.2 r hr]; omega)
        have e2 : (match rowD false r with | .lst _ xs => D.lst true (((List.range xs.length).map fun h => [((h : Nat) : Int)]).map (rowD true)) | _ => .non) = .lst true (((List.range r.length).map fun h => [((h : Nat) : Int)]).map (rowD true)) := by
          show D.lst true (((List.range (r.map D.int).length).map fun h => [((h : Nat) : Int)]).map (rowD true)) = _
          rw [List.length_map]
        rw [e2]
        exact eV_tmp this)
  have e1 : (rows.map (rowD false)).map (fun d => match d with | .lst _ xs => D.lst true (((List.range xs.length).map fun h => [((h : Nat) : Int)]).map (rowD true)) | _ => .non) = (W0f rows).map fun r => D.lst true (r.map (rowD true)) := by
    unfold W0f
    rw [List.map_map, List.map_map]
    refine List.map_congr_left fun r hr => ?_
    show D.lst true (((List.range (r.map D.int).length).map fun h => [((h : Nat) : Int)]).map (rowD true)) = _
    rw [List.length_map]
    rfl
  rw [e1] at h
  unfold c2_sums_and_ways
  generalize ce2_sums_and_ways = f at h ⊢
  unfold matD wayD at *
  generalize ((W0f rows).map fun r => D.lst true (r.map (rowD true))) = res at h ⊢
  simp [fE, ice, ices, sSeq, sSet, sSub, sRet, sRetN, sIf, sX, sNil, sPass, sBrk, sCnt, sFor, eV, eIx, eOp2, eRd, eCons, eConsC, eNil, eN, eC, eMv, eAnd, eOr, eNot, eIf, eNeg, eB, eMk, eChain, eLc, eDic0, eInt, bT, bB, bAnd, bOr, bNot, bYes, tru, iSeq, itO, iRng1, iRng2, iRng3, iEnm, iZp, enumD, zipD, isLst, kidsI, R.bind, R.bindS, R.mapE, Out.mapE, lockO, unlockO, lockL, unlockL, setLk, lkAt, rdO, rdL, tmpL, mkLst, mkTup, ixO, ixD, pick, putAt, D.kids, D.setK, isOwn, g1L, g2L, gI, gI0, gAdd, gSub, gMul, gFdiv, gMod, gPow, gC, gLt, gLe, gGt, gGe, gEq_ii, gEq_ss, gEq_bb, gEq_nn, gEq_in, gEq_ni, gEq_sn, gEq_ns, gEq_ints, gNe, neB, gIs, gIsnt, gIn, gNotIn, gLen, gSum, gAll, gAny, gMaxL, gMinL, gMax2, gMin2, gAbs, gStr, gIsi, tyD, isiB, tyList, flatD, eqD, gSlice, oD, vlO, setN, gdNil, gdCons, gdTup, wipeE, forL, eCall, okS, argL, argO, slotO, liftG, mSet, mSetL, mAppend, mClear, mReverse, chkT, ddA, wrL, wr1, back, setD, outs, L2.ixN, fz, fzs, line24, ices_ints, ices_strs, ices_bls, fzs_ints, fzs_strs, intsD_map, blsD_map, strsD_map, ices_app, fzs_app, gListOf, mPop, mPopAt, mInsert, gInX, gNotInX, inDic, keyD, isSc, gIntOf, gRevL, eFld, fldO, mFld, sFldS, sTupS, setNs, eMake, chkI, mSetD, ixl_1_0, ixm_1, ixl_2_0, ixl_2_1, ixm_2, ixl_3_0, ixl_3_1, ixl_3_2, ixm_3, ixl_4_0, ixl_4_1, ixl_4_2, ixl_4_3, ixm_4, ixl_5_0, ixl_5_1, ixl_5_2, ixl_5_3, ixl_5_4, ixm_5, ixl_6_0, ixl_6_1, ixl_6_2, ixl_6_3, ixl_6_4, ixl_6_5, ixm_6, eFz, gNe_ii, gNe_ss, gNe_bb, gNe_nn, gNe_in, gNe_ni, gMaxE, gMinE, ixN_zero, ixN_end, sof_inj, ices_rows, fzs_rows, h]
theorem sums_ok (b : Bool) {m : Nat} {rows : List (List Int)} (hm : 1 ≤ m) (hm2 : m ≤ 4) (g : Good m rows) : ∃ S W, d_sums_and_ways [⟨false, matD b rows⟩] = .ok (.tup [matD true S, wayD W]) [matD false rows] ∧ Least m rows S W ∧ (∀ i j, (gx [] W i j).length ≤ 16) ∧ (S, W) = it3 m (rows, W0f rows) := by
  have lk := look_ok b m rows hm hm2 g
  have lk0 := look_ok false m rows hm hm2 g
  have a3 := c3s_ok b ⟨false, false, .hole⟩ ⟨false, false, .hole⟩ ⟨false, false, .hole⟩ ⟨false, false, .hole⟩ ⟨false, false, .hole⟩ ⟨false, false, .hole⟩ ⟨false, false, .hole⟩ g.nng.1 hm2
  have a2 := c2s_ok b ⟨false, false, matD true rows⟩ ⟨false, false, .hole⟩ ⟨false, false, .hole⟩ ⟨false, false, .hole⟩ ⟨false, false, .hole⟩ ⟨false, false, .hole⟩ g.nng.1 hm2
  obtain ⟨S, W, d3, d4, d5, d6, a1, hL, hw, hit⟩ := lp3_ok b ⟨false, false, .hole⟩ ⟨false, false, .hole⟩ g.nng hm2 (FW.start g.nng.1) (W0_len rows)
  refine ⟨S, W, ?_, hL, hw, hit⟩
  have hi : ices (rows.map (rowD true)) = false := by
    cases rows with
    | nil => have := g.1; simp at this
    | cons r rs => simp [ices, ice, rowD]
  have hir : ice (matD true S) = false := rfl
  have hiw : ice (wayD W) = false := rfl
  unfold d_sums_and_ways mkFn b_sums_and_ways
  generalize d_look_at_rinses = f0 at lk lk0 ⊢
  generalize c3_sums_and_ways = f3 at a3 ⊢
  generalize c2_sums_and_ways = f2 at a2 ⊢
  generalize f3_sums_and_ways = f1 at a1 ⊢
  clear hit
  generalize W0f rows = W0 at *
  unfold matD wayD at *
  cases b
  · simp [fE, ice, ices, sSeq, sSet, sSub, sRet, sRetN, sIf, sX, sNil, sPass, sBrk, sCnt, sFor, eV, eIx, eOp2, eRd, eCons, eConsC, eNil, eN, eC, eMv, eAnd, eOr, eNot, eIf, eNeg, eB, eMk, eChain, eLc, eDic0, eInt, bT, bB, bAnd, bOr, bNot, bYes, tru, iSeq, itO, iRng1, iRng2, iRng3, iEnm, iZp, enumD, zipD, isLst, kidsI, R.bind, R.bindS, R.mapE, Out.mapE, lockO, unlockO, lockL, unlockL, setLk, lkAt, rdO, rdL, tmpL, mkLst, mkTup, ixO, ixD, pick, putAt, D.kids, D.setK, isOwn, g1L, g2L, gI, gI0, gAdd, gSub, gMul, gFdiv, gMod, gPow, gC, gLt, gLe, gGt, gGe, gEq_ii, gEq_ss, gEq_bb, gEq_nn, gEq_in, gEq_ni, gEq_sn, gEq_ns, gEq_ints, gNe, neB, gIs, gIsnt, gIn, gNotIn, gLen, gSum, gAll, gAny, gMaxL, gMinL, gMax2, gMin2, gAbs, gStr, gIsi, tyD, isiB, tyList, flatD, eqD, gSlice, oD, vlO, setN, gdNil, gdCons, gdTup, wipeE, lcL, forL, eCall, okS, argL, argO, slotO, liftG, mSet, mSetL, mAppend, mClear, mReverse, chkT, ddA, wrL, wr1, back, setD, outs, L2.ixN, fz, fzs, line24, ices_ints, ices_strs, ices_bls, fzs_ints, fzs_strs, intsD_map, blsD_map, strsD_map, ices_app, fzs_app, gListOf, mPop, mPopAt, mInsert, gInX, gNotInX, inDic, keyD, isSc, gIntOf, gRevL, eFld, fldO, mFld, sFldS, sTupS, setNs, eMake, chkI, mSetD, ixl_1_0, ixm_1, ixl_2_0, ixl_2_1, ixm_2, ixl_3_0, ixl_3_1, ixl_3_2, ixm_3, ixl_4_0, ixl_4_1, ixl_4_2, ixl_4_3, ixm_4, ixl_5_0, ixl_5_1, ixl_5_2, ixl_5_3, ixl_5_4, ixm_5, ixl_6_0, ixl_6_1, ixl_6_2, ixl_6_3, ixl_6_4, ixl_6_5, ixm_6, eFz, gNe_ii, gNe_ss, gNe_bb, gNe_nn, gNe_in, gNe_ni, gMaxE, gMinE, ixN_zero, ixN_end, sof_inj, ices_rows, lk, a3, a2, a1]
  · simp [fE, ice, ices, sSeq, sSet, sSub, sRet, sRetN, sIf, sX, sNil, sPass, sBrk, sCnt, sFor, eV, eIx, eOp2, eRd, eCons, eConsC, eNil, eN, eC, eMv, eAnd, eOr, eNot, eIf, eNeg, eB, eMk, eChain, eLc, eDic0, eInt, bT, bB, bAnd, bOr, bNot, bYes, tru, iSeq, itO, iRng1, iRng2, iRng3, iEnm, iZp, enumD, zipD, isLst, kidsI, R.bind, R.bindS, R.mapE, Out.mapE, lockO, unlockO, lockL, unlockL, setLk, lkAt, rdO, rdL, tmpL, mkLst, mkTup, ixO, ixD, pick, putAt, D.kids, D.setK, isOwn, g1L, g2L, gI, gI0, gAdd, gSub, gMul, gFdiv, gMod, gPow, gC, gLt, gLe, gGt, gGe, gEq_ii, gEq_ss, gEq_bb, gEq_nn, gEq_in, gEq_ni, gEq_sn, gEq_ns, gEq_ints, gNe, neB, gIs, gIsnt, gIn, gNotIn, gLen, gSum, gAll, gAny, gMaxL, gMinL, gMax2, gMin2, gAbs, gStr, gIsi, tyD, isiB, tyList, flatD, eqD, gSlice, oD, vlO, setN, gdNil, gdCons, gdTup, wipeE, lcL, forL, eCall, okS, argL, argO, slotO, liftG, mSet, mSetL, mAppend, mClear, mReverse, chkT, ddA, wrL, wr1, back, setD, outs, L2.ixN, fz, fzs, line24, ices_ints, ices_strs, ices_bls, fzs_ints, fzs_strs, intsD_map, blsD_map, strsD_map, ices_app, fzs_app, gListOf, mPop, mPopAt, mInsert, gInX, gNotInX, inDic, keyD, isSc, gIntOf, gRevL, eFld, fldO, mFld, sFldS, sTupS, setNs, eMake, chkI, mSetD, ixl_1_0, ixm_1, ixl_2_0, ixl_2_1, ixm_2, ixl_3_0, ixl_3_1, ixl_3_2, ixm_3, ixl_4_0, ixl_4_1, ixl_4_2, ixl_4_3, ixm_4, ixl_5_0, ixl_5_1, ixl_5_2, ixl_5_3, ixl_5_4, ixm_5, ixl_6_0, ixl_6_1, ixl_6_2, ixl_6_3, ixl_6_4, ixl_6_5, ixm_6, eFz, gNe_ii, gNe_ss, gNe_bb, gNe_nn, gNe_in, gNe_ni, gMaxE, gMinE, ixN_zero, ixN_end, sof_inj, ices_rows, lk, hi, a3, a2, a1]
theorem least_ok (b : Bool) {m : Nat} {rows : List (List Int)} (hm : 1 ≤ m) (hm2 : m ≤ 4) (g : Good m rows) : ∃ S W, d_least_rinses [⟨false, matD b rows⟩] = .ok (matD true S) [matD false rows] ∧ Least m rows S W := by
  obtain ⟨S, W, e, hL, _, _⟩ := sums_ok b hm hm2 g
  refine ⟨S, W, ?_, hL⟩
  have hi : ices (rows.map (rowD true)) = false := by
    cases rows with
    | nil => have := g.1; simp at this
    | cons r rs => simp [ices, ice, rowD]
  unfold d_least_rinses mkFn b_least_rinses
  generalize d_sums_and_ways = f at e ⊢
  unfold matD wayD at *
  cases b <;> simp [fE, ice, ices, sSeq, sSet, sSub, sRet, sRetN, sIf, sX, sNil, sPass, sBrk, sCnt, sFor, eV, eIx, eOp2, eRd, eCons, eConsC, eNil, eN, eC, eMv, eAnd, eOr, eNot, eIf, eNeg, eB, eMk, eChain, eLc, eDic0, eInt, bT, bB, bAnd, bOr, bNot, bYes, tru, iSeq, itO, iRng1, iRng2, iRng3, iEnm, iZp, enumD, zipD, isLst, kidsI, R.bind, R.bindS, R.mapE, Out.mapE, lockO, unlockO, lockL, unlockL, setLk, lkAt, rdO, rdL, tmpL, mkLst, mkTup, ixO, ixD, pick, putAt, D.kids, D.setK, isOwn, g1L, g2L, gI, gI0, gAdd, gSub, gMul, gFdiv, gMod, gPow, gC, gLt, gLe, gGt, gGe, gEq_ii, gEq_ss, gEq_bb, gEq_nn, gEq_in, gEq_ni, gEq_sn, gEq_ns, gEq_ints, gNe, neB, gIs, gIsnt, gIn, gNotIn, gLen, gSum, gAll, gAny, gMaxL, gMinL, gMax2, gMin2, gAbs, gStr, gIsi, tyD, isiB, tyList, flatD, eqD, gSlice, oD, vlO, setN, gdNil, gdCons, gdTup, wipeE, lcL, forL, eCall, okS, argL, argO, slotO, liftG, mSet, mSetL, mAppend, mClear, mReverse, chkT, ddA, wrL, wr1, back, setD, outs, L2.ixN, fz, fzs, line24, ices_ints, ices_strs, ices_bls, fzs_ints, fzs_strs, intsD_map, blsD_map, strsD_map, ices_app, fzs_app, gListOf, mPop, mPopAt, mInsert, gInX, gNotInX, inDic, keyD, isSc, gIntOf, gRevL, eFld, fldO, mFld, sFldS, sTupS, setNs, eMake, chkI, mSetD, ixl_1_0, ixm_1, ixl_2_0, ixl_2_1, ixm_2, ixl_3_0, ixl_3_1, ixl_3_2, ixm_3, ixl_4_0, ixl_4_1, ixl_4_2, ixl_4_3, ixm_4, ixl_5_0, ixl_5_1, ixl_5_2, ixl_5_3, ixl_5_4, ixm_5, ixl_6_0, ixl_6_1, ixl_6_2, ixl_6_3, ixl_6_4, ixl_6_5, ixm_6, eFz, gNe_ii, gNe_ss, gNe_bb, gNe_nn, gNe_in, gNe_ni, gMaxE, gMinE, ixN_zero, ixN_end, sof_inj, ices_rows, hi, e]

theorem least_good {m : Nat} {rows S : List (List Int)} {W : List (List (List Int))} (h : Least m rows S W) (g : Good m rows) : Good m S := by
  refine ⟨h.fw.ds.1, fun r hr => ⟨h.fw.ds.2 r hr, fun x hx => ?_⟩⟩
  obtain ⟨i, hi, rfl⟩ := List.getElem_of_mem hr
  obtain ⟨j, hj, rfl⟩ := List.getElem_of_mem hx
  have hrl := h.fw.ds.2 _ hr
  have him : i ≤ m := by have := h.fw.ds.1; omega
  have hjm : j < m := by omega
  have e : gx 0 S i j = S[i][j] := by
    unfold gx
    rw [List.getElem?_eq_getElem hi, Option.getD_some, List.getElem?_eq_getElem hj, Option.getD_some]
  rw [← e]
  refine ⟨h.fw.nn g.nng him hjm, ?_⟩
  have a := h.one g.nng.1 him hjm
  obtain ⟨r2, k1, k2, k3⟩ := g.nng.1.get 0 him hjm
  have := ((g.2 r2 (List.mem_of_getElem? k1)).2 _ (List.mem_of_getElem? k3)).2
  omega
theorem sums_det {m : Nat} {rows : List (List Int)} (hm : 1 ≤ m) (hm2 : m ≤ 4) (g : Good m rows) : ∃ S W, (∀ b, d_sums_and_ways [⟨false, matD b rows⟩] = .ok (.tup [matD true S, wayD W]) [matD false rows]) ∧ Least m rows S W ∧ ∀ i j, (gx [] W i j).length ≤ 16 := by
  obtain ⟨S, W, e, hL, hw, hi⟩ := sums_ok true hm hm2 g
  obtain ⟨S', W', e', _, _, hi'⟩ := sums_ok false hm hm2 g
  rw [← hi, Prod.mk.injEq] at hi'
  rw [hi'.1, hi'.2] at e'
  exact ⟨S, W, fun b => by cases b <;> assumption, hL, hw⟩
theorem least_of (b : Bool) {m : Nat} {rows S : List (List Int)} {W : List (List (List Int))} (hm : 1 ≤ m) (g : Good m rows) (e : ∀ b, d_sums_and_ways [⟨false, matD b rows⟩] = .ok (.tup [matD true S, wayD W]) [matD false rows]) : d_least_rinses [⟨false, matD b rows⟩] = .ok (matD true S) [matD false rows] := by
  have e := e b
  have hi : ices (rows.map (rowD true)) = false := by
    cases rows with
    | nil => have := g.1; simp at this
    | cons r rs => simp [ices, ice, rowD]
  unfold d_least_rinses mkFn b_least_rinses
  generalize d_sums_and_ways = f at e ⊢
  unfold matD wayD at *
  cases b <;> simp [fE, ice, ices, sSeq, sSet, sSub, sRet, sRetN, sIf, sX, sNil, sPass, sBrk, sCnt, sFor, eV, eIx, eOp2, eRd, eCons, eConsC, eNil, eN, eC, eMv, eAnd, eOr, eNot, eIf, eNeg, eB, eMk, eChain, eLc, eDic0, eInt, bT, bB, bAnd, bOr, bNot, bYes, tru, iSeq, itO, iRng1, iRng2, iRng3, iEnm, iZp, enumD, zipD, isLst, kidsI, R.bind, R.bindS, R.mapE, Out.mapE, lockO, unlockO, lockL, unlockL, setLk, lkAt, rdO, rdL, tmpL, mkLst, mkTup, ixO, ixD, pick, putAt, D.kids, D.setK, isOwn, g1L, g2L, gI, gI0, gAdd, gSub, gMul, gFdiv, gMod, gPow, gC, gLt, gLe, gGt, gGe, gEq_ii, gEq_ss, gEq_bb, gEq_nn, gEq_in, gEq_ni, gEq_sn, gEq_ns, gEq_ints, gNe, neB, gIs, gIsnt, gIn, gNotIn, gLen, gSum, gAll, gAny, gMaxL, gMinL, gMax2, gMin2, gAbs, gStr, gIsi, tyD, isiB, tyList, flatD, eqD, gSlice, oD, vlO, setN, gdNil, gdCons, gdTup, wipeE, lcL, forL, eCall, okS, argL, argO, slotO, liftG, mSet, mSetL, mAppend, mClear, mReverse, chkT, ddA, wrL, wr1, back, setD, outs, L2.ixN, fz, fzs, line24, ices_ints, ices_strs, ices_bls, fzs_ints, fzs_strs, intsD_map, blsD_map, strsD_map, ices_app, fzs_app, gListOf, mPop, mPopAt, mInsert, gInX, gNotInX, inDic, keyD, isSc, gIntOf, gRevL, eFld, fldO, mFld, sFldS, sTupS, setNs, eMake, chkI, mSetD, ixl_1_0, ixm_1, ixl_2_0, ixl_2_1, ixm_2, ixl_3_0, ixl_3_1, ixl_3_2, ixm_3, ixl_4_0, ixl_4_1, ixl_4_2, ixl_4_3, ixm_4, ixl_5_0, ixl_5_1, ixl_5_2, ixl_5_3, ixl_5_4, ixm_5, ixl_6_0, ixl_6_1, ixl_6_2, ixl_6_3, ixl_6_4, ixl_6_5, ixm_6, eFz, gNe_ii, gNe_ss, gNe_bb, gNe_nn, gNe_in, gNe_ni, gMaxE, gMinE, ixN_zero, ixN_end, sof_inj, ices_rows, hi, e]
def rix (m : Nat) (i : Int) : Nat := if i < 0 then m else i.toNat
theorem rix_le {m : Nat} {i : Int} (h1 : -1 ≤ i) (h2 : i ≤ m) : rix m i ≤ m := by unfold rix; split <;> omega
theorem rix_ix {m n : Nat} {i : Int} (h1 : -1 ≤ i) (h2 : i ≤ m) (hn : n = m + 1) : L2.ixN n i = some (rix m i) := by
  unfold L2.ixN rix
  by_cases h : 0 ≤ i
  · rw [if_pos h, if_pos (by omega), if_neg (by omega)]
  · rw [if_neg h, if_pos (by omega), if_pos (by omega)]; congr 1; omega
theorem rix_cell {m : Nat} {rows : List (List Int)} (g : Dim m rows) {i : Int} (h1 : -1 ≤ i) (h2 : i ≤ m) {j : Nat} (hj : j < m) : cell rows i j = gx 0 rows (rix m i) j := by
  unfold rix
  by_cases h : i < 0
  · have : i = -1 := by omega
    subst this
    rw [if_pos (by decide), cell_neg g, cell_nat g (Nat.le_refl _) hj]
  · rw [if_neg h]
    obtain ⟨a, rfl⟩ : ∃ a : Nat, i = a := ⟨i.toNat, by omega⟩
    rw [cell_nat g (by omega) hj]; rfl
theorem rix_wk {m : Nat} {rows : List (List Int)} (g : Dim m rows) {i : Int} (h1 : -1 ≤ i) (h2 : i ≤ m) (q : List Int) : wk rows i q = wk rows (rix m i) q := by
  unfold rix
  by_cases h : i < 0
  · have : i = -1 := by omega
    subst this
    rw [if_pos (by decide), wk_neg g]
  · rw [if_neg h]; congr 1; omega
def bestL (rows : List (List Int)) : Nat → Int → Int → List Int → Int
  | 0, here, last, _ => cell rows here last
  | n + 1, here, last, left => left.foldl (fun b amid => min b (cell rows here amid + bestL rows n amid last (left.filter fun h => decide (h ≠ amid)))) (cell rows here last)
theorem foldl_min_le {α : Type} (f : α → Int) : ∀ (l : List α) (b : Int), l.foldl (fun b a => min b (f a)) b ≤ b ∧ ∀ a ∈ l, l.foldl (fun b a => min b (f a)) b ≤ f a
  | [], b => ⟨Int.le_refl b, fun a h => by simp at h⟩
  | x :: l, b => by
    obtain ⟨h1, h2⟩ := foldl_min_le f l (min b (f x))
    rw [List.foldl_cons]
    refine ⟨by omega, fun a ha => ?_⟩
    rcases List.mem_cons.mp ha with rfl | ha
    · omega
    · exact h2 a ha
theorem foldl_min_eq {α : Type} (f : α → Int) : ∀ (l : List α) (b : Int), l.foldl (fun b a => min b (f a)) b = b ∨ ∃ a ∈ l, l.foldl (fun b a => min b (f a)) b = f a
  | [], b => .inl rfl
  | x :: l, b => by
    rw [List.foldl_cons]
    rcases foldl_min_eq f l (min b (f x)) with h | ⟨a, ha, h⟩
    · rw [h]
      rcases Int.min_def b (f x) ▸ (by omega : min b (f x) = b ∨ min b (f x) = f x) with z | z
      · exact .inl z
      · exact .inr ⟨x, List.mem_cons_self, z⟩
    · exact .inr ⟨a, List.mem_cons_of_mem _ ha, h⟩
theorem bestL_way (rows : List (List Int)) : ∀ (n : Nat) (here last : Int) (left : List Int), ∃ q, (∀ x ∈ q, x ∈ left) ∧ bestL rows n here last left = wk rows here (q ++ [last])
  | 0, here, last, left => ⟨[], fun x h => by simp at h, by simp [bestL, wk]⟩
  | n + 1, here, last, left => by
    rcases foldl_min_eq (fun amid => cell rows here amid + bestL rows n amid last (left.filter fun h => decide (h ≠ amid))) left (cell rows here last) with h | ⟨a, ha, h⟩
    · exact ⟨[], fun x h => by simp at h, by unfold bestL; rw [h]; simp [wk]⟩
    · obtain ⟨q, h1, h2⟩ := bestL_way rows n a last (left.filter fun h => decide (h ≠ a))
      refine ⟨a :: q, fun x hx => ?_, by unfold bestL; rw [h, h2]; rfl⟩
      rcases List.mem_cons.mp hx with rfl | hx
      · exact ha
      · exact (List.mem_filter.mp (h1 x hx)).1
theorem shorten {m : Nat} {rows : List (List Int)} (g : Nng m rows) {a : Int} (ha0 : 0 ≤ a) (ha1 : a < m) (last : Int) : ∀ (k : Nat) (q : List Int), q.length ≤ k → In m q → ∃ q2, (∀ x ∈ q2, x ∈ q) ∧ a ∉ q2 ∧ wk rows a (q2 ++ [last]) ≤ wk rows a (q ++ [last])
  | 0, q, hk, hq => by
    have : q = [] := List.length_eq_zero_iff.mp (by omega)
    subst this
    exact ⟨[], fun x h => h, by simp, Int.le_refl _⟩
  | k + 1, q, hk, hq => by
    by_cases h : a ∈ q
    · obtain ⟨s, t, rfl⟩ := List.append_of_mem h
      simp only [List.length_append, List.length_cons] at hk
      have ht : In m t := fun x hx => hq x (by simp [hx])
      have hs : In m (s ++ [a]) := fun x hx => hq x (by
        rcases List.mem_append.mp hx with z | z
        · simp [z]
        · simp [List.mem_singleton.mp z])
      obtain ⟨q2, h1, h2, h3⟩ := shorten g ha0 ha1 last k t (by omega) ht
      refine ⟨q2, fun x hx => by simp [h1 x hx], h2, ?_⟩
      have e : s ++ a :: t ++ [last] = (s ++ [a]) ++ (t ++ [last]) := by simp
      rw [e, wk_app rows (s ++ [a]) (t ++ [last]) a, lastD_snoc]
      have := wk_nn g (s ++ [a]) a ha0 (by omega) hs
      omega
    · exact ⟨q, fun x hx => hx, h, Int.le_refl _⟩
theorem bestL_le {m : Nat} {rows : List (List Int)} (g : Nng m rows) (last : Int) : ∀ (n : Nat) (here : Int) (left : List Int), left.length ≤ n → In m left → ∀ q, (∀ x ∈ q, x ∈ left) → bestL rows n here last left ≤ wk rows here (q ++ [last])
  | 0, here, left, hl, hin, q, hq => by
    have : left = [] := List.length_eq_zero_iff.mp (by omega)
    subst this
    have : q = [] := List.eq_nil_iff_forall_not_mem.mpr fun x hx => by have := hq x hx; simp at this
    subst this
    simp [bestL, wk]
  | n + 1, here, left, hl, hin, q, hq => by
    obtain ⟨h1, h2⟩ := foldl_min_le (fun amid => cell rows here amid + bestL rows n amid last (left.filter fun h => decide (h ≠ amid))) left (cell rows here last)
    cases q with
    | nil => unfold bestL; simp only [List.nil_append, wk]; omega
    | cons a q =>
      have ha := hq a List.mem_cons_self
      have hab := hin a ha
      obtain ⟨q2, s1, s2, s3⟩ := shorten g hab.1 hab.2 last q.length q (Nat.le_refl _) fun x hx => hin x (hq x (List.mem_cons_of_mem _ hx))
      have hlt : (left.filter fun h => decide (h ≠ a)).length < left.length := List.length_filter_lt_length_iff_exists.mpr ⟨a, ha, by simp⟩
      have ih := bestL_le g last n a (left.filter fun h => decide (h ≠ a)) (by omega) (fun x hx => hin x (List.mem_filter.mp hx).1) q2 (fun x hx => List.mem_filter.mpr ⟨hq x (List.mem_cons_of_mem _ (s1 x hx)), decide_eq_true fun e => s2 (e ▸ hx)⟩)
      have h3 := h2 a ha
      unfold bestL
      rw [List.cons_append]
      show _ ≤ cell rows here a + wk rows a (q ++ [last])
      omega
end Rw

set_option maxRecDepth 100000
set_option maxHeartbeats 400000
set_option linter.all false
set_option exponentiation.threshold 3000
namespace Rw
open DL
theorem bk_l_bestr0 (rows : List (List Int)) {m : Nat} (g : Good m rows) (last : Int) (hla : 0 ≤ last) (hlb : last < m) (here : Int) (h0 : 0 ≤ here) (h1 : here ≤ m) (left : List Int) (hl : left.length ≤ 0) (hin : In m left) :
    d_l_bestr0 [⟨false, matD false rows⟩, ⟨false, .int here⟩, ⟨false, .int last⟩, ⟨false, .lst true (left.map .int)⟩] = .ok (.int (bestL rows 0 here last left)) [matD false rows, .int here, .int last, .lst true (left.map .int)] := by
  obtain ⟨ii, jj, rw0, e1, e2, e3, e4, _⟩ := cell_ok g (i := here) (j := last) (by omega) h1 hla hlb
  have hir := ices_rows rows
  have hii := ices_ints left
  have hrow := ices_ints rw0
  have hrl : (rw0.map D.int).length = rw0.length := List.length_map _
  have hx : (rows.map (rowD false))[ii]? = some (.lst false (rw0.map .int)) := by rw [List.getElem?_map, e2]; rfl
  have hxl : ii < (rows.map (rowD false)).length := (List.getElem?_eq_some_iff.mp hx).1
  have hx' : (rows.map (rowD false))[ii] = .lst false (rw0.map .int) := (List.getElem?_eq_some_iff.mp hx).2
  have hy : (rw0.map D.int)[jj]? = some (.int (cell rows here last)) := by rw [List.getElem?_map, e4]; rfl
  have hyl : jj < (rw0.map D.int).length := (List.getElem?_eq_some_iff.mp hy).1
  have hy' : (rw0.map D.int)[jj] = .int (cell rows here last) := (List.getElem?_eq_some_iff.mp hy).2
  have hml : (rows.map (rowD false)).length = rows.length := List.length_map _
  have hnil : left = [] := List.length_eq_zero_iff.mp (by omega)
  subst hnil
  have e : ∀ f3 : SF, forL (setN 5) f3 ([] : List D) [sv (matD false rows), sv (.int here), sv (.int last), ⟨true, true, .lst true []⟩, sv (.int (cell rows here last)), sh, sh, sh] = .nx [sv (matD false rows), sv (.int here), sv (.int last), ⟨true, true, .lst true []⟩, sv (.int (cell rows here last)), sh, sh, sh] := fun _ => rfl
  have e := e fb1_l_bestr0
  have hb : bestL rows 0 here last [] = cell rows here last := rfl
  rw [hb]
  simp only [List.map_nil] at *
  unfold d_l_bestr0 mkFn b_l_bestr0 f1_l_bestr0
  generalize fb1_l_bestr0 = f3 at *
  generalize hC : cell rows here last = C at *
  unfold matD at *
  generalize rows.map (rowD false) = MR at *
  generalize rw0.map D.int = RI at *
  simp [fE, ice, ices, sSeq, sSet, sSub, sRet, sRetN, sIf, sX, sNil, sPass, sBrk, sCnt, sFor, eV, eIx, eOp2, eRd, eCons, eConsC, eNil, eN, eC, eMv, eAnd, eOr, eNot, eIf, eNeg, eB, eMk, eChain, eLc, eDic0, eInt, bT, bB, bAnd, bOr, bNot, bYes, tru, iSeq, itO, iRng1, iRng2, iRng3, iEnm, iZp, enumD, zipD, isLst, kidsI, R.bind, R.bindS, R.mapE, Out.mapE, lockO, unlockO, lockL, unlockL, setLk, lkAt, rdO, rdL, tmpL, mkLst, mkTup, ixO, ixD, pick, putAt, D.kids, D.setK, isOwn, g1L, g2L, gI, gI0, gAdd, gSub, gMul, gFdiv, gMod, gPow, gC, gLt, gLe, gGt, gGe, gEq_ii, gEq_ss, gEq_bb, gEq_nn, gEq_in, gEq_ni, gEq_sn, gEq_ns, gEq_ints, gNe, neB, gIs, gIsnt, gIn, gNotIn, gLen, gSum, gAll, gAny, gMaxL, gMinL, gMax2, gMin2, gAbs, gStr, gIsi, tyD, isiB, tyList, flatD, eqD, gSlice, oD, vlO, setN, gdNil, gdCons, gdTup, wipeE, lcL, eCall, okS, argL, argO, slotO, liftG, mSet, mSetL, mAppend, mClear, mReverse, chkT, ddA, wrL, wr1, back, setD, outs, fz, fzs, line24, ices_ints, ices_strs, ices_bls, fzs_ints, fzs_strs, intsD_map, blsD_map, strsD_map, ices_app, fzs_app, gListOf, mPop, mPopAt, mInsert, gInX, gNotInX, inDic, keyD, isSc, gIntOf, gRevL, eFld, fldO, mFld, sFldS, sTupS, setNs, eMake, chkI, mSetD, ixl_1_0, ixm_1, ixl_2_0, ixl_2_1, ixm_2, ixl_3_0, ixl_3_1, ixl_3_2, ixm_3, ixl_4_0, ixl_4_1, ixl_4_2, ixl_4_3, ixm_4, ixl_5_0, ixl_5_1, ixl_5_2, ixl_5_3, ixl_5_4, ixm_5, ixl_6_0, ixl_6_1, ixl_6_2, ixl_6_3, ixl_6_4, ixl_6_5, ixm_6, eFz, gNe_ii, gNe_ss, gNe_bb, gNe_nn, gNe_in, gNe_ni, gMaxE, gMinE, ixN_zero, ixN_end, sof_inj, e1, e3, hrl, hml, hx, hx', hxl, hy, hy', hyl, hir, hii, hrow, e]
theorem st_l_bestr1 (rows : List (List Int)) {m : Nat} (g : Good m rows) (here last : Int) (h0 : 0 ≤ here) (h1 : here ≤ m) (left : List Int) (hl : left.length ≤ 100) (hin : In m left) (b amid : Int) (ham : amid ∈ left) (d6 : D) (r : Int)
    (hr : d_l_bestr0 [⟨false, matD false rows⟩, ⟨false, .int amid⟩, ⟨false, .int last⟩, ⟨false, .lst true ((left.filter fun h => decide (h ≠ amid)).map .int)⟩] = .ok (.int r) [matD false rows, .int amid, .int last, .lst true ((left.filter fun h => decide (h ≠ amid)).map .int)]) :
    fb1_l_bestr1 [sv (matD false rows), sv (.int here), sv (.int last), ⟨true, true, .lst true (left.map .int)⟩, sv (.int b), sv (.int amid), sv d6, sh] = .nx [sv (matD false rows), sv (.int here), sv (.int last), ⟨true, true, .lst true (left.map .int)⟩, sv (.int (min b (cell rows here amid + r))), sv (.int amid), sv (.int r), sh] := by
  obtain ⟨ii, jj, rw0, e1, e2, e3, e4, _⟩ := cell_ok g (i := here) (j := amid) (by omega) h1 (hin _ ham).1 (hin _ ham).2
  have hir := ices_rows rows
  have hii := ices_ints left
  have hc := lcL_flt (own := [7]) (gd := setN 7) (tt := ct1_l_bestr1) (te := ce1_l_bestr1) (δ := [sv (matD false rows), sv (.int here), sv (.int last), ⟨true, true, .lst true (left.map .int)⟩, sv (.int b), sv (.int amid), sv d6, sh]) D.int D.int (fun h => decide (h ≠ amid)) left (by rw [line24]; omega) (fun h hh => by
    have gn : gNe (.int h) (.int amid) = some (.bl (decide (h ≠ amid))) := by unfold gNe; rw [gEq_ii]; by_cases q : h = amid <;> simp [neB, q]
    refine ⟨[sv (matD false rows), sv (.int here), sv (.int last), ⟨true, true, .lst true (left.map .int)⟩, sv (.int b), sv (.int amid), sv d6, sv (.int h)], [sv (matD false rows), sv (.int here), sv (.int last), ⟨true, true, .lst true (left.map .int)⟩, sv (.int b), sv (.int amid), sv d6, sv (.int h)], rfl, ?_, fun _ => ⟨[sv (matD false rows), sv (.int here), sv (.int last), ⟨true, true, .lst true (left.map .int)⟩, sv (.int b), sv (.int amid), sv d6, sv (.int h)], ?_, rfl⟩, fun _ => rfl⟩
    · unfold ct1_l_bestr1
      generalize left.map D.int = LF
      generalize matD false rows = MR
      simp [fE, ice, ices, sSeq, sSet, sSub, sRet, sRetN, sIf, sX, sNil, sPass, sBrk, sCnt, sFor, eV, eIx, eOp2, eRd, eCons, eConsC, eNil, eN, eC, eMv, eAnd, eOr, eNot, eIf, eNeg, eB, eMk, eChain, eLc, eDic0, eInt, bT, bB, bAnd, bOr, bNot, bYes, tru, iSeq, itO, iRng1, iRng2, iRng3, iEnm, iZp, enumD, zipD, isLst, kidsI, R.bind, R.bindS, R.mapE, Out.mapE, lockO, unlockO, lockL, unlockL, setLk, lkAt, rdO, rdL, tmpL, mkLst, mkTup, ixO, ixD, pick, putAt, D.kids, D.setK, isOwn, g1L, g2L, gI, gI0, gAdd, gSub, gMul, gFdiv, gMod, gPow, gC, gLt, gLe, gGt, gGe, gEq_ii, gEq_ss, gEq_bb, gEq_nn, gEq_in, gEq_ni, gEq_sn, gEq_ns, gEq_ints, neB, gIs, gIsnt, gIn, gNotIn, gLen, gSum, gAll, gAny, gMaxL, gMinL, gMax2, gMin2, gAbs, gStr, gIsi, tyD, isiB, tyList, flatD, eqD, gSlice, oD, vlO, setN, gdNil, gdCons, gdTup, wipeE, lcL, forL, eCall, okS, argL, argO, slotO, liftG, mSet, mSetL, mAppend, mClear, mReverse, chkT, ddA, wrL, wr1, back, setD, outs, L2.ixN, fz, fzs, line24, ices_ints, ices_strs, ices_bls, fzs_ints, fzs_strs, intsD_map, blsD_map, strsD_map, ices_app, fzs_app, gListOf, mPop, mPopAt, mInsert, gInX, gNotInX, inDic, keyD, isSc, gIntOf, gRevL, eFld, fldO, mFld, sFldS, sTupS, setNs, eMake, chkI, mSetD, ixl_1_0, ixm_1, ixl_2_0, ixl_2_1, ixm_2, ixl_3_0, ixl_3_1, ixl_3_2, ixm_3, ixl_4_0, ixl_4_1, ixl_4_2, ixl_4_3, ixm_4, ixl_5_0, ixl_5_1, ixl_5_2, ixl_5_3, ixl_5_4, ixm_5, ixl_6_0, ixl_6_1, ixl_6_2, ixl_6_3, ixl_6_4, ixl_6_5, ixm_6, eFz, gNe_ii, gNe_ss, gNe_bb, gNe_nn, gNe_in, gNe_ni, gMaxE, gMinE, ixN_zero, ixN_end, sof_inj, gn]
    · unfold ce1_l_bestr1
      generalize left.map D.int = LF
      generalize matD false rows = MR
      simp [fE, ice, ices, sSeq, sSet, sSub, sRet, sRetN, sIf, sX, sNil, sPass, sBrk, sCnt, sFor, eV, eIx, eOp2, eRd, eCons, eConsC, eNil, eN, eC, eMv, eAnd, eOr, eNot, eIf, eNeg, eB, eMk, eChain, eLc, eDic0, eInt, bT, bB, bAnd, bOr, bNot, bYes, tru, iSeq, itO, iRng1, iRng2, iRng3, iEnm, iZp, enumD, zipD, isLst, kidsI, R.bind, R.bindS, R.mapE, Out.mapE, lockO, unlockO, lockL, unlockL, setLk, lkAt, rdO, rdL, tmpL, mkLst, mkTup, ixO, ixD, pick, putAt, D.kids, D.setK, isOwn, g1L, g2L, gI, gI0, gAdd, gSub, gMul, gFdiv, gMod, gPow, gC, gLt, gLe, gGt, gGe, gEq_ii, gEq_ss, gEq_bb, gEq_nn, gEq_in, gEq_ni, gEq_sn, gEq_ns, gEq_ints, gNe, neB, gIs, gIsnt, gIn, gNotIn, gLen, gSum, gAll, gAny, gMaxL, gMinL, gMax2, gMin2, gAbs, gStr, gIsi, tyD, isiB, tyList, flatD, eqD, gSlice, oD, vlO, setN, gdNil, gdCons, gdTup, wipeE, lcL, forL, eCall, okS, argL, argO, slotO, liftG, mSet, mSetL, mAppend, mClear, mReverse, chkT, ddA, wrL, wr1, back, setD, outs, L2.ixN, fz, fzs, line24, ices_ints, ices_strs, ices_bls, fzs_ints, fzs_strs, intsD_map, blsD_map, strsD_map, ices_app, fzs_app, gListOf, mPop, mPopAt, mInsert, gInX, gNotInX, inDic, keyD, isSc, gIntOf, gRevL, eFld, fldO, mFld, sFldS, sTupS, setNs, eMake, chkI, mSetD, ixl_1_0, ixm_1, ixl_2_0, ixl_2_1, ixm_2, ixl_3_0, ixl_3_1, ixl_3_2, ixm_3, ixl_4_0, ixl_4_1, ixl_4_2, ixl_4_3, ixm_4, ixl_5_0, ixl_5_1, ixl_5_2, ixl_5_3, ixl_5_4, ixm_5, ixl_6_0, ixl_6_1, ixl_6_2, ixl_6_3, ixl_6_4, ixl_6_5, ixm_6, eFz, gNe_ii, gNe_ss, gNe_bb, gNe_nn, gNe_in, gNe_ni, gMaxE, gMinE, ixN_zero, ixN_end, sof_inj])
  have hmin : (if cell rows here amid + r < b then cell rows here amid + r else b) = min b (cell rows here amid + r) := by omega
  have hrow := ices_ints rw0
  have hrl : (rw0.map D.int).length = rw0.length := List.length_map _
  have hx : (rows.map (rowD false))[ii]? = some (.lst false (rw0.map .int)) := by rw [List.getElem?_map, e2]; rfl
  have hxl : ii < (rows.map (rowD false)).length := (List.getElem?_eq_some_iff.mp hx).1
  have hx' : (rows.map (rowD false))[ii] = .lst false (rw0.map .int) := (List.getElem?_eq_some_iff.mp hx).2
  have hy : (rw0.map D.int)[jj]? = some (.int (cell rows here amid)) := by rw [List.getElem?_map, e4]; rfl
  have hyl : jj < (rw0.map D.int).length := (List.getElem?_eq_some_iff.mp hy).1
  have hy' : (rw0.map D.int)[jj] = .int (cell rows here amid) := (List.getElem?_eq_some_iff.mp hy).2
  have hml : (rows.map (rowD false)).length = rows.length := List.length_map _
  unfold fb1_l_bestr1 c1_l_bestr1
  generalize ct1_l_bestr1 = f1 at hc ⊢
  generalize ce1_l_bestr1 = f2 at hc ⊢
  generalize d_l_bestr0 = f3 at hr ⊢
  generalize hC : cell rows here amid = C at *
  unfold matD at *
  generalize rows.map (rowD false) = MR at *
  generalize (left.filter fun h => decide (h ≠ amid)).map D.int = FL at *
  generalize left.map D.int = LF at *
  generalize rw0.map D.int = RI at *
  simp [fE, ice, ices, sSeq, sSet, sSub, sRet, sRetN, sIf, sX, sNil, sPass, sBrk, sCnt, sFor, eV, eIx, eOp2, eRd, eCons, eConsC, eNil, eN, eC, eMv, eAnd, eOr, eNot, eIf, eNeg, eB, eMk, eChain, eLc, eDic0, eInt, bT, bB, bAnd, bOr, bNot, bYes, tru, iSeq, itO, iRng1, iRng2, iRng3, iEnm, iZp, enumD, zipD, isLst, kidsI, R.bind, R.bindS, R.mapE, Out.mapE, lockO, unlockO, lockL, unlockL, setLk, lkAt, rdO, rdL, tmpL, mkLst, mkTup, ixO, ixD, pick, putAt, D.kids, D.setK, isOwn, g1L, g2L, gI, gI0, gAdd, gSub, gMul, gFdiv, gMod, gPow, gC, gLt, gLe, gGt, gGe, gEq_ii, gEq_ss, gEq_bb, gEq_nn, gEq_in, gEq_ni, gEq_sn, gEq_ns, gEq_ints, gNe, neB, gIs, gIsnt, gIn, gNotIn, gLen, gSum, gAll, gAny, gMaxL, gMinL, gMax2, gMin2, gAbs, gStr, gIsi, tyD, isiB, tyList, flatD, eqD, gSlice, oD, vlO, setN, gdNil, gdCons, gdTup, wipeE, forL, eCall, okS, argL, argO, slotO, liftG, mSet, mSetL, mAppend, mClear, mReverse, chkT, ddA, wrL, wr1, back, setD, outs, fz, fzs, line24, ices_ints, ices_strs, ices_bls, fzs_ints, fzs_strs, intsD_map, blsD_map, strsD_map, ices_app, fzs_app, gListOf, mPop, mPopAt, mInsert, gInX, gNotInX, inDic, keyD, isSc, gIntOf, gRevL, eFld, fldO, mFld, sFldS, sTupS, setNs, eMake, chkI, mSetD, ixl_1_0, ixm_1, ixl_2_0, ixl_2_1, ixm_2, ixl_3_0, ixl_3_1, ixl_3_2, ixm_3, ixl_4_0, ixl_4_1, ixl_4_2, ixl_4_3, ixm_4, ixl_5_0, ixl_5_1, ixl_5_2, ixl_5_3, ixl_5_4, ixm_5, ixl_6_0, ixl_6_1, ixl_6_2, ixl_6_3, ixl_6_4, ixl_6_5, ixm_6, eFz, gNe_ii, gNe_ss, gNe_bb, gNe_nn, gNe_in, gNe_ni, gMaxE, gMinE, ixN_zero, ixN_end, sof_inj, hc, hr, e1, e3, hrl, hml, hx, hx', hxl, hy, hy', hyl, hir, hii, hrow, hmin]
theorem lp_l_bestr1 (rows : List (List Int)) {m : Nat} (g : Good m rows) (here last : Int) (h0 : 0 ≤ here) (h1 : here ≤ m) (left : List Int) (hl : left.length ≤ 100) (hin : In m left) (f : Int → Int)
    (hr : ∀ amid ∈ left, d_l_bestr0 [⟨false, matD false rows⟩, ⟨false, .int amid⟩, ⟨false, .int last⟩, ⟨false, .lst true ((left.filter fun h => decide (h ≠ amid)).map .int)⟩] = .ok (.int (f amid)) [matD false rows, .int amid, .int last, .lst true ((left.filter fun h => decide (h ≠ amid)).map .int)]) : ∀ (l : List Int) (b : Int) (d5 d6 : D), (∀ x ∈ l, x ∈ left) →
    ∃ e5 e6, forL (setN 5) fb1_l_bestr1 (l.map .int) [sv (matD false rows), sv (.int here), sv (.int last), ⟨true, true, .lst true (left.map .int)⟩, sv (.int b), sv d5, sv d6, sh] = .nx [sv (matD false rows), sv (.int here), sv (.int last), ⟨true, true, .lst true (left.map .int)⟩, sv (.int (l.foldl (fun b amid => min b (cell rows here amid + f amid)) b)), sv e5, sv e6, sh]
  | [], b, d5, d6, _ => ⟨d5, d6, rfl⟩
  | x :: l, b, d5, d6, hx => by
    have st := st_l_bestr1 rows g here last h0 h1 left hl hin b x (hx x List.mem_cons_self) d6 (f x) (hr x (hx x List.mem_cons_self))
    obtain ⟨e5, e6, e⟩ := lp_l_bestr1 rows g here last h0 h1 left hl hin f hr l (min b (cell rows here x + f x)) (.int x) (.int (f x)) fun y hy => hx y (List.mem_cons_of_mem _ hy)
    refine ⟨e5, e6, ?_⟩
    rw [List.map_cons, List.foldl_cons]
    simp only [forL, setN, List.getElem?_cons_succ, List.getElem?_cons_zero, List.set_cons_succ, List.set_cons_zero, st]
    exact e
theorem bk_l_bestr1 (rows : List (List Int)) {m : Nat} (g : Good m rows) (last : Int) (hla : 0 ≤ last) (hlb : last < m) (here : Int) (h0 : 0 ≤ here) (h1 : here ≤ m) (left : List Int) (hl : left.length ≤ 1) (hin : In m left) :
    d_l_bestr1 [⟨false, matD false rows⟩, ⟨false, .int here⟩, ⟨false, .int last⟩, ⟨false, .lst true (left.map .int)⟩] = .ok (.int (bestL rows 1 here last left)) [matD false rows, .int here, .int last, .lst true (left.map .int)] := by
  obtain ⟨ii, jj, rw0, e1, e2, e3, e4, _⟩ := cell_ok g (i := here) (j := last) (by omega) h1 hla hlb
  have hir := ices_rows rows
  have hii := ices_ints left
  have hrow := ices_ints rw0
  have hrl : (rw0.map D.int).length = rw0.length := List.length_map _
  have hx : (rows.map (rowD false))[ii]? = some (.lst false (rw0.map .int)) := by rw [List.getElem?_map, e2]; rfl
  have hxl : ii < (rows.map (rowD false)).length := (List.getElem?_eq_some_iff.mp hx).1
  have hx' : (rows.map (rowD false))[ii] = .lst false (rw0.map .int) := (List.getElem?_eq_some_iff.mp hx).2
  have hy : (rw0.map D.int)[jj]? = some (.int (cell rows here last)) := by rw [List.getElem?_map, e4]; rfl
  have hyl : jj < (rw0.map D.int).length := (List.getElem?_eq_some_iff.mp hy).1
  have hy' : (rw0.map D.int)[jj] = .int (cell rows here last) := (List.getElem?_eq_some_iff.mp hy).2
  have hml : (rows.map (rowD false)).length = rows.length := List.length_map _
  have hb : bestL rows 1 here last left = left.foldl (fun b amid => min b (cell rows here amid + bestL rows 0 amid last (left.filter fun h => decide (h ≠ amid)))) (cell rows here last) := rfl
  obtain ⟨e5, e6, e⟩ := lp_l_bestr1 rows g here last h0 h1 left (by omega) hin (fun amid => bestL rows 0 amid last (left.filter fun h => decide (h ≠ amid))) (fun amid ham => by
    have hab := hin amid ham
    have hlt : (left.filter fun h => decide (h ≠ amid)).length < left.length := List.length_filter_lt_length_iff_exists.mpr ⟨amid, ham, by simp⟩
    exact bk_l_bestr0 rows g last hla hlb amid hab.1 (by omega) _ (by omega) fun x hx => hin x (List.mem_filter.mp hx).1) left (cell rows here last) .hole .hole fun x hx => hx
  rw [hb]
  generalize left.foldl (fun b amid => min b (cell rows here amid + bestL rows 0 amid last (left.filter fun h => decide (h ≠ amid)))) (cell rows here last) = BL at *
  unfold d_l_bestr1 mkFn b_l_bestr1 f1_l_bestr1
  generalize fb1_l_bestr1 = f3 at *
  generalize hC : cell rows here last = C at *
  unfold matD at *
  generalize rows.map (rowD false) = MR at *
  generalize left.map D.int = LF at *
  generalize rw0.map D.int = RI at *
  simp [fE, ice, ices, sSeq, sSet, sSub, sRet, sRetN, sIf, sX, sNil, sPass, sBrk, sCnt, sFor, eV, eIx, eOp2, eRd, eCons, eConsC, eNil, eN, eC, eMv, eAnd, eOr, eNot, eIf, eNeg, eB, eMk, eChain, eLc, eDic0, eInt, bT, bB, bAnd, bOr, bNot, bYes, tru, iSeq, itO, iRng1, iRng2, iRng3, iEnm, iZp, enumD, zipD, isLst, kidsI, R.bind, R.bindS, R.mapE, Out.mapE, lockO, unlockO, lockL, unlockL, setLk, lkAt, rdO, rdL, tmpL, mkLst, mkTup, ixO, ixD, pick, putAt, D.kids, D.setK, isOwn, g1L, g2L, gI, gI0, gAdd, gSub, gMul, gFdiv, gMod, gPow, gC, gLt, gLe, gGt, gGe, gEq_ii, gEq_ss, gEq_bb, gEq_nn, gEq_in, gEq_ni, gEq_sn, gEq_ns, gEq_ints, gNe, neB, gIs, gIsnt, gIn, gNotIn, gLen, gSum, gAll, gAny, gMaxL, gMinL, gMax2, gMin2, gAbs, gStr, gIsi, tyD, isiB, tyList, flatD, eqD, gSlice, oD, vlO, setN, gdNil, gdCons, gdTup, wipeE, lcL, eCall, okS, argL, argO, slotO, liftG, mSet, mSetL, mAppend, mClear, mReverse, chkT, ddA, wrL, wr1, back, setD, outs, fz, fzs, line24, ices_ints, ices_strs, ices_bls, fzs_ints, fzs_strs, intsD_map, blsD_map, strsD_map, ices_app, fzs_app, gListOf, mPop, mPopAt, mInsert, gInX, gNotInX, inDic, keyD, isSc, gIntOf, gRevL, eFld, fldO, mFld, sFldS, sTupS, setNs, eMake, chkI, mSetD, ixl_1_0, ixm_1, ixl_2_0, ixl_2_1, ixm_2, ixl_3_0, ixl_3_1, ixl_3_2, ixm_3, ixl_4_0, ixl_4_1, ixl_4_2, ixl_4_3, ixm_4, ixl_5_0, ixl_5_1, ixl_5_2, ixl_5_3, ixl_5_4, ixm_5, ixl_6_0, ixl_6_1, ixl_6_2, ixl_6_3, ixl_6_4, ixl_6_5, ixm_6, eFz, gNe_ii, gNe_ss, gNe_bb, gNe_nn, gNe_in, gNe_ni, gMaxE, gMinE, ixN_zero, ixN_end, sof_inj, e1, e3, hrl, hml, hx, hx', hxl, hy, hy', hyl, hir, hii, hrow, e]
theorem st_l_bestr2 (rows : List (List Int)) {m : Nat} (g : Good m rows) (here last : Int) (h0 : 0 ≤ here) (h1 : here ≤ m) (left : List Int) (hl : left.length ≤ 100) (hin : In m left) (b amid : Int) (ham : amid ∈ left) (d6 : D) (r : Int)
    (hr : d_l_bestr1 [⟨false, matD false rows⟩, ⟨false, .int amid⟩, ⟨false, .int last⟩, ⟨false, .lst true ((left.filter fun h => decide (h ≠ amid)).map .int)⟩] = .ok (.int r) [matD false rows, .int amid, .int last, .lst true ((left.filter fun h => decide (h ≠ amid)).map .int)]) :
    fb1_l_bestr2 [sv (matD false rows), sv (.int here), sv (.int last), ⟨true, true, .lst true (left.map .int)⟩, sv (.int b), sv (.int amid), sv d6, sh] = .nx [sv (matD false rows), sv (.int here), sv (.int last), ⟨true, true, .lst true (left.map .int)⟩, sv (.int (min b (cell rows here amid + r))), sv (.int amid), sv (.int r), sh] := by
  obtain ⟨ii, jj, rw0, e1, e2, e3, e4, _⟩ := cell_ok g (i := here) (j := amid) (by omega) h1 (hin _ ham).1 (hin _ ham).2
  have hir := ices_rows rows
  have hii := ices_ints left
  have hc := lcL_flt (own := [7]) (gd := setN 7) (tt := ct1_l_bestr2) (te := ce1_l_bestr2) (δ := [sv (matD false rows), sv (.int here), sv (.int last), ⟨true, true, .lst true (left.map .int)⟩, sv (.int b), sv (.int amid), sv d6, sh]) D.int D.int (fun h => decide (h ≠ amid)) left (by rw [line24]; omega) (fun h hh => by
    have gn : gNe (.int h) (.int amid) = some (.bl (decide (h ≠ amid))) := by unfold gNe; rw [gEq_ii]; by_cases q : h = amid <;> simp [neB, q]
    refine ⟨[sv (matD false rows), sv (.int here), sv (.int last), ⟨true, true, .lst true (left.map .int)⟩, sv (.int b), sv (.int amid), sv d6, sv (.int h)], [sv (matD false rows), sv (.int here), sv (.int last), ⟨true, true, .lst true (left.map .int)⟩, sv (.int b), sv (.int amid), sv d6, sv (.int h)], rfl, ?_, fun _ => ⟨[sv (matD false rows), sv (.int here), sv (.int last), ⟨true, true, .lst true (left.map .int)⟩, sv (.int b), sv (.int amid), sv d6, sv (.int h)], ?_, rfl⟩, fun _ => rfl⟩
    · unfold ct1_l_bestr2
      generalize left.map D.int = LF
      generalize matD false rows = MR
      simp [fE, ice, ices, sSeq, sSet, sSub, sRet, sRetN, sIf, sX, sNil, sPass, sBrk, sCnt, sFor, eV, eIx, eOp2, eRd, eCons, eConsC, eNil, eN, eC, eMv, eAnd, eOr, eNot, eIf, eNeg, eB, eMk, eChain, eLc, eDic0, eInt, bT, bB, bAnd, bOr, bNot, bYes, tru, iSeq, itO, iRng1, iRng2, iRng3, iEnm, iZp, enumD, zipD, isLst, kidsI, R.bind, R.bindS, R.mapE, Out.mapE, lockO, unlockO, lockL, unlockL, setLk, lkAt, rdO, rdL, tmpL, mkLst, mkTup, ixO, ixD, pick, putAt, D.kids, D.setK, isOwn, g1L, g2L, gI, gI0, gAdd, gSub, gMul, gFdiv, gMod, gPow, gC, gLt, gLe, gGt, gGe, gEq_ii, gEq_ss, gEq_bb, gEq_nn, gEq_in, gEq_ni, gEq_sn, gEq_ns, gEq_ints, neB, gIs, gIsnt, gIn, gNotIn, gLen, gSum, gAll, gAny, gMaxL, gMinL, gMax2, gMin2, gAbs, gStr, gIsi, tyD, isiB, tyList, flatD, eqD, gSlice, oD, vlO, setN, gdNil, gdCons, gdTup, wipeE, lcL, forL, eCall, okS, argL, argO, slotO, liftG, mSet, mSetL, mAppend, mClear, mReverse, chkT, ddA, wrL, wr1, back, setD, outs, L2.ixN, fz, fzs, line24, ices_ints, ices_strs, ices_bls, fzs_ints, fzs_strs, intsD_map, blsD_map, strsD_map, ices_app, fzs_app, gListOf, mPop, mPopAt, mInsert, gInX, gNotInX, inDic, keyD, isSc, gIntOf, gRevL, eFld, fldO, mFld, sFldS, sTupS, setNs, eMake, chkI, mSetD, ixl_1_0, ixm_1, ixl_2_0, ixl_2_1, ixm_2, ixl_3_0, ixl_3_1, ixl_3_2, ixm_3, ixl_4_0, ixl_4_1, ixl_4_2, ixl_4_3, ixm_4, ixl_5_0, ixl_5_1, ixl_5_2, ixl_5_3, ixl_5_4, ixm_5, ixl_6_0, ixl_6_1, ixl_6_2, ixl_6_3, ixl_6_4, ixl_6_5, ixm_6, eFz, gNe_ii, gNe_ss, gNe_bb, gNe_nn, gNe_in, gNe_ni, gMaxE, gMinE, ixN_zero, ixN_end, sof_inj, gn]
    · unfold ce1_l_bestr2
      generalize left.map D.int = LF
      generalize matD false rows = MR
      simp [fE, ice, ices, sSeq, sSet, sSub, sRet, sRetN, sIf, sX, sNil, sPass, sBrk, sCnt, sFor, eV, eIx, eOp2, eRd, eCons, eConsC, eNil, eN, eC, eMv, eAnd, eOr, eNot, eIf, eNeg, eB, eMk, eChain, eLc, eDic0, eInt, bT, bB, bAnd, bOr, bNot, bYes, tru, iSeq, itO, iRng1, iRng2, iRng3, iEnm, iZp, enumD, zipD, isLst, kidsI, R.bind, R.bindS, R.mapE, Out.mapE, lockO, unlockO, lockL, unlockL, setLk, lkAt, rdO, rdL, tmpL, mkLst, mkTup, ixO, ixD, pick, putAt, D.kids, D.setK, isOwn, g1L, g2L, gI, gI0, gAdd, gSub, gMul, gFdiv, gMod, gPow, gC, gLt, gLe, gGt, gGe, gEq_ii, gEq_ss, gEq_bb, gEq_nn, gEq_in, gEq_ni, gEq_sn, gEq_ns, gEq_ints, gNe, neB, gIs, gIsnt, gIn, gNotIn, gLen, gSum, gAll, gAny, gMaxL, gMinL, gMax2, gMin2, gAbs, gStr, gIsi, tyD, isiB, tyList, flatD, eqD, gSlice, oD, vlO, setN, gdNil, gdCons, gdTup, wipeE, lcL, forL, eCall, okS, argL, argO, slotO, liftG, mSet, mSetL, mAppend, mClear, mReverse, chkT, ddA, wrL, wr1, back, setD, outs, L2.ixN, fz, fzs, line24, ices_ints, ices_strs, ices_bls, fzs_ints, fzs_strs, intsD_map, blsD_map, strsD_map, ices_app, fzs_app, gListOf, mPop, mPopAt, mInsert, gInX, gNotInX, inDic, keyD, isSc, gIntOf, gRevL, eFld, fldO, mFld, sFldS, sTupS, setNs, eMake, chkI, mSetD, ixl_1_0, ixm_1, ixl_2_0, ixl_2_1, ixm_2, ixl_3_0, ixl_3_1, ixl_3_2, ixm_3, ixl_4_0, ixl_4_1, ixl_4_2, ixl_4_3, ixm_4, ixl_5_0, ixl_5_1, ixl_5_2, ixl_5_3, ixl_5_4, ixm_5, ixl_6_0, ixl_6_1, ixl_6_2, ixl_6_3, ixl_6_4, ixl_6_5, ixm_6, eFz, gNe_ii, gNe_ss, gNe_bb, gNe_nn, gNe_in, gNe_ni, gMaxE, gMinE, ixN_zero, ixN_end, sof_inj])
  have hmin : (if cell rows here amid + r < b then cell rows here amid + r else b) = min b (cell rows here amid + r) := by omega
  have hrow := ices_ints rw0
  have hrl : (rw0.map D.int).length = rw0.length := List.length_map _
  have hx : (rows.map (rowD false))[ii]? = some (.lst false (rw0.map .int)) := by rw [List.getElem?_map, e2]; rfl
  have hxl : ii < (rows.map (rowD false)).length := (List.getElem?_eq_some_iff.mp hx).1
  have hx' : (rows.map (rowD false))[ii] = .lst false (rw0.map .int) := (List.getElem?_eq_some_iff.mp hx).2
  have hy : (rw0.map D.int)[jj]? = some (.int (cell rows here amid)) := by rw [List.getElem?_map, e4]; rfl
  have hyl : jj < (rw0.map D.int).length := (List.getElem?_eq_some_iff.mp hy).1
  have hy' : (rw0.map D.int)[jj] = .int (cell rows here amid) := (List.getElem?_eq_some_iff.mp hy).2
  have hml : (rows.map (rowD false)).length = rows.length := List.length_map _
  unfold fb1_l_bestr2 c1_l_bestr2
  generalize ct1_l_bestr2 = f1 at hc ⊢
  generalize ce1_l_bestr2 = f2 at hc ⊢
  generalize d_l_bestr1 = f3 at hr ⊢
  generalize hC : cell rows here amid = C at *
  unfold matD at *
  generalize rows.map (rowD false) = MR at *
  generalize (left.filter fun h => decide (h ≠ amid)).map D.int = FL at *
  generalize left.map D.int = LF at *
  generalize rw0.map D.int = RI at *
  simp [fE, ice, ices, sSeq, sSet, sSub, sRet, sRetN, sIf, sX, sNil, sPass, sBrk, sCnt, sFor, eV, eIx, eOp2, eRd, eCons, eConsC, eNil, eN, eC, eMv, eAnd, eOr, eNot, eIf, eNeg, eB, eMk, eChain, eLc, eDic0, eInt, bT, bB, bAnd, bOr, bNot, bYes, tru, iSeq, itO, iRng1, iRng2, iRng3, iEnm, iZp, enumD, zipD, isLst, kidsI, R.bind, R.bindS, R.mapE, Out.mapE, lockO, unlockO, lockL, unlockL, setLk, lkAt, rdO, rdL, tmpL, mkLst, mkTup, ixO, ixD, pick, putAt, D.kids, D.setK, isOwn, g1L, g2L, gI, gI0, gAdd, gSub, gMul, gFdiv, gMod, gPow, gC, gLt, gLe, gGt, gGe, gEq_ii, gEq_ss, gEq_bb, gEq_nn, gEq_in, gEq_ni, gEq_sn, gEq_ns, gEq_ints, gNe, neB, gIs, gIsnt, gIn, gNotIn, gLen, gSum, gAll, gAny, gMaxL, gMinL, gMax2, gMin2, gAbs, gStr, gIsi, tyD, isiB, tyList, flatD, eqD, gSlice, oD, vlO, setN, gdNil, gdCons, gdTup, wipeE, forL, eCall, okS, argL, argO, slotO, liftG, mSet, mSetL, mAppend, mClear, mReverse, chkT, ddA, wrL, wr1, back, setD, outs, fz, fzs, line24, ices_ints, ices_strs, ices_bls, fzs_ints, fzs_strs, intsD_map, blsD_map, strsD_map, ices_app, fzs_app, gListOf, mPop, mPopAt, mInsert, gInX, gNotInX, inDic, keyD, isSc, gIntOf, gRevL, eFld, fldO, mFld, sFldS, sTupS, setNs, eMake, chkI, mSetD, ixl_1_0, ixm_1, ixl_2_0, ixl_2_1, ixm_2, ixl_3_0, ixl_3_1, ixl_3_2, ixm_3, ixl_4_0, ixl_4_1, ixl_4_2, ixl_4_3, ixm_4, ixl_5_0, ixl_5_1, ixl_5_2, ixl_5_3, ixl_5_4, ixm_5, ixl_6_0, ixl_6_1, ixl_6_2, ixl_6_3, ixl_6_4, ixl_6_5, ixm_6, eFz, gNe_ii, gNe_ss, gNe_bb, gNe_nn, gNe_in, gNe_ni, gMaxE, gMinE, ixN_zero, ixN_end, sof_inj, hc, hr, e1, e3, hrl, hml, hx, hx', hxl, hy, hy', hyl, hir, hii, hrow, hmin]
theorem lp_l_bestr2 (rows : List (List Int)) {m : Nat} (g : Good m rows) (here last : Int) (h0 : 0 ≤ here) (h1 : here ≤ m) (left : List Int) (hl : left.length ≤ 100) (hin : In m left) (f : Int → Int)
    (hr : ∀ amid ∈ left, d_l_bestr1 [⟨false, matD false rows⟩, ⟨false, .int amid⟩, ⟨false, .int last⟩, ⟨false, .lst true ((left.filter fun h => decide (h ≠ amid)).map .int)⟩] = .ok (.int (f amid)) [matD false rows, .int amid, .int last, .lst true ((left.filter fun h => decide (h ≠ amid)).map .int)]) : ∀ (l : List Int) (b : Int) (d5 d6 : D), (∀ x ∈ l, x ∈ left) →
    ∃ e5 e6, forL (setN 5) fb1_l_bestr2 (l.map .int) [sv (matD false rows), sv (.int here), sv (.int last), ⟨true, true, .lst true (left.map .int)⟩, sv (.int b), sv d5, sv d6, sh] = .nx [sv (matD false rows), sv (.int here), sv (.int last), ⟨true, true, .lst true (left.map .int)⟩, sv (.int (l.foldl (fun b amid => min b (cell rows here amid + f amid)) b)), sv e5, sv e6, sh]
  | [], b, d5, d6, _ => ⟨d5, d6, rfl⟩
  | x :: l, b, d5, d6, hx => by
    have st := st_l_bestr2 rows g here last h0 h1 left hl hin b x (hx x List.mem_cons_self) d6 (f x) (hr x (hx x List.mem_cons_self))
    obtain ⟨e5, e6, e⟩ := lp_l_bestr2 rows g here last h0 h1 left hl hin f hr l (min b (cell rows here x + f x)) (.int x) (.int (f x)) fun y hy => hx y (List.mem_cons_of_mem _ hy)
    refine ⟨e5, e6, ?_⟩
    rw [List.map_cons, List.foldl_cons]
    simp only [forL, setN, List.getElem?_cons_succ, List.getElem?_cons_zero, List.set_cons_succ, List.set_cons_zero, st]
    exact e
theorem bk_l_bestr2 (rows : List (List Int)) {m : Nat} (g : Good m rows) (last : Int) (hla : 0 ≤ last) (hlb : last < m) (here : Int) (h0 : 0 ≤ here) (h1 : here ≤ m) (left : List Int) (hl : left.length ≤ 2) (hin : In m left) :
    d_l_bestr2 [⟨false, matD false rows⟩, ⟨false, .int here⟩, ⟨false, .int last⟩, ⟨false, .lst true (left.map .int)⟩] = .ok (.int (bestL rows 2 here last left)) [matD false rows, .int here, .int last, .lst true (left.map .int)] := by
  obtain ⟨ii, jj, rw0, e1, e2, e3, e4, _⟩ := cell_ok g (i := here) (j := last) (by omega) h1 hla hlb
  have hir := ices_rows rows
  have hii := ices_ints left
  have hrow := ices_ints rw0
  have hrl : (rw0.map D.int).length = rw0.length := List.length_map _
  have hx : (rows.map (rowD false))[ii]? = some (.lst false (rw0.map .int)) := by rw [List.getElem?_map, e2]; rfl
  have hxl : ii < (rows.map (rowD false)).length := (List.getElem?_eq_some_iff.mp hx).1
  have hx' : (rows.map (rowD false))[ii] = .lst false (rw0.map .int) := (List.getElem?_eq_some_iff.mp hx).2
  have hy : (rw0.map D.int)[jj]? = some (.int (cell rows here last)) := by rw [List.getElem?_map, e4]; rfl
  have hyl : jj < (rw0.map D.int).length := (List.getElem?_eq_some_iff.mp hy).1
  have hy' : (rw0.map D.int)[jj] = .int (cell rows here last) := (List.getElem?_eq_some_iff.mp hy).2
  have hml : (rows.map (rowD false)).length = rows.length := List.length_map _
  have hb : bestL rows 2 here last left = left.foldl (fun b amid => min b (cell rows here amid + bestL rows 1 amid last (left.filter fun h => decide (h ≠ amid)))) (cell rows here last) := rfl
  obtain ⟨e5, e6, e⟩ := lp_l_bestr2 rows g here last h0 h1 left (by omega) hin (fun amid => bestL rows 1 amid last (left.filter fun h => decide (h ≠ amid))) (fun amid ham => by
    have hab := hin amid ham
    have hlt : (left.filter fun h => decide (h ≠ amid)).length < left.length := List.length_filter_lt_length_iff_exists.mpr ⟨amid, ham, by simp⟩
    exact bk_l_bestr1 rows g last hla hlb amid hab.1 (by omega) _ (by omega) fun x hx => hin x (List.mem_filter.mp hx).1) left (cell rows here last) .hole .hole fun x hx => hx
  rw [hb]
  generalize left.foldl (fun b amid => min b (cell rows here amid + bestL rows 1 amid last (left.filter fun h => decide (h ≠ amid)))) (cell rows here last) = BL at *
  unfold d_l_bestr2 mkFn b_l_bestr2 f1_l_bestr2
  generalize fb1_l_bestr2 = f3 at *
  generalize hC : cell rows here last = C at *
  unfold matD at *
  generalize rows.map (rowD false) = MR at *
  generalize left.map D.int = LF at *
  generalize rw0.map D.int = RI at *
  simp [fE, ice, ices, sSeq, sSet, sSub, sRet, sRetN, sIf, sX, sNil, sPass, sBrk, sCnt, sFor, eV, eIx, eOp2, eRd, eCons, eConsC, eNil, eN, eC, eMv, eAnd, eOr, eNot, eIf, eNeg, eB, eMk, eChain, eLc, eDic0, eInt, bT, bB, bAnd, bOr, bNot, bYes, tru, iSeq, itO, iRng1, iRng2, iRng3, iEnm, iZp, enumD, zipD, isLst, kidsI, R.bind, R.bindS, R.mapE, Out.mapE, lockO, unlockO, lockL, unlockL, setLk, lkAt, rdO, rdL, tmpL, mkLst, mkTup, ixO, ixD, pick, putAt, D.kids, D.setK, isOwn, g1L, g2L, gI, gI0, gAdd, gSub, gMul, gFdiv, gMod, gPow, gC, gLt, gLe, gGt, gGe, gEq_ii, gEq_ss, gEq_bb, gEq_nn, gEq_in, gEq_ni, gEq_sn, gEq_ns, gEq_ints, gNe, neB, gIs, gIsnt, gIn, gNotIn, gLen, gSum, gAll, gAny, gMaxL, gMinL, gMax2, gMin2, gAbs, gStr, gIsi, tyD, isiB, tyList, flatD, eqD, gSlice, oD, vlO, setN, gdNil, gdCons, gdTup, wipeE, lcL, eCall, okS, argL, argO, slotO, liftG, mSet, mSetL, mAppend, mClear, mReverse, chkT, ddA, wrL, wr1, back, setD, outs, fz, fzs, line24, ices_ints, ices_strs, ices_bls, fzs_ints, fzs_strs, intsD_map, blsD_map, strsD_map, ices_app, fzs_app, gListOf, mPop, mPopAt, mInsert, gInX, gNotInX, inDic, keyD, isSc, gIntOf, gRevL, eFld, fldO, mFld, sFldS, sTupS, setNs, eMake, chkI, mSetD, ixl_1_0, ixm_1, ixl_2_0, ixl_2_1, ixm_2, ixl_3_0, ixl_3_1, ixl_3_2, ixm_3, ixl_4_0, ixl_4_1, ixl_4_2, ixl_4_3, ixm_4, ixl_5_0, ixl_5_1, ixl_5_2, ixl_5_3, ixl_5_4, ixm_5, ixl_6_0, ixl_6_1, ixl_6_2, ixl_6_3, ixl_6_4, ixl_6_5, ixm_6, eFz, gNe_ii, gNe_ss, gNe_bb, gNe_nn, gNe_in, gNe_ni, gMaxE, gMinE, ixN_zero, ixN_end, sof_inj, e1, e3, hrl, hml, hx, hx', hxl, hy, hy', hyl, hir, hii, hrow, e]
theorem st_l_bestr3 (rows : List (List Int)) {m : Nat} (g : Good m rows) (here last : Int) (h0 : 0 ≤ here) (h1 : here ≤ m) (left : List Int) (hl : left.length ≤ 100) (hin : In m left) (b amid : Int) (ham : amid ∈ left) (d6 : D) (r : Int)
    (hr : d_l_bestr2 [⟨false, matD false rows⟩, ⟨false, .int amid⟩, ⟨false, .int last⟩, ⟨false, .lst true ((left.filter fun h => decide (h ≠ amid)).map .int)⟩] = .ok (.int r) [matD false rows, .int amid, .int last, .lst true ((left.filter fun h => decide (h ≠ amid)).map .int)]) :
    fb1_l_bestr3 [sv (matD false rows), sv (.int here), sv (.int last), ⟨true, true, .lst true (left.map .int)⟩, sv (.int b), sv (.int amid), sv d6, sh] = .nx [sv (matD false rows), sv (.int here), sv (.int last), ⟨true, true, .lst true (left.map .int)⟩, sv (.int (min b (cell rows here amid + r))), sv (.int amid), sv (.int r), sh] := by
  obtain ⟨ii, jj, rw0, e1, e2, e3, e4, _⟩ := cell_ok g (i := here) (j := amid) (by omega) h1 (hin _ ham).1 (hin _ ham).2
  have hir := ices_rows rows
  have hii := ices_ints left
  have hc := lcL_flt (own := [7]) (gd := setN 7) (tt := ct1_l_bestr3) (te := ce1_l_bestr3) (δ := [sv (matD false rows), sv (.int here), sv (.int last), ⟨true, true, .lst true (left.map .int)⟩, sv (.int b), sv (.int amid), sv d6, sh]) D.int D.int (fun h => decide (h ≠ amid)) left (by rw [line24]; omega) (fun h hh => by
    have gn : gNe (.int h) (.int amid) = some (.bl (decide (h ≠ amid))) := by unfold gNe; rw [gEq_ii]; by_cases q : h = amid <;> simp [neB, q]
    refine ⟨[sv (matD false rows), sv (.int here), sv (.int last), ⟨true, true, .lst true (left.map .int)⟩, sv (.int b), sv (.int amid), sv d6, sv (.int h)], [sv (matD false rows), sv (.int here), sv (.int last), ⟨true, true, .lst true (left.map .int)⟩, sv (.int b), sv (.int amid), sv d6, sv (.int h)], rfl, ?_, fun _ => ⟨[sv (matD false rows), sv (.int here), sv (.int last), ⟨true, true, .lst true (left.map .int)⟩, sv (.int b), sv (.int amid), sv d6, sv (.int h)], ?_, rfl⟩, fun _ => rfl⟩
    · unfold ct1_l_bestr3
      generalize left.map D.int = LF
      generalize matD false rows = MR
      simp [fE, ice, ices, sSeq, sSet, sSub, sRet, sRetN, sIf, sX, sNil, sPass, sBrk, sCnt, sFor, eV, eIx, eOp2, eRd, eCons, eConsC, eNil, eN, eC, eMv, eAnd, eOr, eNot, eIf, eNeg, eB, eMk, eChain, eLc, eDic0, eInt, bT, bB, bAnd, bOr, bNot, bYes, tru, iSeq, itO, iRng1, iRng2, iRng3, iEnm, iZp, enumD, zipD, isLst, kidsI, R.bind, R.bindS, R.mapE, Out.mapE, lockO, unlockO, lockL, unlockL, setLk, lkAt, rdO, rdL, tmpL, mkLst, mkTup, ixO, ixD, pick, putAt, D.kids, D.setK, isOwn, g1L, g2L, gI, gI0, gAdd, gSub, gMul, gFdiv, gMod, gPow, gC, gLt, gLe, gGt, gGe, gEq_ii, gEq_ss, gEq_bb, gEq_nn, gEq_in, gEq_ni, gEq_sn, gEq_ns, gEq_ints, neB, gIs, gIsnt, gIn, gNotIn, gLen, gSum, gAll, gAny, gMaxL, gMinL, gMax2, gMin2, gAbs, gStr, gIsi, tyD, isiB, tyList, flatD, eqD, gSlice, oD, vlO, setN, gdNil, gdCons, gdTup, wipeE, lcL, forL, eCall, okS, argL, argO, slotO, liftG, mSet, mSetL, mAppend, mClear, mReverse, chkT, ddA, wrL, wr1, back, setD, outs, L2.ixN, fz, fzs, line24, ices_ints, ices_strs, ices_bls, fzs_ints, fzs_strs, intsD_map, blsD_map, strsD_map, ices_app, fzs_app, gListOf, mPop, mPopAt, mInsert, gInX, gNotInX, inDic, keyD, isSc, gIntOf, gRevL, eFld, fldO, mFld, sFldS, sTupS, setNs, eMake, chkI, mSetD, ixl_1_0, ixm_1, ixl_2_0, ixl_2_1, ixm_2, ixl_3_0, ixl_3_1, ixl_3_2, ixm_3, ixl_4_0, ixl_4_1, ixl_4_2, ixl_4_3, ixm_4, ixl_5_0, ixl_5_1, ixl_5_2, ixl_5_3, ixl_5_4, ixm_5, ixl_6_0, ixl_6_1, ixl_6_2, ixl_6_3, ixl_6_4, ixl_6_5, ixm_6, eFz, gNe_ii, gNe_ss, gNe_bb, gNe_nn, gNe_in, gNe_ni, gMaxE, gMinE, ixN_zero, ixN_end, sof_inj, gn]
    · unfold ce1_l_bestr3
      generalize left.map D.int = LF
      generalize matD false rows = MR
      simp [fE, ice, ices, sSeq, sSet, sSub, sRet, sRetN, sIf, sX, sNil, sPass, sBrk, sCnt, sFor, eV, eIx, eOp2, eRd, eCons, eConsC, eNil, eN, eC, eMv, eAnd, eOr, eNot, eIf, eNeg, eB, eMk, eChain, eLc, eDic0, eInt, bT, bB, bAnd, bOr, bNot, bYes, tru, iSeq, itO, iRng1, iRng2, iRng3, iEnm, iZp, enumD, zipD, isLst, kidsI, R.bind, R.bindS, R.mapE, Out.mapE, lockO, unlockO, lockL, unlockL, setLk, lkAt, rdO, rdL, tmpL, mkLst, mkTup, ixO, ixD, pick, putAt, D.kids, D.setK, isOwn, g1L, g2L, gI, gI0, gAdd, gSub, gMul, gFdiv, gMod, gPow, gC, gLt, gLe, gGt, gGe, gEq_ii, gEq_ss, gEq_bb, gEq_nn, gEq_in, gEq_ni, gEq_sn, gEq_ns, gEq_ints, gNe, neB, gIs, gIsnt, gIn, gNotIn, gLen, gSum, gAll, gAny, gMaxL, gMinL, gMax2, gMin2, gAbs, gStr, gIsi, tyD, isiB, tyList, flatD, eqD, gSlice, oD, vlO, setN, gdNil, gdCons, gdTup, wipeE, lcL, forL, eCall, okS, argL, argO, slotO, liftG, mSet, mSetL, mAppend, mClear, mReverse, chkT, ddA, wrL, wr1, back, setD, outs, L2.ixN, fz, fzs, line24, ices_ints, ices_strs, ices_bls, fzs_ints, fzs_strs, intsD_map, blsD_map, strsD_map, ices_app, fzs_app, gListOf, mPop, mPopAt, mInsert, gInX, gNotInX, inDic, keyD, isSc, gIntOf, gRevL, eFld, fldO, mFld, sFldS, sTupS, setNs, eMake, chkI, mSetD, ixl_1_0, ixm_1, ixl_2_0, ixl_2_1, ixm_2, ixl_3_0, ixl_3_1, ixl_3_2, ixm_3, ixl_4_0, ixl_4_1, ixl_4_2, ixl_4_3, ixm_4, ixl_5_0, ixl_5_1, ixl_5_2, ixl_5_3, ixl_5_4, ixm_5, ixl_6_0, ixl_6_1, ixl_6_2, ixl_6_3, ixl_6_4, ixl_6_5, ixm_6, eFz, gNe_ii, gNe_ss, gNe_bb, gNe_nn, gNe_in, gNe_ni, gMaxE, gMinE, ixN_zero, ixN_end, sof_inj])
  have hmin : (if cell rows here amid + r < b then cell rows here amid + r else b) = min b (cell rows here amid + r) := by omega
  have hrow := ices_ints rw0
  have hrl : (rw0.map D.int).length = rw0.length := List.length_map _
  have hx : (rows.map (rowD false))[ii]? = some (.lst false (rw0.map .int)) := by rw [List.getElem?_map, e2]; rfl
  have hxl : ii < (rows.map (rowD false)).length := (List.getElem?_eq_some_iff.mp hx).1
  have hx' : (rows.map (rowD false))[ii] = .lst false (rw0.map .int) := (List.getElem?_eq_some_iff.mp hx).2
  have hy : (rw0.map D.int)[jj]? = some (.int (cell rows here amid)) := by rw [List.getElem?_map, e4]; rfl
  have hyl : jj < (rw0.map D.int).length := (List.getElem?_eq_some_iff.mp hy).1
  have hy' : (rw0.map D.int)[jj] = .int (cell rows here amid) := (List.getElem?_eq_some_iff.mp hy).2
  have hml : (rows.map (rowD false)).length = rows.length := List.length_map _
  unfold fb1_l_bestr3 c1_l_bestr3
  generalize ct1_l_bestr3 = f1 at hc ⊢
  generalize ce1_l_bestr3 = f2 at hc ⊢
  generalize d_l_bestr2 = f3 at hr ⊢
  generalize hC : cell rows here amid = C at *
  unfold matD at *
  generalize rows.map (rowD false) = MR at *
  generalize (left.filter fun h => decide (h ≠ amid)).map D.int = FL at *
  generalize left.map D.int = LF at *
  generalize rw0.map D.int = RI at *
  simp [fE, ice, ices, sSeq, sSet, sSub, sRet, sRetN, sIf, sX, sNil, sPass, sBrk, sCnt, sFor, eV, eIx, eOp2, eRd, eCons, eConsC, eNil, eN, eC, eMv, eAnd, eOr, eNot, eIf, eNeg, eB, eMk, eChain, eLc, eDic0, eInt, bT, bB, bAnd, bOr, bNot, bYes, tru, iSeq, itO, iRng1, iRng2, iRng3, iEnm, iZp, enumD, zipD, isLst, kidsI, R.bind, R.bindS, R.mapE, Out.mapE, lockO, unlockO, lockL, unlockL, setLk, lkAt, rdO, rdL, tmpL, mkLst, mkTup, ixO, ixD, pick, putAt, D.kids, D.setK, isOwn, g1L, g2L, gI, gI0, gAdd, gSub, gMul, gFdiv, gMod, gPow, gC, gLt, gLe, gGt, gGe, gEq_ii, gEq_ss, gEq_bb, gEq_nn, gEq_in, gEq_ni, gEq_sn, gEq_ns, gEq_ints, gNe, neB, gIs, gIsnt, gIn, gNotIn, gLen, gSum, gAll, gAny, gMaxL, gMinL, gMax2, gMin2, gAbs, gStr, gIsi, tyD, isiB, tyList, flatD, eqD, gSlice, oD, vlO, setN, gdNil, gdCons, gdTup, wipeE, forL, eCall, okS, argL, argO, slotO, liftG, mSet, mSetL, mAppend, mClear, mReverse, chkT, ddA, wrL, wr1, back, setD, outs, fz, fzs, line24, ices_ints, ices_strs, ices_bls, fzs_ints, fzs_strs, intsD_map, blsD_map, strsD_map, ices_app, fzs_app, gListOf, mPop, mPopAt, mInsert, gInX, gNotInX, inDic, keyD, isSc, gIntOf, gRevL, eFld, fldO, mFld, sFldS, sTupS, setNs, eMake, chkI, mSetD, ixl_1_0, ixm_1, ixl_2_0, ixl_2_1, ixm_2, ixl_3_0, ixl_3_1, ixl_3_2, ixm_3, ixl_4_0, ixl_4_1, ixl_4_2, ixl_4_3, ixm_4, ixl_5_0, ixl_5_1, ixl_5_2, ixl_5_3, ixl_5_4, ixm_5, ixl_6_0, ixl_6_1, ixl_6_2, ixl_6_3, ixl_6_4, ixl_6_5, ixm_6, eFz, gNe_ii, gNe_ss, gNe_bb, gNe_nn, gNe_in, gNe_ni, gMaxE, gMinE, ixN_zero, ixN_end, sof_inj, hc, hr, e1, e3, hrl, hml, hx, hx', hxl, hy, hy', hyl, hir, hii, hrow, hmin]
theorem lp_l_bestr3 (rows : List (List Int)) {m : Nat} (g : Good m rows) (here last : Int) (h0 : 0 ≤ here) (h1 : here ≤ m) (left : List Int) (hl : left.length ≤ 100) (hin : In m left) (f : Int → Int)
    (hr : ∀ amid ∈ left, d_l_bestr2 [⟨false, matD false rows⟩, ⟨false, .int amid⟩, ⟨false, .int last⟩, ⟨false, .lst true ((left.filter fun h => decide (h ≠ amid)).map .int)⟩] = .ok (.int (f amid)) [matD false rows, .int amid, .int last, .lst true ((left.filter fun h => decide (h ≠ amid)).map .int)]) : ∀ (l : List Int) (b : Int) (d5 d6 : D), (∀ x ∈ l, x ∈ left) →
    ∃ e5 e6, forL (setN 5) fb1_l_bestr3 (l.map .int) [sv (matD false rows), sv (.int here), sv (.int last), ⟨true, true, .lst true (left.map .int)⟩, sv (.int b), sv d5, sv d6, sh] = .nx [sv (matD false rows), sv (.int here), sv (.int last), ⟨true, true, .lst true (left.map .int)⟩, sv (.int (l.foldl (fun b amid => min b (cell rows here amid + f amid)) b)), sv e5, sv e6, sh]
  | [], b, d5, d6, _ => ⟨d5, d6, rfl⟩
  | x :: l, b, d5, d6, hx => by
    have st := st_l_bestr3 rows g here last h0 h1 left hl hin b x (hx x List.mem_cons_self) d6 (f x) (hr x (hx x List.mem_cons_self))
    obtain ⟨e5, e6, e⟩ := lp_l_bestr3 rows g here last h0 h1 left hl hin f hr l (min b (cell rows here x + f x)) (.int x) (.int (f x)) fun y hy => hx y (List.mem_cons_of_mem _ hy)
    refine ⟨e5, e6, ?_⟩
    rw [List.map_cons, List.foldl_cons]
    simp only [forL, setN, List.getElem?_cons_succ, List.getElem?_cons_zero, List.set_cons_succ, List.set_cons_zero, st]
    exact e
theorem bk_l_bestr3 (rows : List (List Int)) {m : Nat} (g : Good m rows) (last : Int) (hla : 0 ≤ last) (hlb : last < m) (here : Int) (h0 : 0 ≤ here) (h1 : here ≤ m) (left : List Int) (hl : left.length ≤ 3) (hin : In m left) :
    d_l_bestr3 [⟨false, matD false rows⟩, ⟨false, .int here⟩, ⟨false, .int last⟩, ⟨false, .lst true (left.map .int)⟩] = .ok (.int (bestL rows 3 here last left)) [matD false rows, .int here, .int last, .lst true (left.map .int)] := by
  obtain ⟨ii, jj, rw0, e1, e2, e3, e4, _⟩ := cell_ok g (i := here) (j := last) (by omega) h1 hla hlb
  have hir := ices_rows rows
  have hii := ices_ints left
  have hrow := ices_ints rw0
  have hrl : (rw0.map D.int).length = rw0.length := List.length_map _
  have hx : (rows.map (rowD false))[ii]? = some (.lst false (rw0.map .int)) := by rw [List.getElem?_map, e2]; rfl
  have hxl : ii < (rows.map (rowD false)).length := (List.getElem?_eq_some_iff.mp hx).1
  have hx' : (rows.map (rowD false))[ii] = .lst false (rw0.map .int) := (List.getElem?_eq_some_iff.mp hx).2
  have hy : (rw0.map D.int)[jj]? = some (.int (cell rows here last)) := by rw [List.getElem?_map, e4]; rfl
  have hyl : jj < (rw0.map D.int).length := (List.getElem?_eq_some_iff.mp hy).1
  have hy' : (rw0.map D.int)[jj] = .int (cell rows here last) := (List.getElem?_eq_some_iff.mp hy).2
  have hml : (rows.map (rowD false)).length = rows.length := List.length_map _
  have hb : bestL rows 3 here last left = left.foldl (fun b amid => min b (cell rows here amid + bestL rows 2 amid last (left.filter fun h => decide (h ≠ amid)))) (cell rows here last) := rfl
  obtain ⟨e5, e6, e⟩ := lp_l_bestr3 rows g here last h0 h1 left (by omega) hin (fun amid => bestL rows 2 amid last (left.filter fun h => decide (h ≠ amid))) (fun amid ham => by
    have hab := hin amid ham
    have hlt : (left.filter fun h => decide (h ≠ amid)).length < left.length := List.length_filter_lt_length_iff_exists.mpr ⟨amid, ham, by simp⟩
    exact bk_l_bestr2 rows g last hla hlb amid hab.1 (by omega) _ (by omega) fun x hx => hin x (List.mem_filter.mp hx).1) left (cell rows here last) .hole .hole fun x hx => hx
  rw [hb]
  generalize left.foldl (fun b amid => min b (cell rows here amid + bestL rows 2 amid last (left.filter fun h => decide (h ≠ amid)))) (cell rows here last) = BL at *
  unfold d_l_bestr3 mkFn b_l_bestr3 f1_l_bestr3
  generalize fb1_l_bestr3 = f3 at *
  generalize hC : cell rows here last = C at *
  unfold matD at *
  generalize rows.map (rowD false) = MR at *
  generalize left.map D.int = LF at *
  generalize rw0.map D.int = RI at *
  simp [fE, ice, ices, sSeq, sSet, sSub, sRet, sRetN, sIf, sX, sNil, sPass, sBrk, sCnt, sFor, eV, eIx, eOp2, eRd, eCons, eConsC, eNil, eN, eC, eMv, eAnd, eOr, eNot, eIf, eNeg, eB, eMk, eChain, eLc, eDic0, eInt, bT, bB, bAnd, bOr, bNot, bYes, tru, iSeq, itO, iRng1, iRng2, iRng3, iEnm, iZp, enumD, zipD, isLst, kidsI, R.bind, R.bindS, R.mapE, Out.mapE, lockO, unlockO, lockL, unlockL, setLk, lkAt, rdO, rdL, tmpL, mkLst, mkTup, ixO, ixD, pick, putAt, D.kids, D.setK, isOwn, g1L, g2L, gI, gI0, gAdd, gSub, gMul, gFdiv, gMod, gPow, gC, gLt, gLe, gGt, gGe, gEq_ii, gEq_ss, gEq_bb, gEq_nn, gEq_in, gEq_ni, gEq_sn, gEq_ns, gEq_ints, gNe, neB, gIs, gIsnt, gIn, gNotIn, gLen, gSum, gAll, gAny, gMaxL, gMinL, gMax2, gMin2, gAbs, gStr, gIsi, tyD, isiB, tyList, flatD, eqD, gSlice, oD, vlO, setN, gdNil, gdCons, gdTup, wipeE, lcL, eCall, okS, argL, argO, slotO, liftG, mSet, mSetL, mAppend, mClear, mReverse, chkT, ddA, wrL, wr1, back, setD, outs, fz, fzs, line24, ices_ints, ices_strs, ices_bls, fzs_ints, fzs_strs, intsD_map, blsD_map, strsD_map, ices_app, fzs_app, gListOf, mPop, mPopAt, mInsert, gInX, gNotInX, inDic, keyD, isSc, gIntOf, gRevL, eFld, fldO, mFld, sFldS, sTupS, setNs, eMake, chkI, mSetD, ixl_1_0, ixm_1, ixl_2_0, ixl_2_1, ixm_2, ixl_3_0, ixl_3_1, ixl_3_2, ixm_3, ixl_4_0, ixl_4_1, ixl_4_2, ixl_4_3, ixm_4, ixl_5_0, ixl_5_1, ixl_5_2, ixl_5_3, ixl_5_4, ixm_5, ixl_6_0, ixl_6_1, ixl_6_2, ixl_6_3, ixl_6_4, ixl_6_5, ixm_6, eFz, gNe_ii, gNe_ss, gNe_bb, gNe_nn, gNe_in, gNe_ni, gMaxE, gMinE, ixN_zero, ixN_end, sof_inj, e1, e3, hrl, hml, hx, hx', hxl, hy, hy', hyl, hir, hii, hrow, e]
theorem st_l_best (rows : List (List Int)) {m : Nat} (g : Good m rows) (here last : Int) (h0 : 0 ≤ here) (h1 : here ≤ m) (left : List Int) (hl : left.length ≤ 100) (hin : In m left) (b amid : Int) (ham : amid ∈ left) (d6 : D) (r : Int)
    (hr : d_l_bestr3 [⟨false, matD false rows⟩, ⟨false, .int amid⟩, ⟨false, .int last⟩, ⟨false, .lst true ((left.filter fun h => decide (h ≠ amid)).map .int)⟩] = .ok (.int r) [matD false rows, .int amid, .int last, .lst true ((left.filter fun h => decide (h ≠ amid)).map .int)]) :
    fb1_l_best [sv (matD false rows), sv (.int here), sv (.int last), ⟨true, true, .lst true (left.map .int)⟩, sv (.int b), sv (.int amid), sv d6, sh] = .nx [sv (matD false rows), sv (.int here), sv (.int last), ⟨true, true, .lst true (left.map .int)⟩, sv (.int (min b (cell rows here amid + r))), sv (.int amid), sv (.int r), sh] := by
  obtain ⟨ii, jj, rw0, e1, e2, e3, e4, _⟩ := cell_ok g (i := here) (j := amid) (by omega) h1 (hin _ ham).1 (hin _ ham).2
  have hir := ices_rows rows
  have hii := ices_ints left
  have hc := lcL_flt (own := [7]) (gd := setN 7) (tt := ct1_l_best) (te := ce1_l_best) (δ := [sv (matD false rows), sv (.int here), sv (.int last), ⟨true, true, .lst true (left.map .int)⟩, sv (.int b), sv (.int amid), sv d6, sh]) D.int D.int (fun h => decide (h ≠ amid)) left (by rw [line24]; omega) (fun h hh => by
    have gn : gNe (.int h) (.int amid) = some (.bl (decide (h ≠ amid))) := by unfold gNe; rw [gEq_ii]; by_cases q : h = amid <;> simp [neB, q]
    refine ⟨[sv (matD false rows), sv (.int here), sv (.int last), ⟨true, true, .lst true (left.map .int)⟩, sv (.int b), sv (.int amid), sv d6, sv (.int h)], [sv (matD false rows), sv (.int here), sv (.int last), ⟨true, true, .lst true (left.map .int)⟩, sv (.int b), sv (.int amid), sv d6, sv (.int h)], rfl, ?_, fun _ => ⟨[sv (matD false rows), sv (.int here), sv (.int last), ⟨true, true, .lst true (left.map .int)⟩, sv (.int b), sv (.int amid), sv d6, sv (.int h)], ?_, rfl⟩, fun _ => rfl⟩
    · unfold ct1_l_best
      generalize left.map D.int = LF
      generalize matD false rows = MR
      simp [fE, ice, ices, sSeq, sSet, sSub, sRet, sRetN, sIf, sX, sNil, sPass, sBrk, sCnt, sFor, eV, eIx, eOp2, eRd, eCons, eConsC, eNil, eN, eC, eMv, eAnd, eOr, eNot, eIf, eNeg, eB, eMk, eChain, eLc, eDic0, eInt, bT, bB, bAnd, bOr, bNot, bYes, tru, iSeq, itO, iRng1, iRng2, iRng3, iEnm, iZp, enumD, zipD, isLst, kidsI, R.bind, R.bindS, R.mapE, Out.mapE, lockO, unlockO, lockL, unlockL, setLk, lkAt, rdO, rdL, tmpL, mkLst, mkTup, ixO, ixD, pick, putAt, D.kids, D.setK, isOwn, g1L, g2L, gI, gI0, gAdd, gSub, gMul, gFdiv, gMod, gPow, gC, gLt, gLe, gGt, gGe, gEq_ii, gEq_ss, gEq_bb, gEq_nn, gEq_in, gEq_ni, gEq_sn, gEq_ns, gEq_ints, neB, gIs, gIsnt, gIn, gNotIn, gLen, gSum, gAll, gAny, gMaxL, gMinL, gMax2, gMin2, gAbs, gStr, gIsi, tyD, isiB, tyList, flatD, eqD, gSlice, oD, vlO, setN, gdNil, gdCons, gdTup, wipeE, lcL, forL, eCall, okS, argL, argO, slotO, liftG, mSet, mSetL, mAppend, mClear, mReverse, chkT, ddA, wrL, wr1, back, setD, outs, L2.ixN, fz, fzs, line24, ices_ints, ices_strs, ices_bls, fzs_ints, fzs_strs, intsD_map, blsD_map, strsD_map, ices_app, fzs_app, gListOf, mPop, mPopAt, mInsert, gInX, gNotInX, inDic, keyD, isSc, gIntOf, gRevL, eFld, fldO, mFld, sFldS, sTupS, setNs, eMake, chkI, mSetD, ixl_1_0, ixm_1, ixl_2_0, ixl_2_1, ixm_2, ixl_3_0, ixl_3_1, ixl_3_2, ixm_3, ixl_4_0, ixl_4_1, ixl_4_2, ixl_4_3, ixm_4, ixl_5_0, ixl_5_1, ixl_5_2, ixl_5_3, ixl_5_4, ixm_5, ixl_6_0, ixl_6_1, ixl_6_2, ixl_6_3, ixl_6_4, ixl_6_5, ixm_6, eFz, gNe_ii, gNe_ss, gNe_bb, gNe_nn, gNe_in, gNe_ni, gMaxE, gMinE, ixN_zero, ixN_end, sof_inj, gn]
    · unfold ce1_l_best
      generalize left.map D.int = LF
      generalize matD false rows = MR
      simp [fE, ice, ices, sSeq, sSet, sSub, sRet, sRetN, sIf, sX, sNil, sPass, sBrk, sCnt, sFor, eV, eIx, eOp2, eRd, eCons, eConsC, eNil, eN, eC, eMv, eAnd, eOr, eNot, eIf, eNeg, eB, eMk, eChain, eLc, eDic0, eInt, bT, bB, bAnd, bOr, bNot, bYes, tru, iSeq, itO, iRng1, iRng2, iRng3, iEnm, iZp, enumD, zipD, isLst, kidsI, R.bind, R.bindS, R.mapE, Out.mapE, lockO, unlockO, lockL, unlockL, setLk, lkAt, rdO, rdL, tmpL, mkLst, mkTup, ixO, ixD, pick, putAt, D.kids, D.setK, isOwn, g1L, g2L, gI, gI0, gAdd, gSub, gMul, gFdiv, gMod, gPow, gC, gLt, gLe, gGt, gGe, gEq_ii, gEq_ss, gEq_bb, gEq_nn, gEq_in, gEq_ni, gEq_sn, gEq_ns, gEq_ints, gNe, neB, gIs, gIsnt, gIn, gNotIn, gLen, gSum, gAll, gAny, gMaxL, gMinL, gMax2, gMin2, gAbs, gStr, gIsi, tyD, isiB, tyList, flatD, eqD, gSlice, oD, vlO, setN, gdNil, gdCons, gdTup, wipeE, lcL, forL, eCall, okS, argL, argO, slotO, liftG, mSet, mSetL, mAppend, mClear, mReverse, chkT, ddA, wrL, wr1, back, setD, outs, L2.ixN, fz, fzs, line24, ices_ints, ices_strs, ices_bls, fzs_ints, fzs_strs, intsD_map, blsD_map, strsD_map, ices_app, fzs_app, gListOf, mPop, mPopAt, mInsert, gInX, gNotInX, inDic, keyD, isSc, gIntOf, gRevL, eFld, fldO, mFld, sFldS, sTupS, setNs, eMake, chkI, mSetD, ixl_1_0, ixm_1, ixl_2_0, ixl_2_1, ixm_2, ixl_3_0, ixl_3_1, ixl_3_2, ixm_3, ixl_4_0, ixl_4_1, ixl_4_2, ixl_4_3, ixm_4, ixl_5_0, ixl_5_1, ixl_5_2, ixl_5_3, ixl_5_4, ixm_5, ixl_6_0, ixl_6_1, ixl_6_2, ixl_6_3, ixl_6_4, ixl_6_5, ixm_6, eFz, gNe_ii, gNe_ss, gNe_bb, gNe_nn, gNe_in, gNe_ni, gMaxE, gMinE, ixN_zero, ixN_end, sof_inj])
  have hmin : (if cell rows here amid + r < b then cell rows here amid + r else b) = min b (cell rows here amid + r) := by omega
  have hrow := ices_ints rw0
  have hrl : (rw0.map D.int).length = rw0.length := List.length_map _
  have hx : (rows.map (rowD false))[ii]? = some (.lst false (rw0.map .int)) := by rw [List.getElem?_map, e2]; rfl
  have hxl : ii < (rows.map (rowD false)).length := (List.getElem?_eq_some_iff.mp hx).1
  have hx' : (rows.map (rowD false))[ii] = .lst false (rw0.map .int) := (List.getElem?_eq_some_iff.mp hx).2
  have hy : (rw0.map D.int)[jj]? = some (.int (cell rows here amid)) := by rw [List.getElem?_map, e4]; rfl
  have hyl : jj < (rw0.map D.int).length := (List.getElem?_eq_some_iff.mp hy).1
  have hy' : (rw0.map D.int)[jj] = .int (cell rows here amid) := (List.getElem?_eq_some_iff.mp hy).2
  have hml : (rows.map (rowD false)).length = rows.length := List.length_map _
  unfold fb1_l_best c1_l_best
  generalize ct1_l_best = f1 at hc ⊢
  generalize ce1_l_best = f2 at hc ⊢
  generalize d_l_bestr3 = f3 at hr ⊢
  generalize hC : cell rows here amid = C at *
  unfold matD at *
  generalize rows.map (rowD false) = MR at *
  generalize (left.filter fun h => decide (h ≠ amid)).map D.int = FL at *
  generalize left.map D.int = LF at *
  generalize rw0.map D.int = RI at *
  simp [fE, ice, ices, sSeq, sSet, sSub, sRet, sRetN, sIf, sX, sNil, sPass, sBrk, sCnt, sFor, eV, eIx, eOp2, eRd, eCons, eConsC, eNil, eN, eC, eMv, eAnd, eOr, eNot, eIf, eNeg, eB, eMk, eChain, eLc, eDic0, eInt, bT, bB, bAnd, bOr, bNot, bYes, tru, iSeq, itO, iRng1, iRng2, iRng3, iEnm, iZp, enumD, zipD, isLst, kidsI, R.bind, R.bindS, R.mapE, Out.mapE, lockO, unlockO, lockL, unlockL, setLk, lkAt, rdO, rdL, tmpL, mkLst, mkTup, ixO, ixD, pick, putAt, D.kids, D.setK, isOwn, g1L, g2L, gI, gI0, gAdd, gSub, gMul, gFdiv, gMod, gPow, gC, gLt, gLe, gGt, gGe, gEq_ii, gEq_ss, gEq_bb, gEq_nn, gEq_in, gEq_ni, gEq_sn, gEq_ns, gEq_ints, gNe, neB, gIs, gIsnt, gIn, gNotIn, gLen, gSum, gAll, gAny, gMaxL, gMinL, gMax2, gMin2, gAbs, gStr, gIsi, tyD, isiB, tyList, flatD, eqD, gSlice, oD, vlO, setN, gdNil, gdCons, gdTup, wipeE, forL, eCall, okS, argL, argO, slotO, liftG, mSet, mSetL, mAppend, mClear, mReverse, chkT, ddA, wrL, wr1, back, setD, outs, fz, fzs, line24, ices_ints, ices_strs, ices_bls, fzs_ints, fzs_strs, intsD_map, blsD_map, strsD_map, ices_app, fzs_app, gListOf, mPop, mPopAt, mInsert, gInX, gNotInX, inDic, keyD, isSc, gIntOf, gRevL, eFld, fldO, mFld, sFldS, sTupS, setNs, eMake, chkI, mSetD, ixl_1_0, ixm_1, ixl_2_0, ixl_2_1, ixm_2, ixl_3_0, ixl_3_1, ixl_3_2, ixm_3, ixl_4_0, ixl_4_1, ixl_4_2, ixl_4_3, ixm_4, ixl_5_0, ixl_5_1, ixl_5_2, ixl_5_3, ixl_5_4, ixm_5, ixl_6_0, ixl_6_1, ixl_6_2, ixl_6_3, ixl_6_4, ixl_6_5, ixm_6, eFz, gNe_ii, gNe_ss, gNe_bb, gNe_nn, gNe_in, gNe_ni, gMaxE, gMinE, ixN_zero, ixN_end, sof_inj, hc, hr, e1, e3, hrl, hml, hx, hx', hxl, hy, hy', hyl, hir, hii, hrow, hmin]
theorem lp_l_best (rows : List (List Int)) {m : Nat} (g : Good m rows) (here last : Int) (h0 : 0 ≤ here) (h1 : here ≤ m) (left : List Int) (hl : left.length ≤ 100) (hin : In m left) (f : Int → Int)
    (hr : ∀ amid ∈ left, d_l_bestr3 [⟨false, matD false rows⟩, ⟨false, .int amid⟩, ⟨false, .int last⟩, ⟨false, .lst true ((left.filter fun h => decide (h ≠ amid)).map .int)⟩] = .ok (.int (f amid)) [matD false rows, .int amid, .int last, .lst true ((left.filter fun h => decide (h ≠ amid)).map .int)]) : ∀ (l : List Int) (b : Int) (d5 d6 : D), (∀ x ∈ l, x ∈ left) →
    ∃ e5 e6, forL (setN 5) fb1_l_best (l.map .int) [sv (matD false rows), sv (.int here), sv (.int last), ⟨true, true, .lst true (left.map .int)⟩, sv (.int b), sv d5, sv d6, sh] = .nx [sv (matD false rows), sv (.int here), sv (.int last), ⟨true, true, .lst true (left.map .int)⟩, sv (.int (l.foldl (fun b amid => min b (cell rows here amid + f amid)) b)), sv e5, sv e6, sh]
  | [], b, d5, d6, _ => ⟨d5, d6, rfl⟩
  | x :: l, b, d5, d6, hx => by
    have st := st_l_best rows g here last h0 h1 left hl hin b x (hx x List.mem_cons_self) d6 (f x) (hr x (hx x List.mem_cons_self))
    obtain ⟨e5, e6, e⟩ := lp_l_best rows g here last h0 h1 left hl hin f hr l (min b (cell rows here x + f x)) (.int x) (.int (f x)) fun y hy => hx y (List.mem_cons_of_mem _ hy)
    refine ⟨e5, e6, ?_⟩
    rw [List.map_cons, List.foldl_cons]
    simp only [forL, setN, List.getElem?_cons_succ, List.getElem?_cons_zero, List.set_cons_succ, List.set_cons_zero, st]
    exact e
theorem bk_l_best (rows : List (List Int)) {m : Nat} (g : Good m rows) (last : Int) (hla : 0 ≤ last) (hlb : last < m) (here : Int) (h0 : 0 ≤ here) (h1 : here ≤ m) (left : List Int) (hl : left.length ≤ 4) (hin : In m left) :
    d_l_best [⟨false, matD false rows⟩, ⟨false, .int here⟩, ⟨false, .int last⟩, ⟨false, .lst true (left.map .int)⟩] = .ok (.int (bestL rows 4 here last left)) [matD false rows, .int here, .int last, .lst true (left.map .int)] := by
  obtain ⟨ii, jj, rw0, e1, e2, e3, e4, _⟩ := cell_ok g (i := here) (j := last) (by omega) h1 hla hlb
  have hir := ices_rows rows
  have hii := ices_ints left
  have hrow := ices_ints rw0
  have hrl : (rw0.map D.int).length = rw0.length := List.length_map _
  have hx : (rows.map (rowD false))[ii]? = some (.lst false (rw0.map .int)) := by rw [List.getElem?_map, e2]; rfl
  have hxl : ii < (rows.map (rowD false)).length := (List.getElem?_eq_some_iff.mp hx).1
  have hx' : (rows.map (rowD false))[ii] = .lst false (rw0.map .int) := (List.getElem?_eq_some_iff.mp hx).2
  have hy : (rw0.map D.int)[jj]? = some (.int (cell rows here last)) := by rw [List.getElem?_map, e4]; rfl
  have hyl : jj < (rw0.map D.int).length := (List.getElem?_eq_some_iff.mp hy).1
  have hy' : (rw0.map D.int)[jj] = .int (cell rows here last) := (List.getElem?_eq_some_iff.mp hy).2
  have hml : (rows.map (rowD false)).length = rows.length := List.length_map _
  have hb : bestL rows 4 here last left = left.foldl (fun b amid => min b (cell rows here amid + bestL rows 3 amid last (left.filter fun h => decide (h ≠ amid)))) (cell rows here last) := rfl
  obtain ⟨e5, e6, e⟩ := lp_l_best rows g here last h0 h1 left (by omega) hin (fun amid => bestL rows 3 amid last (left.filter fun h => decide (h ≠ amid))) (fun amid ham => by
    have hab := hin amid ham
    have hlt : (left.filter fun h => decide (h ≠ amid)).length < left.length := List.length_filter_lt_length_iff_exists.mpr ⟨amid, ham, by simp⟩
    exact bk_l_bestr3 rows g last hla hlb amid hab.1 (by omega) _ (by omega) fun x hx => hin x (List.mem_filter.mp hx).1) left (cell rows here last) .hole .hole fun x hx => hx
  rw [hb]
  generalize left.foldl (fun b amid => min b (cell rows here amid + bestL rows 3 amid last (left.filter fun h => decide (h ≠ amid)))) (cell rows here last) = BL at *
  unfold d_l_best mkFn b_l_best f1_l_best
  generalize fb1_l_best = f3 at *
  generalize hC : cell rows here last = C at *
  unfold matD at *
  generalize rows.map (rowD false) = MR at *
  generalize left.map D.int = LF at *
  generalize rw0.map D.int = RI at *
  simp [fE, ice, ices, sSeq, sSet, sSub, sRet, sRetN, sIf, sX, sNil, sPass, sBrk, sCnt, sFor, eV, eIx, eOp2, eRd, eCons, eConsC, eNil, eN, eC, eMv, eAnd, eOr, eNot, eIf, eNeg, eB, eMk, eChain, eLc, eDic0, eInt, bT, bB, bAnd, bOr, bNot, bYes, tru, iSeq, itO, iRng1, iRng2, iRng3, iEnm, iZp, enumD, zipD, isLst, kidsI, R.bind, R.bindS, R.mapE, Out.mapE, lockO, unlockO, lockL, unlockL, setLk, lkAt, rdO, rdL, tmpL, mkLst, mkTup, ixO, ixD, pick, putAt, D.kids, D.setK, isOwn, g1L, g2L, gI, gI0, gAdd, gSub, gMul, gFdiv, gMod, gPow, gC, gLt, gLe, gGt, gGe, gEq_ii, gEq_ss, gEq_bb, gEq_nn, gEq_in, gEq_ni, gEq_sn, gEq_ns, gEq_ints, gNe, neB, gIs, gIsnt, gIn, gNotIn, gLen, gSum, gAll, gAny, gMaxL, gMinL, gMax2, gMin2, gAbs, gStr, gIsi, tyD, isiB, tyList, flatD, eqD, gSlice, oD, vlO, setN, gdNil, gdCons, gdTup, wipeE, lcL, eCall, okS, argL, argO, slotO, liftG, mSet, mSetL, mAppend, mClear, mReverse, chkT, ddA, wrL, wr1, back, setD, outs, fz, fzs, line24, ices_ints, ices_strs, ices_bls, fzs_ints, fzs_strs, intsD_map, blsD_map, strsD_map, ices_app, fzs_app, gListOf, mPop, mPopAt, mInsert, gInX, gNotInX, inDic, keyD, isSc, gIntOf, gRevL, eFld, fldO, mFld, sFldS, sTupS, setNs, eMake, chkI, mSetD, ixl_1_0, ixm_1, ixl_2_0, ixl_2_1, ixm_2, ixl_3_0, ixl_3_1, ixl_3_2, ixm_3, ixl_4_0, ixl_4_1, ixl_4_2, ixl_4_3, ixm_4, ixl_5_0, ixl_5_1, ixl_5_2, ixl_5_3, ixl_5_4, ixm_5, ixl_6_0, ixl_6_1, ixl_6_2, ixl_6_3, ixl_6_4, ixl_6_5, ixm_6, eFz, gNe_ii, gNe_ss, gNe_bb, gNe_nn, gNe_in, gNe_ni, gMaxE, gMinE, ixN_zero, ixN_end, sof_inj, e1, e3, hrl, hml, hx, hx', hxl, hy, hy', hyl, hir, hii, hrow, e]
end Rw

set_option maxRecDepth 100000
set_option maxHeartbeats 400000
set_option linter.all false
set_option exponentiation.threshold 3000
namespace Rw
open DL
theorem best_S {m : Nat} {rows S : List (List Int)} {W : List (List (List Int))} (g : Good m rows) (L : Least m rows S W) (hm : m ≤ 4) {i j : Nat} (hi : i ≤ m) (hj : j < m) : bestL rows 4 i j ((List.range m).map fun k => ((k : Nat) : Int)) = cell S i j := by
  have hin : In m ((List.range m).map fun k => ((k : Nat) : Int)) := fun x hx => by
    obtain ⟨k, hk, rfl⟩ := List.mem_map.mp hx
    have := List.mem_range.mp hk
    omega
  have c := cell_nat L.fw.ds hi hj
  obtain ⟨q, h1, h2⟩ := bestL_way rows 4 i j ((List.range m).map fun k => ((k : Nat) : Int))
  have lo := L.le hi hj (q := q) fun x hx => hin x (h1 x hx)
  obtain ⟨q2, e1, e2, e3⟩ := L.fw.att i j hi hj
  have up := bestL_le g.nng (j : Int) 4 i ((List.range m).map fun k => ((k : Nat) : Int)) (by simp; exact hm) hin q2 (fun x hx => by
    have := e2 x hx
    exact List.mem_map.mpr ⟨x.toNat, List.mem_range.mpr (by omega), by omega⟩)
  rw [e1] at e3
  rw [c]
  omega
theorem lwhole (l : Bool) (x : Int) : d_l_whole [⟨l, .int x⟩] = .ok (.bl true) [.int x] := by
  unfold d_l_whole mkFn b_l_whole
  simp [fE, ice, ices, sSeq, sSet, sSub, sRet, sRetN, sIf, sX, sNil, sPass, sBrk, sCnt, sFor, eV, eIx, eOp2, eRd, eCons, eConsC, eNil, eN, eC, eMv, eAnd, eOr, eNot, eIf, eNeg, eB, eMk, eChain, eLc, eDic0, eInt, bT, bB, bAnd, bOr, bNot, bYes, tru, iSeq, itO, iRng1, iRng2, iRng3, iEnm, iZp, enumD, zipD, isLst, kidsI, R.bind, R.bindS, R.mapE, Out.mapE, lockO, unlockO, lockL, unlockL, setLk, lkAt, rdO, rdL, tmpL, mkLst, mkTup, ixO, ixD, pick, putAt, D.kids, D.setK, isOwn, g1L, g2L, gI, gI0, gAdd, gSub, gMul, gFdiv, gMod, gPow, gC, gLt, gLe, gGt, gGe, gEq_ii, gEq_ss, gEq_bb, gEq_nn, gEq_in, gEq_ni, gEq_sn, gEq_ns, gEq_ints, gNe, neB, gIs, gIsnt, gIn, gNotIn, gLen, gSum, gAll, gAny, gMaxL, gMinL, gMax2, gMin2, gAbs, gStr, gIsi, tyD, isiB, tyList, flatD, eqD, gSlice, oD, vlO, setN, gdNil, gdCons, gdTup, wipeE, lcL, forL, eCall, okS, argL, argO, slotO, liftG, mSet, mSetL, mAppend, mClear, mReverse, chkT, ddA, wrL, wr1, back, setD, outs, L2.ixN, fz, fzs, line24, ices_ints, ices_strs, ices_bls, fzs_ints, fzs_strs, intsD_map, blsD_map, strsD_map, ices_app, fzs_app, gListOf, mPop, mPopAt, mInsert, gInX, gNotInX, inDic, keyD, isSc, gIntOf, gRevL, eFld, fldO, mFld, sFldS, sTupS, setNs, eMake, chkI, mSetD, ixl_1_0, ixm_1, ixl_2_0, ixl_2_1, ixm_2, ixl_3_0, ixl_3_1, ixl_3_2, ixm_3, ixl_4_0, ixl_4_1, ixl_4_2, ixl_4_3, ixm_4, ixl_5_0, ixl_5_1, ixl_5_2, ixl_5_3, ixl_5_4, ixm_5, ixl_6_0, ixl_6_1, ixl_6_2, ixl_6_3, ixl_6_4, ixl_6_5, ixm_6, eFz, gNe_ii, gNe_ss, gNe_bb, gNe_nn, gNe_in, gNe_ni, gMaxE, gMinE, ixN_zero, ixN_end, sof_inj, gIsi, tyD, isiB, tyList]
theorem right1 (l : Bool) {m : Nat} {rows S : List (List Int)} {W : List (List (List Int))} (g : Good m rows) (L : Least m rows S W) (hm : m ≤ 4) (first last : Nat) (hf : first ≤ m) (hl : last < m) (d5 : D) :
    ∃ e5, fb1_l_right [⟨true, l, matD true S⟩, sv (matD false rows), sv (.int m), sv (.int first), sv (.int last), sv d5] = .nx [⟨true, l, matD true S⟩, sv (matD false rows), sv (.int m), sv (.int first), sv (.int last), sv e5] := by
  have gS := least_good L g
  have hin : In m ((List.range m).map fun k => ((k : Nat) : Int)) := fun x hx => by
    obtain ⟨k, hk, rfl⟩ := List.mem_map.mp hx
    have := List.mem_range.mp hk
    omega
  have b := bk_l_best rows g (last : Int) (by omega) (by omega) (first : Int) (by omega) (by omega) ((List.range m).map fun k => ((k : Nat) : Int)) (by simp; exact hm) hin
  rw [best_S g L hm hf hl, List.map_map] at b
  rw [show (D.int ∘ fun k : Nat => (k : Int)) = fun k : Nat => D.int (k : Nat) from rfl] at b
  obtain ⟨ii, jj, rw0, e1, e2, e3, e4, _⟩ := cell_ok gS (i := (first : Int)) (j := (last : Int)) (by omega) (by omega) (by omega) (by omega)
  have hw := lwhole false (cell S first last)
  refine ⟨.int (cell S first last), ?_⟩
  have hir := ices_rows rows
  have hno : ices (S.map (rowD true)) = false := by
    cases hS : S with
    | nil => have := gS.1; rw [hS] at this; simp at this
    | cons r rs => simp [ices, ice, rowD]
  have hrow := ices_ints rw0
  have hrl : (rw0.map D.int).length = rw0.length := List.length_map _
  have hx : (S.map (rowD true))[ii]? = some (.lst true (rw0.map .int)) := by rw [List.getElem?_map, e2]; rfl
  have hxl : ii < (S.map (rowD true)).length := (List.getElem?_eq_some_iff.mp hx).1
  have hx' : (S.map (rowD true))[ii] = .lst true (rw0.map .int) := (List.getElem?_eq_some_iff.mp hx).2
  have hy : (rw0.map D.int)[jj]? = some (.int (cell S first last)) := by rw [List.getElem?_map, e4]; rfl
  have hyl : jj < (rw0.map D.int).length := (List.getElem?_eq_some_iff.mp hy).1
  have hy' : (rw0.map D.int)[jj] = .int (cell S first last) := (List.getElem?_eq_some_iff.mp hy).2
  have hml : (S.map (rowD true)).length = S.length := List.length_map _
  unfold fb1_l_right
  generalize d_l_best = f1 at b ⊢
  generalize d_l_whole = f2 at hw ⊢
  generalize hC : cell S first last = C at *
  unfold matD at *
  generalize rows.map (rowD false) = MR at *
  generalize S.map (rowD true) = MS at *
  generalize rw0.map D.int = RI at *
  generalize hRG : (List.range m).map (fun k => D.int (k : Nat)) = RG at *
  simp [fE, ice, ices, sSeq, sSet, sSub, sRet, sRetN, sIf, sX, sNil, sPass, sBrk, sCnt, sFor, eV, eIx, eOp2, eRd, eCons, eConsC, eNil, eN, eC, eMv, eAnd, eOr, eNot, eIf, eNeg, eB, eMk, eChain, eLc, eDic0, eInt, bT, bB, bAnd, bOr, bNot, bYes, tru, iSeq, itO, iRng1, iRng2, iRng3, iEnm, iZp, enumD, zipD, isLst, kidsI, R.bind, R.bindS, R.mapE, Out.mapE, lockO, unlockO, lockL, unlockL, setLk, lkAt, rdO, rdL, tmpL, mkLst, mkTup, ixO, ixD, pick, putAt, D.kids, D.setK, isOwn, g1L, g2L, gI, gI0, gAdd, gSub, gMul, gFdiv, gMod, gPow, gC, gLt, gLe, gGt, gGe, gEq_ii, gEq_ss, gEq_bb, gEq_nn, gEq_in, gEq_ni, gEq_sn, gEq_ns, gEq_ints, gNe, neB, gIs, gIsnt, gIn, gNotIn, gLen, gSum, gAll, gAny, gMaxL, gMinL, gMax2, gMin2, gAbs, gStr, gIsi, tyD, isiB, tyList, flatD, eqD, gSlice, oD, vlO, setN, gdNil, gdCons, gdTup, wipeE, lcL, forL, eCall, okS, argL, argO, slotO, liftG, mSet, mSetL, mAppend, mClear, mReverse, chkT, ddA, wrL, wr1, back, setD, outs, fz, fzs, line24, ices_ints, ices_strs, ices_bls, fzs_ints, fzs_strs, intsD_map, blsD_map, strsD_map, ices_app, fzs_app, gListOf, mPop, mPopAt, mInsert, gInX, gNotInX, inDic, keyD, isSc, gIntOf, gRevL, eFld, fldO, mFld, sFldS, sTupS, setNs, eMake, chkI, mSetD, ixl_1_0, ixm_1, ixl_2_0, ixl_2_1, ixm_2, ixl_3_0, ixl_3_1, ixl_3_2, ixm_3, ixl_4_0, ixl_4_1, ixl_4_2, ixl_4_3, ixm_4, ixl_5_0, ixl_5_1, ixl_5_2, ixl_5_3, ixl_5_4, ixm_5, ixl_6_0, ixl_6_1, ixl_6_2, ixl_6_3, ixl_6_4, ixl_6_5, ixm_6, eFz, gNe_ii, gNe_ss, gNe_bb, gNe_nn, gNe_in, gNe_ni, gMaxE, gMinE, ixN_zero, ixN_end, sof_inj, eLRg, lrgK, b, hw, hRG, e1, e3, hrl, hml, hx, hx', hxl, hy, hy', hyl, hir, hrow, hno, show (m : Int) ≤ 16777216 by omega, show m ≤ 16777216 by omega]
theorem right2 (l : Bool) {m : Nat} {rows S : List (List Int)} {W : List (List (List Int))} (g : Good m rows) (L : Least m rows S W) (hm : m ≤ 4) (first : Nat) (hf : first ≤ m) (d4 d5 : D) :
    ∃ e4 e5, fb2_l_right [⟨true, l, matD true S⟩, sv (matD false rows), sv (.int m), sv (.int first), sv d4, sv d5] = .nx [⟨true, l, matD true S⟩, sv (matD false rows), sv (.int m), sv (.int first), sv e4, sv e5] := by
  have gS := least_good L g
  obtain ⟨δ', e, e4, e5, rfl⟩ := forL_inv (gd := setN 4) (bf := fb1_l_right) (fun _ δ => ∃ e4 e5, δ = [⟨true, l, matD true S⟩, sv (matD false rows), sv (.int m), sv (.int first), sv e4, sv e5]) ((List.range m).map fun k => .int (k : Nat)) 0 [⟨true, l, matD true S⟩, sv (matD false rows), sv (.int m), sv (.int first), sv d4, sv d5] ⟨d4, d5, rfl⟩ (fun i d δ hd ⟨e4, e5, e⟩ => by
    subst e
    simp only [List.getElem?_map, Option.map_eq_some_iff] at hd
    obtain ⟨j, hj, rfl⟩ := hd
    have hj := List.mem_range.mp (List.mem_of_getElem? hj)
    obtain ⟨e5', st⟩ := right1 l g L hm first j hf hj e5
    exact ⟨_, _, rfl, .inl st, _, _, rfl⟩)
  refine ⟨e4, e5, ?_⟩
  have hno : ices (S.map (rowD true)) = false := by
    cases hS : S with
    | nil => have := gS.1; rw [hS] at this; simp at this
    | cons r rs => simp [ices, ice, rowD]
  have hfl : first < S.length := by rw [gS.1]; omega
  have hr := gS.2 S[first] (List.getElem_mem hfl)
  have ex : L2.ixN S.length (first : Int) = some first := ixN_nat hfl
  have hx : (S.map (rowD true))[first]? = some (.lst true (S[first].map .int)) := by rw [List.getElem?_map, List.getElem?_eq_getElem hfl]; rfl
  have hxl : first < (S.map (rowD true)).length := (List.getElem?_eq_some_iff.mp hx).1
  have hx' : (S.map (rowD true))[first] = .lst true (S[first].map .int) := (List.getElem?_eq_some_iff.mp hx).2
  have hml : (S.map (rowD true)).length = S.length := List.length_map _
  have hrl : (S[first].map D.int).length = m := by rw [List.length_map]; exact hr.1
  have hrow := ices_ints S[first]
  have hir := ices_rows rows
  unfold fb2_l_right f1_l_right
  generalize fb1_l_right = f1 at e ⊢
  unfold matD at *
  generalize S[first].map D.int = RI at *
  generalize rows.map (rowD false) = MR at *
  generalize S.map (rowD true) = MS at *
  generalize hRG : (List.range m).map (fun k => D.int (k : Nat)) = RG at *
  simp [fE, ice, ices, sSeq, sSet, sSub, sRet, sRetN, sIf, sX, sNil, sPass, sBrk, sCnt, sFor, eV, eIx, eOp2, eRd, eCons, eConsC, eNil, eN, eC, eMv, eAnd, eOr, eNot, eIf, eNeg, eB, eMk, eChain, eLc, eDic0, eInt, bT, bB, bAnd, bOr, bNot, bYes, tru, iSeq, itO, iRng1, iRng2, iRng3, iEnm, iZp, enumD, zipD, isLst, kidsI, R.bind, R.bindS, R.mapE, Out.mapE, lockO, unlockO, lockL, unlockL, setLk, lkAt, rdO, rdL, tmpL, mkLst, mkTup, ixO, ixD, pick, putAt, D.kids, D.setK, isOwn, g1L, g2L, gI, gI0, gAdd, gSub, gMul, gFdiv, gMod, gPow, gC, gLt, gLe, gGt, gGe, gEq_ii, gEq_ss, gEq_bb, gEq_nn, gEq_in, gEq_ni, gEq_sn, gEq_ns, gEq_ints, gNe, neB, gIs, gIsnt, gIn, gNotIn, gLen, gSum, gAll, gAny, gMaxL, gMinL, gMax2, gMin2, gAbs, gStr, gIsi, tyD, isiB, tyList, flatD, eqD, gSlice, oD, vlO, setN, gdNil, gdCons, gdTup, wipeE, lcL, eCall, okS, argL, argO, slotO, liftG, mSet, mSetL, mAppend, mClear, mReverse, chkT, ddA, wrL, wr1, back, setD, outs, fz, fzs, line24, ices_ints, ices_strs, ices_bls, fzs_ints, fzs_strs, intsD_map, blsD_map, strsD_map, ices_app, fzs_app, gListOf, mPop, mPopAt, mInsert, gInX, gNotInX, inDic, keyD, isSc, gIntOf, gRevL, eFld, fldO, mFld, sFldS, sTupS, setNs, eMake, chkI, mSetD, ixl_1_0, ixm_1, ixl_2_0, ixl_2_1, ixm_2, ixl_3_0, ixl_3_1, ixl_3_2, ixm_3, ixl_4_0, ixl_4_1, ixl_4_2, ixl_4_3, ixm_4, ixl_5_0, ixl_5_1, ixl_5_2, ixl_5_3, ixl_5_4, ixm_5, ixl_6_0, ixl_6_1, ixl_6_2, ixl_6_3, ixl_6_4, ixl_6_5, ixm_6, eFz, gNe_ii, gNe_ss, gNe_bb, gNe_nn, gNe_in, gNe_ni, gMaxE, gMinE, ixN_zero, ixN_end, sof_inj, e, hRG, ex, hml, hrl, hx, hx', hxl, hno, hrow, hir, gIsi, tyD, isiB, tyList, show InR (m : Int) from inR_of (by omega) (by omega), show m ≤ 16777216 by omega]
theorem right_ok {m : Nat} {rows S : List (List Int)} {W : List (List (List Int))} (g : Good m rows) (L : Least m rows S W) (hm : m ≤ 4) :
    d_l_right [⟨false, matD true S⟩, ⟨false, matD false rows⟩] = .ok (.bl true) [matD true S, matD false rows] := by
  have gS := least_good L g
  obtain ⟨δ', e, e3, e4, e5, rfl⟩ := forL_inv (gd := setN 3) (bf := fb2_l_right) (fun _ δ => ∃ e3 e4 e5, δ = [⟨true, false, matD true S⟩, sv (matD false rows), sv (.int m), sv e3, sv e4, sv e5]) ((List.range (m + 1)).map fun k => .int (k : Nat)) 0 [⟨true, false, matD true S⟩, sv (matD false rows), sv (.int m), sh, sh, sh] ⟨_, _, _, rfl⟩ (fun i d δ hd ⟨e3, e4, e5, e⟩ => by
    subst e
    simp only [List.getElem?_map, Option.map_eq_some_iff] at hd
    obtain ⟨j, hj, rfl⟩ := hd
    have hj := List.mem_range.mp (List.mem_of_getElem? hj)
    obtain ⟨e4', e5', st⟩ := right2 false g L hm j (by omega) e4 e5
    exact ⟨_, _, rfl, .inl st, _, _, _, rfl⟩)
  have hno : ices (S.map (rowD true)) = false := by
    cases hS : S with
    | nil => have := gS.1; rw [hS] at this; simp at this
    | cons r rs => simp [ices, ice, rowD]
  have hml : (S.map (rowD true)).length = m + 1 := by rw [List.length_map]; exact gS.1
  have hrl : (rows.map (rowD false)).length = m + 1 := by rw [List.length_map]; exact g.1
  have hir := ices_rows rows
  have e1 : ((m + 1 : Nat) : Int) - 1 = m := by omega
  have en : ((m : Int) + 1).toNat = m + 1 := by omega
  unfold d_l_right mkFn b_l_right f2_l_right
  generalize fb2_l_right = f1 at e ⊢
  unfold matD at *
  generalize rows.map (rowD false) = MR at *
  generalize S.map (rowD true) = MS at *
  generalize hRG : (List.range (m + 1)).map (fun k => D.int (k : Nat)) = RG at *
  simp [fE, ice, ices, sSeq, sSet, sSub, sRet, sRetN, sIf, sX, sNil, sPass, sBrk, sCnt, sFor, eV, eIx, eOp2, eRd, eCons, eConsC, eNil, eN, eC, eMv, eAnd, eOr, eNot, eIf, eNeg, eB, eMk, eChain, eLc, eDic0, eInt, bT, bB, bAnd, bOr, bNot, bYes, tru, iSeq, itO, iRng1, iRng2, iRng3, iEnm, iZp, enumD, zipD, isLst, kidsI, R.bind, R.bindS, R.mapE, Out.mapE, lockO, unlockO, lockL, unlockL, setLk, lkAt, rdO, rdL, tmpL, mkLst, mkTup, ixO, ixD, pick, putAt, D.kids, D.setK, isOwn, g1L, g2L, gI, gI0, gAdd, gSub, gMul, gFdiv, gMod, gPow, gC, gLt, gLe, gGt, gGe, gEq_ii, gEq_ss, gEq_bb, gEq_nn, gEq_in, gEq_ni, gEq_sn, gEq_ns, gEq_ints, gNe, neB, gIs, gIsnt, gIn, gNotIn, gLen, gSum, gAll, gAny, gMaxL, gMinL, gMax2, gMin2, gAbs, gStr, gIsi, tyD, isiB, tyList, flatD, eqD, gSlice, oD, vlO, setN, gdNil, gdCons, gdTup, wipeE, lcL, eCall, okS, argL, argO, slotO, liftG, mSet, mSetL, mAppend, mClear, mReverse, chkT, ddA, wrL, wr1, back, setD, outs, L2.ixN, fz, fzs, line24, ices_ints, ices_strs, ices_bls, fzs_ints, fzs_strs, intsD_map, blsD_map, strsD_map, ices_app, fzs_app, gListOf, mPop, mPopAt, mInsert, gInX, gNotInX, inDic, keyD, isSc, gIntOf, gRevL, eFld, fldO, mFld, sFldS, sTupS, setNs, eMake, chkI, mSetD, ixl_1_0, ixm_1, ixl_2_0, ixl_2_1, ixm_2, ixl_3_0, ixl_3_1, ixl_3_2, ixm_3, ixl_4_0, ixl_4_1, ixl_4_2, ixl_4_3, ixm_4, ixl_5_0, ixl_5_1, ixl_5_2, ixl_5_3, ixl_5_4, ixm_5, ixl_6_0, ixl_6_1, ixl_6_2, ixl_6_3, ixl_6_4, ixl_6_5, ixm_6, eFz, gNe_ii, gNe_ss, gNe_bb, gNe_nn, gNe_in, gNe_ni, gMaxE, gMinE, ixN_zero, ixN_end, sof_inj, e, hRG, e1, en, hml, hrl, hno, hir, gIsi, tyD, isiB, tyList, show InR ((m : Int) + 1) from inR_of (by omega) (by omega), show m + 1 ≤ 16777216 by omega]
end Rw

set_option maxRecDepth 100000
set_option maxHeartbeats 400000
set_option linter.all false
set_option exponentiation.threshold 3000
namespace Rw
open DL
def Pd (d : D) : Prop := ice d = true ∨ sol d = true
theorem sols_ints : ∀ ns : List Int, sols (ns.map D.int) = true
  | [] => rfl
  | n :: ns => by simp [sols, sol, sols_ints ns]
theorem onlyLs_ints : ∀ ns : List Int, onlyLs (ns.map D.int) = true
  | [] => rfl
  | n :: ns => by simp [onlyLs, onlyL, ice, onlyLs_ints ns]
theorem sols_rows : ∀ rows : List (List Int), sols (rows.map (rowD true)) = true
  | [] => rfl
  | r :: rows => by simp [sols, rowD, sol, sols_ints, sols_rows rows]
theorem onlyLs_rows : ∀ rows : List (List Int), onlyLs (rows.map (rowD true)) = true
  | [] => rfl
  | r :: rows => by simp [onlyLs, rowD, onlyL, onlyLs_ints, onlyLs_rows rows]
theorem sol_mat (rows : List (List Int)) : sol (matD true rows) = true := by simp [matD, sol, sols_rows]
theorem eLend_ok {i : Nat} {f : EF} {δ : Env} {r : D} {s : Sl} (e : δ[i]? = some s) (hl : onlyL s.d = true) (hf : f (δ.set i ⟨s.io, s.lk, fz s.d⟩) = .ok (.tmp r) (δ.set i ⟨s.io, s.lk, fz s.d⟩)) (hs : sol r = true) (hk : ∀ s ∈ δ, ice s.d = true ∨ sol s.d = true) : eLend i f δ = .ok (.tmp r) δ := by
  have e1 : lendE i δ = δ.set i ⟨s.io, s.lk, fz s.d⟩ := by unfold lendE; rw [e]
  have e2 : lendOk i δ = true := by unfold lendOk; rw [e]; exact hl
  have e3 : backE i δ (δ.set i ⟨s.io, s.lk, fz s.d⟩) = δ := by
    unfold backE
    rw [e]
    simp only [List.set_set]
    exact List.ext_getElem? fun j => by
      by_cases q : i = j
      · subst q; rw [List.getElem?_set_self (List.getElem?_eq_some_iff.mp e).1, e]
      · rw [List.getElem?_set_ne q]
  have e4 : keepE i δ (δ.set i ⟨s.io, s.lk, fz s.d⟩) := fun j s1 s2 h1 h2 h3 => by
    rw [List.getElem?_set_ne (Ne.symm h1), h2] at h3
    cases h3
    rcases hk s1 (List.mem_of_getElem? h2) with z | z
    · exact .inl ⟨rfl, z⟩
    · exact .inr z
  unfold eLend
  rw [e1, hf]
  simp only [e2, e4, hs, and_self, if_true, e3]
theorem lendL (s0 s1 s2 : Sl) (d3 d4 d6 d7 : D) {m : Nat} {rows S : List (List Int)} {W : List (List (List Int))} (hm : 1 ≤ m) (g : Good m rows) (e : ∀ b, d_sums_and_ways [⟨false, matD b rows⟩] = .ok (.tup [matD true S, wayD W]) [matD false rows]) (h0 : Pd s0.d) (h1 : Pd s1.d) (h2 : Pd s2.d) (h3 : Pd d3) (h4 : Pd d4) (h6 : Pd d6) (h7 : Pd d7) :
    eLend 5 (eCall d_least_rinses [] (eCons (eN 5) eNil)) [s0, s1, s2, sv d3, sv d4, sv (matD true rows), sv d6, sv d7, sh] = .ok (.tmp (matD true S)) [s0, s1, s2, sv d3, sv d4, sv (matD true rows), sv d6, sv d7, sh] := by
  have hl1 := least_of false hm g e
  have hir := ices_rows rows
  have hfz := fzs_rows true rows
  refine eLend_ok (s := sv (matD true rows)) rfl ?_ ?_ (sol_mat S) ?_
  · simp [matD, onlyL, onlyLs_rows]
  · show eCall d_least_rinses [] (eCons (eN 5) eNil) [s0, s1, s2, sv d3, sv d4, sv (fz (matD true rows)), sv d6, sv d7, sh] = .ok (.tmp (matD true S)) [s0, s1, s2, sv d3, sv d4, sv (fz (matD true rows)), sv d6, sv d7, sh]
    have hf : fz (matD true rows) = matD false rows := by simp [matD, fz, hfz]
    rw [hf]
    generalize d_least_rinses = f at hl1 ⊢
    unfold matD at *
    generalize rows.map (rowD false) = MR at *
    simp [fE, ice, ices, sSeq, sSet, sSub, sRet, sRetN, sIf, sX, sNil, sPass, sBrk, sCnt, sFor, eV, eIx, eOp2, eRd, eCons, eConsC, eNil, eN, eC, eMv, eAnd, eOr, eNot, eIf, eNeg, eB, eMk, eChain, eLc, eDic0, eInt, bT, bB, bAnd, bOr, bNot, bYes, tru, iSeq, itO, iRng1, iRng2, iRng3, iEnm, iZp, enumD, zipD, isLst, kidsI, R.bind, R.bindS, R.mapE, Out.mapE, lockO, unlockO, lockL, unlockL, setLk, lkAt, rdO, rdL, tmpL, mkLst, mkTup, ixO, ixD, pick, putAt, D.kids, D.setK, isOwn, g1L, g2L, gI, gI0, gAdd, gSub, gMul, gFdiv, gMod, gPow, gC, gLt, gLe, gGt, gGe, gEq_ii, gEq_ss, gEq_bb, gEq_nn, gEq_in, gEq_ni, gEq_sn, gEq_ns, gEq_ints, gNe, neB, gIs, gIsnt, gIn, gNotIn, gLen, gSum, gAll, gAny, gMaxL, gMinL, gMax2, gMin2, gAbs, gStr, gIsi, tyD, isiB, tyList, flatD, eqD, gSlice, oD, vlO, setN, gdNil, gdCons, gdTup, wipeE, lcL, forL, eCall, okS, argL, argO, slotO, liftG, mSet, mSetL, mAppend, mClear, mReverse, chkT, ddA, wrL, wr1, back, setD, outs, L2.ixN, fz, fzs, line24, ices_ints, ices_strs, ices_bls, fzs_ints, fzs_strs, intsD_map, blsD_map, strsD_map, ices_app, fzs_app, gListOf, mPop, mPopAt, mInsert, gInX, gNotInX, inDic, keyD, isSc, gIntOf, gRevL, eFld, fldO, mFld, sFldS, sTupS, setNs, eMake, chkI, mSetD, ixl_1_0, ixm_1, ixl_2_0, ixl_2_1, ixm_2, ixl_3_0, ixl_3_1, ixl_3_2, ixm_3, ixl_4_0, ixl_4_1, ixl_4_2, ixl_4_3, ixm_4, ixl_5_0, ixl_5_1, ixl_5_2, ixl_5_3, ixl_5_4, ixm_5, ixl_6_0, ixl_6_1, ixl_6_2, ixl_6_3, ixl_6_4, ixl_6_5, ixm_6, eFz, gNe_ii, gNe_ss, gNe_bb, gNe_nn, gNe_in, gNe_ni, gMaxE, gMinE, ixN_zero, ixN_end, sof_inj, hl1, hir]
  · intro s hs
    simp only [List.mem_cons, List.not_mem_nil, or_false] at hs
    rcases hs with rfl | rfl | rfl | rfl | rfl | rfl | rfl | rfl | rfl
    · exact h0
    · exact h1
    · exact h2
    · exact h3
    · exact h4
    · exact .inr (sol_mat rows)
    · exact h6
    · exact h7
    · exact .inr rfl
theorem cmp_mat (rows : List (List Int)) {m : Nat} (g : Good m rows) (hm : m ≤ 4) : (rows.map (rowD false)).map (fun d => match d with | .lst _ xs => D.lst true xs | _ => .non) = rows.map (rowD true) := by rw [List.map_map]; rfl
theorem hcopy (s0 s1 s2 s3 s5 s6 s7 : Sl) {m : Nat} {rows : List (List Int)} (g : Good m rows) (hm : m ≤ 4) : c2_law [s0, s1, s2, s3, sv (matD true rows), s5, s6, s7, sh] = .ok (.tmp (matD true rows)) [s0, s1, s2, s3, sv (matD false rows), s5, s6, s7, sh] := by
  have hit : ices (rows.map (rowD true)) = false := by
    cases hrr : rows with
    | nil => have := g.1; rw [hrr] at this; simp at this
    | cons r rs => simp [ices, ice, rowD]
  have hir := ices_rows rows
  have hfr := fzs_rows true rows
  have hff := fzs_rows false rows
  have hc := fun s4 => lcL_emb (own := [8]) (gd := setN 8) (te := ce2_law) (δ := [s0, s1, s2, s3, s4, s5, s6, s7, sh])
    (rowD false) (rowD true) rows (by rw [line24, g.1]; omega) (fun r hr => by
      refine ⟨[s0, s1, s2, s3, s4, s5, s6, s7, sv (rowD false r)], [s0, s1, s2, s3, s4, s5, s6, s7, sv (rowD false r)], rfl, ?_, rfl⟩
      have hl : r.length ≤ 16777216 := by have := (g.2 r hr).1; omega
      unfold ce2_law rowD
      simp [fE, ice, ices, sSeq, sSet, sSub, sRet, sRetN, sIf, sX, sNil, sPass, sBrk, sCnt, sFor, eV, eIx, eOp2, eRd, eCons, eConsC, eNil, eN, eC, eMv, eAnd, eOr, eNot, eIf, eNeg, eB, eMk, eChain, eLc, eDic0, eInt, bT, bB, bAnd, bOr, bNot, bYes, tru, iSeq, itO, iRng1, iRng2, iRng3, iEnm, iZp, enumD, zipD, isLst, kidsI, R.bind, R.bindS, R.mapE, Out.mapE, lockO, unlockO, lockL, unlockL, setLk, lkAt, rdO, rdL, tmpL, mkLst, mkTup, ixO, ixD, pick, putAt, D.kids, D.setK, isOwn, g1L, g2L, gI, gI0, gAdd, gSub, gMul, gFdiv, gMod, gPow, gC, gLt, gLe, gGt, gGe, gEq_ii, gEq_ss, gEq_bb, gEq_nn, gEq_in, gEq_ni, gEq_sn, gEq_ns, gEq_ints, gNe, neB, gIs, gIsnt, gIn, gNotIn, gLen, gSum, gAll, gAny, gMaxL, gMinL, gMax2, gMin2, gAbs, gStr, gIsi, tyD, isiB, tyList, flatD, eqD, gSlice, oD, vlO, setN, gdNil, gdCons, gdTup, wipeE, lcL, forL, eCall, okS, argL, argO, slotO, liftG, mSet, mSetL, mAppend, mClear, mReverse, chkT, ddA, wrL, wr1, back, setD, outs, L2.ixN, fz, fzs, line24, ices_ints, ices_strs, ices_bls, fzs_ints, fzs_strs, intsD_map, blsD_map, strsD_map, ices_app, fzs_app, gListOf, mPop, mPopAt, mInsert, gInX, gNotInX, inDic, keyD, isSc, gIntOf, gRevL, eFld, fldO, mFld, sFldS, sTupS, setNs, eMake, chkI, mSetD, ixl_1_0, ixm_1, ixl_2_0, ixl_2_1, ixm_2, ixl_3_0, ixl_3_1, ixl_3_2, ixm_3, ixl_4_0, ixl_4_1, ixl_4_2, ixl_4_3, ixm_4, ixl_5_0, ixl_5_1, ixl_5_2, ixl_5_3, ixl_5_4, ixm_5, ixl_6_0, ixl_6_1, ixl_6_2, ixl_6_3, ixl_6_4, ixl_6_5, ixm_6, eFz, gNe_ii, gNe_ss, gNe_bb, gNe_nn, gNe_in, gNe_ni, gMaxE, gMinE, ixN_zero, ixN_end, sof_inj, hl])
  unfold c2_law
  generalize ce2_law = f at hc ⊢
  unfold matD at *
  generalize rows.map (rowD true) = MT at *
  generalize rows.map (rowD false) = MF at *
  simp [fE, ice, ices, sSeq, sSet, sSub, sRet, sRetN, sIf, sX, sNil, sPass, sBrk, sCnt, sFor, eV, eIx, eOp2, eRd, eCons, eConsC, eNil, eN, eC, eMv, eAnd, eOr, eNot, eIf, eNeg, eB, eMk, eChain, eLc, eDic0, eInt, bT, bB, bAnd, bOr, bNot, bYes, tru, iSeq, itO, iRng1, iRng2, iRng3, iEnm, iZp, enumD, zipD, isLst, kidsI, R.bind, R.bindS, R.mapE, Out.mapE, lockO, unlockO, lockL, unlockL, setLk, lkAt, rdO, rdL, tmpL, mkLst, mkTup, ixO, ixD, pick, putAt, D.kids, D.setK, isOwn, g1L, g2L, gI, gI0, gAdd, gSub, gMul, gFdiv, gMod, gPow, gC, gLt, gLe, gGt, gGe, gEq_ii, gEq_ss, gEq_bb, gEq_nn, gEq_in, gEq_ni, gEq_sn, gEq_ns, gEq_ints, gNe, neB, gIs, gIsnt, gIn, gNotIn, gLen, gSum, gAll, gAny, gMaxL, gMinL, gMax2, gMin2, gAbs, gStr, gIsi, tyD, isiB, tyList, flatD, eqD, gSlice, oD, vlO, setN, gdNil, gdCons, gdTup, wipeE, forL, eCall, okS, argL, argO, slotO, liftG, mSet, mSetL, mAppend, mClear, mReverse, chkT, ddA, wrL, wr1, back, setD, outs, L2.ixN, fz, fzs, line24, ices_ints, ices_strs, ices_bls, fzs_ints, fzs_strs, intsD_map, blsD_map, strsD_map, ices_app, fzs_app, gListOf, mPop, mPopAt, mInsert, gInX, gNotInX, inDic, keyD, isSc, gIntOf, gRevL, eFld, fldO, mFld, sFldS, sTupS, setNs, eMake, chkI, mSetD, ixl_1_0, ixm_1, ixl_2_0, ixl_2_1, ixm_2, ixl_3_0, ixl_3_1, ixl_3_2, ixm_3, ixl_4_0, ixl_4_1, ixl_4_2, ixl_4_3, ixm_4, ixl_5_0, ixl_5_1, ixl_5_2, ixl_5_3, ixl_5_4, ixm_5, ixl_6_0, ixl_6_1, ixl_6_2, ixl_6_3, ixl_6_4, ixl_6_5, ixm_6, eFz, gNe_ii, gNe_ss, gNe_bb, gNe_nn, gNe_in, gNe_ni, gMaxE, gMinE, ixN_zero, ixN_end, sof_inj, hc, hit, hir, hfr, hff]
theorem fcopy (s0 s1 s2 : Sl) (d3 d4 d5 d7 : D) {m : Nat} {rows : List (List Int)} (g : Good m rows) (hm : m ≤ 4) (h0 : Pd s0.d) (h1 : Pd s1.d) (h2 : Pd s2.d) (h3 : Pd d3) (h4 : Pd d4) (h5 : Pd d5) (h7 : Pd d7) :
    eLend 6 c1_law [s0, s1, s2, sv d3, sv d4, sv d5, sv (matD true rows), sv d7, sh] = .ok (.tmp (matD true rows)) [s0, s1, s2, sv d3, sv d4, sv d5, sv (matD true rows), sv d7, sh] := by
  have hir := ices_rows rows
  have hfr := fzs_rows true rows
  have hff := fzs_rows false rows
  have hc := fun s6 => lcL_emb (own := [8]) (gd := setN 8) (te := ce1_law) (δ := [s0, s1, s2, sv d3, sv d4, sv d5, s6, sv d7, sh])
    (rowD false) (rowD true) rows (by rw [line24, g.1]; omega) (fun r hr => by
      refine ⟨[s0, s1, s2, sv d3, sv d4, sv d5, s6, sv d7, sv (rowD false r)], [s0, s1, s2, sv d3, sv d4, sv d5, s6, sv d7, sv (rowD false r)], rfl, ?_, rfl⟩
      have hl : r.length ≤ 16777216 := by have := (g.2 r hr).1; omega
      unfold ce1_law rowD
      simp [fE, ice, ices, sSeq, sSet, sSub, sRet, sRetN, sIf, sX, sNil, sPass, sBrk, sCnt, sFor, eV, eIx, eOp2, eRd, eCons, eConsC, eNil, eN, eC, eMv, eAnd, eOr, eNot, eIf, eNeg, eB, eMk, eChain, eLc, eDic0, eInt, bT, bB, bAnd, bOr, bNot, bYes, tru, iSeq, itO, iRng1, iRng2, iRng3, iEnm, iZp, enumD, zipD, isLst, kidsI, R.bind, R.bindS, R.mapE, Out.mapE, lockO, unlockO, lockL, unlockL, setLk, lkAt, rdO, rdL, tmpL, mkLst, mkTup, ixO, ixD, pick, putAt, D.kids, D.setK, isOwn, g1L, g2L, gI, gI0, gAdd, gSub, gMul, gFdiv, gMod, gPow, gC, gLt, gLe, gGt, gGe, gEq_ii, gEq_ss, gEq_bb, gEq_nn, gEq_in, gEq_ni, gEq_sn, gEq_ns, gEq_ints, gNe, neB, gIs, gIsnt, gIn, gNotIn, gLen, gSum, gAll, gAny, gMaxL, gMinL, gMax2, gMin2, gAbs, gStr, gIsi, tyD, isiB, tyList, flatD, eqD, gSlice, oD, vlO, setN, gdNil, gdCons, gdTup, wipeE, lcL, forL, eCall, okS, argL, argO, slotO, liftG, mSet, mSetL, mAppend, mClear, mReverse, chkT, ddA, wrL, wr1, back, setD, outs, L2.ixN, fz, fzs, line24, ices_ints, ices_strs, ices_bls, fzs_ints, fzs_strs, intsD_map, blsD_map, strsD_map, ices_app, fzs_app, gListOf, mPop, mPopAt, mInsert, gInX, gNotInX, inDic, keyD, isSc, gIntOf, gRevL, eFld, fldO, mFld, sFldS, sTupS, setNs, eMake, chkI, mSetD, ixl_1_0, ixm_1, ixl_2_0, ixl_2_1, ixm_2, ixl_3_0, ixl_3_1, ixl_3_2, ixm_3, ixl_4_0, ixl_4_1, ixl_4_2, ixl_4_3, ixm_4, ixl_5_0, ixl_5_1, ixl_5_2, ixl_5_3, ixl_5_4, ixm_5, ixl_6_0, ixl_6_1, ixl_6_2, ixl_6_3, ixl_6_4, ixl_6_5, ixm_6, eFz, gNe_ii, gNe_ss, gNe_bb, gNe_nn, gNe_in, gNe_ni, gMaxE, gMinE, ixN_zero, ixN_end, sof_inj, hl])
  refine eLend_ok (s := sv (matD true rows)) rfl ?_ ?_ (sol_mat rows) ?_
  · simp [matD, onlyL, onlyLs_rows]
  · show c1_law [s0, s1, s2, sv d3, sv d4, sv d5, sv (fz (matD true rows)), sv d7, sh] = .ok (.tmp (matD true rows)) [s0, s1, s2, sv d3, sv d4, sv d5, sv (fz (matD true rows)), sv d7, sh]
    have hf : fz (matD true rows) = matD false rows := by simp [matD, fz, hfr]
    rw [hf]
    unfold c1_law
    generalize ce1_law = f at hc ⊢
    unfold matD at *
    generalize rows.map (rowD true) = MT at *
    generalize rows.map (rowD false) = MF at *
    simp [fE, ice, ices, sSeq, sSet, sSub, sRet, sRetN, sIf, sX, sNil, sPass, sBrk, sCnt, sFor, eV, eIx, eOp2, eRd, eCons, eConsC, eNil, eN, eC, eMv, eAnd, eOr, eNot, eIf, eNeg, eB, eMk, eChain, eLc, eDic0, eInt, bT, bB, bAnd, bOr, bNot, bYes, tru, iSeq, itO, iRng1, iRng2, iRng3, iEnm, iZp, enumD, zipD, isLst, kidsI, R.bind, R.bindS, R.mapE, Out.mapE, lockO, unlockO, lockL, unlockL, setLk, lkAt, rdO, rdL, tmpL, mkLst, mkTup, ixO, ixD, pick, putAt, D.kids, D.setK, isOwn, g1L, g2L, gI, gI0, gAdd, gSub, gMul, gFdiv, gMod, gPow, gC, gLt, gLe, gGt, gGe, gEq_ii, gEq_ss, gEq_bb, gEq_nn, gEq_in, gEq_ni, gEq_sn, gEq_ns, gEq_ints, gNe, neB, gIs, gIsnt, gIn, gNotIn, gLen, gSum, gAll, gAny, gMaxL, gMinL, gMax2, gMin2, gAbs, gStr, gIsi, tyD, isiB, tyList, flatD, eqD, gSlice, oD, vlO, setN, gdNil, gdCons, gdTup, wipeE, forL, eCall, okS, argL, argO, slotO, liftG, mSet, mSetL, mAppend, mClear, mReverse, chkT, ddA, wrL, wr1, back, setD, outs, L2.ixN, fz, fzs, line24, ices_ints, ices_strs, ices_bls, fzs_ints, fzs_strs, intsD_map, blsD_map, strsD_map, ices_app, fzs_app, gListOf, mPop, mPopAt, mInsert, gInX, gNotInX, inDic, keyD, isSc, gIntOf, gRevL, eFld, fldO, mFld, sFldS, sTupS, setNs, eMake, chkI, mSetD, ixl_1_0, ixm_1, ixl_2_0, ixl_2_1, ixm_2, ixl_3_0, ixl_3_1, ixl_3_2, ixm_3, ixl_4_0, ixl_4_1, ixl_4_2, ixl_4_3, ixm_4, ixl_5_0, ixl_5_1, ixl_5_2, ixl_5_3, ixl_5_4, ixm_5, ixl_6_0, ixl_6_1, ixl_6_2, ixl_6_3, ixl_6_4, ixl_6_5, ixm_6, eFz, gNe_ii, gNe_ss, gNe_bb, gNe_nn, gNe_in, gNe_ni, gMaxE, gMinE, ixN_zero, ixN_end, sof_inj, hc, hir, hff]
  · intro s hs
    simp only [List.mem_cons, List.not_mem_nil, or_false] at hs
    rcases hs with rfl | rfl | rfl | rfl | rfl | rfl | rfl | rfl | rfl
    · exact h0
    · exact h1
    · exact h2
    · exact h3
    · exact h4
    · exact h5
    · exact .inr (sol_mat rows)
    · exact h7
    · exact .inr rfl
end Rw

set_option maxRecDepth 100000
set_option maxHeartbeats 400000
set_option linter.all false
set_option exponentiation.threshold 3000
namespace Rw
open DL
theorem erase_mapB {α β : Type} (f : α → β) (xs : List α) (a : Nat) : (xs.eraseIdx a).map f = (xs.map f).eraseIdx a := by
  rw [List.eraseIdx_eq_take_drop_succ, List.eraseIdx_eq_take_drop_succ, List.map_append, List.map_take, List.map_drop]
theorem lawA (s0 : Sl) (k c : Int) (d3 d4 d5 d6 d7 : D) (h0 : Pd s0.d) (h6 : Pd d6) (h7 : Pd d7) (RR : SF) : ∃ (m : Nat) (rows S : List (List Int)) (W : List (List (List Int))) (n : Int), 1 ≤ m ∧ m ≤ 4 ∧ Good m rows ∧ (∀ b, d_sums_and_ways [⟨false, matD b rows⟩] = .ok (.tup [matD true S, wayD W]) [matD false rows]) ∧ Least m rows S W ∧
    (sSeq (sSet 3 (eCall d_l_stream [] (eCons (eMk mkLst (eCons (eV (eN 2)) (eCons (eV (eN 1)) eNil))) (eCons (eC (.int 0)) eNil))))
    (sSeq (sSet 4 (eCall d_l_rinses [] (eCons (eN 3) (eCons (eOp2 gAdd (eC (.int 1)) (eCall d_l_take [] (eCons (eN 3) (eCons (eC (.int 4)) eNil)))) eNil))))
    (sSeq (sSet 5 c2_law)
    (sSeq (sSet 6 le2_law)
    (sSeq (sIf (bOr (bB (eOp2 gNe (eN 5) (eN 4))) (bNot (bT (eCall d_l_right [] (eCons (eN 6) (eCons (eN 4) eNil)))))) (sRet (eC (.bl false))) sNil)
    (sSeq (sSet 7 (eLend 6 c1_law)) RR)))))) [s0, sv (.int k), sv (.int c), sv d3, sv d4, sv d5, sv d6, sv d7, sh] = RR [s0, sv (.int k), sv (.int c), sv (.lst true [.int n]), sv (matD false rows), sv (matD true rows), sv (matD true S), sv (matD true S), sh] := by
  obtain ⟨n, n0, st0⟩ := stream_ok false false true [c, k] 0 (by decide) (by decide) (by simp)
  have t4 := take_ok n 4 (by decide) (by decide)
  have b0 := Int.emod_nonneg n (show (4 : Int) ≠ 0 by decide)
  have b1 := Int.emod_lt_of_pos n (show (0 : Int) < 4 by decide)
  obtain ⟨m, hm⟩ : ∃ m : Nat, (1 + n % 4 : Int) = m := ⟨(1 + n % 4).toNat, by omega⟩
  have hm1 : 1 ≤ m := by omega
  have hm4 : m ≤ 4 := by omega
  obtain ⟨rows, n1, hr, g⟩ := rinses_ok false (n / 4) m (by omega)
  obtain ⟨S, W, e, L, _⟩ := sums_det hm1 hm4 g
  have gS := least_good L g
  refine ⟨m, rows, S, W, n1, hm1, hm4, g, e, L, ?_⟩
  have pr : Pd (matD false rows) := .inl (ice_mat rows)
  have ps : Pd (D.lst true [.int n1]) := .inr rfl
  have pi : ∀ z : Int, Pd (.int z) := fun z => .inl rfl
  have c2 := fun s5 s6 s7 => hcopy s0 (sv (.int k)) (sv (.int c)) (sv (.lst true [.int n1])) s5 s6 s7 g hm4
  have l2 := lendL s0 (sv (.int k)) (sv (.int c)) (.lst true [.int n1]) (matD false rows) d6 d7 hm1 g e h0 (pi _) (pi _) ps pr h6 h7
  have c1 := fcopy s0 (sv (.int k)) (sv (.int c)) (.lst true [.int n1]) (matD false rows) (matD true rows) d7 gS hm4 h0 (pi _) (pi _) ps pr (.inr (sol_mat rows)) h7
  have rt := right_ok g L hm4
  have gq : gNe (matD true rows) (matD false rows) = some (.bl false) := by unfold gNe; rw [gEq_mat]; simp [neB]
  have hir := ices_rows rows
  have hno : ices (rows.map (rowD true)) = false := by
    cases hS : rows with
    | nil => have := g.1; rw [hS] at this; simp at this
    | cons r rs => simp [ices, ice, rowD]
  simp only [List.map] at st0
  unfold le2_law
  generalize c2_law = f1 at c2 ⊢
  generalize eLend 5 (eCall d_least_rinses [] (eCons (eN 5) eNil)) = f2 at l2 ⊢
  generalize eLend 6 c1_law = f3 at c1 ⊢
  generalize d_l_right = f4 at rt ⊢
  generalize d_l_take = f5 at t4 ⊢
  generalize d_l_rinses = f6 at hr ⊢
  generalize d_l_stream = f7 at st0 ⊢
  unfold matD at *
  generalize rows.map (rowD false) = MF at *
  generalize rows.map (rowD true) = MT at *
  generalize S.map (rowD true) = MS at *
  simp [fE, ice, ices, sSeq, sSet, sSub, sRet, sRetN, sIf, sX, sNil, sPass, sBrk, sCnt, sFor, eV, eIx, eOp2, eRd, eCons, eConsC, eNil, eN, eC, eMv, eAnd, eOr, eNot, eIf, eNeg, eB, eMk, eChain, eLc, eDic0, eInt, bT, bB, bAnd, bOr, bNot, bYes, tru, iSeq, itO, iRng1, iRng2, iRng3, iEnm, iZp, enumD, zipD, isLst, kidsI, R.bind, R.bindS, R.mapE, Out.mapE, lockO, unlockO, lockL, unlockL, setLk, lkAt, rdO, rdL, tmpL, mkLst, mkTup, ixO, ixD, pick, putAt, D.kids, D.setK, isOwn, g1L, g2L, gI, gI0, gAdd, gSub, gMul, gFdiv, gMod, gPow, gC, gLt, gLe, gGt, gGe, gEq_ii, gEq_ss, gEq_bb, gEq_nn, gEq_in, gEq_ni, gEq_sn, gEq_ns, gEq_ints, neB, gIs, gIsnt, gIn, gNotIn, gLen, gSum, gAll, gAny, gMaxL, gMinL, gMax2, gMin2, gAbs, gStr, gIsi, tyD, isiB, tyList, flatD, eqD, gSlice, oD, vlO, setN, gdNil, gdCons, gdTup, wipeE, lcL, forL, eCall, okS, argL, argO, slotO, liftG, mSet, mSetL, mAppend, mClear, mReverse, chkT, ddA, wrL, wr1, back, setD, outs, L2.ixN, fz, fzs, line24, ices_ints, ices_strs, ices_bls, fzs_ints, fzs_strs, intsD_map, blsD_map, strsD_map, ices_app, fzs_app, gListOf, mPop, mPopAt, mInsert, gInX, gNotInX, inDic, keyD, isSc, gIntOf, gRevL, eFld, fldO, mFld, sFldS, sTupS, setNs, eMake, chkI, mSetD, ixl_1_0, ixm_1, ixl_2_0, ixl_2_1, ixm_2, ixl_3_0, ixl_3_1, ixl_3_2, ixm_3, ixl_4_0, ixl_4_1, ixl_4_2, ixl_4_3, ixm_4, ixl_5_0, ixl_5_1, ixl_5_2, ixl_5_3, ixl_5_4, ixm_5, ixl_6_0, ixl_6_1, ixl_6_2, ixl_6_3, ixl_6_4, ixl_6_5, ixm_6, eFz, gNe_ii, gNe_ss, gNe_bb, gNe_nn, gNe_in, gNe_ni, gMaxE, gMinE, ixN_zero, ixN_end, sof_inj, st0, t4, hm, hr, c2, l2, c1, rt, gq, hir, hno]
theorem law_st (s0 : Sl) (k c : Int) (d3 d4 d5 d6 d7 : D) (h0 : Pd s0.d) (h6 : Pd d6) (h7 : Pd d7) : ∃ e3 e4 e5 e6 e7, fb1_law [s0, sv (.int k), sv (.int c), sv d3, sv d4, sv d5, sv d6, sv d7, sh] = .nx [s0, sv (.int k), sv (.int c), sv e3, sv e4, sv e5, sv e6, sv e7, sh] ∧ Pd e6 ∧ Pd e7 := by
  obtain ⟨m, rows, S, W, n, hm1, hm4, g, e, L, hA⟩ := lawA s0 k c d3 d4 d5 d6 d7 h0 h6 h7 (sSeq (sSub (eOp2 gMod (eOp2 gAdd (eIx (eIx (eN 5) (eC (.int 0))) (eC (.int 0))) (eC (.int 1))) (eOp2 gPow (eC (.int 10)) (eC (.int 30)))) (eIx (eN 5) (eC (.int 0))) (eC (.int 0)))
    (sSeq (sIf (bB (eOp2 gNe (eN 6) (eN 7))) (sRet (eC (.bl false))) sNil)
    (sSeq (sSub (eOp2 gSub (eC (.int 0)) (eC (.int 1))) (eIx (eN 6) (eC (.int 0))) (eC (.int 0)))
    (sSeq (sX (eCall (liftG mAppend) [] (eConsC (chkT "list") (eIx (eN 6) (eC (.int 1))) (eCons (eC (.int 7)) eNil))))
    (sSeq (sX (eCall (liftG mPop) [] (eConsC (chkT "list") (eN 6) eNil)))
    (sSeq (sIf (bB (eOp2 gNe (eCall d_least_rinses [] (eCons (eN 4) eNil)) (eN 7))) (sRet (eC (.bl false))) sNil)
    (sSeq (sX le1_law)
    (sIf (bB (eOp2 gNe (eCall d_least_rinses [] (eCons (eN 4) eNil)) (eN 7))) (sRet (eC (.bl false))) sNil))))))))
  have gS := least_good L g
  have hl1 := least_of false hm1 g e
  have gq : gNe (matD true S) (matD true S) = some (.bl false) := by unfold gNe; rw [gEq_mat]; simp [neB]
  have pr : Pd (matD false rows) := .inl (ice_mat rows)
  have ps : Pd (D.lst true [.int n]) := .inr rfl
  have pi : ∀ z : Int, Pd (.int z) := fun z => .inl rfl
  -- the lists
  obtain ⟨r0, rr, hrows⟩ : ∃ r0 rr, rows = r0 :: rr := by
    cases hq : rows with
    | nil => have := g.1; rw [hq] at this; simp at this
    | cons a b => exact ⟨a, b, rfl⟩
  obtain ⟨x, xs, hr0⟩ : ∃ x xs, r0 = x :: xs := by
    have := (g.2 r0 (by rw [hrows]; exact List.mem_cons_self)).1
    cases hq : r0 with
    | nil => rw [hq] at this; simp at this; omega
    | cons a b => exact ⟨a, b, rfl⟩
  obtain ⟨s1, t, ss, hS⟩ : ∃ s1 t ss, S = s1 :: t :: ss := by
    have := gS.1
    match S, this with
    | a :: b :: cc, _ => exact ⟨a, b, cc, rfl⟩
    | [a], h => simp at h; omega
    | [], h => simp at h
  obtain ⟨y, ys, hs1⟩ : ∃ y ys, s1 = y :: ys := by
    have := (gS.2 s1 (by rw [hS]; exact List.mem_cons_self)).1
    cases hq : s1 with
    | nil => rw [hq] at this; simp at this; omega
    | cons a b => exact ⟨a, b, rfl⟩
  have htl : t.length ≤ 100 := by have := (gS.2 t (by rw [hS]; simp)).1; omega
  have z0 := Int.emod_nonneg (x + 1) (show (10 ^ 30 : Int) ≠ 0 by decide)
  have z1 := Int.emod_lt_of_pos (x + 1) (show (0 : Int) < 10 ^ 30 by decide)
  have g2 : Good m (((x + 1) % 10 ^ 30 :: xs) :: rr) := by
    have h1 := g.1
    have h2 := g.2
    rw [hrows, hr0] at h1 h2
    refine ⟨by simpa using h1, fun r hr => ?_⟩
    rcases List.mem_cons.mp hr with rfl | hr
    · obtain ⟨a, b⟩ := h2 (x :: xs) List.mem_cons_self
      refine ⟨by simpa using a, fun v hv => ?_⟩
      rcases List.mem_cons.mp hv with rfl | hv
      · exact ⟨z0, z1⟩
      · exact b v (List.mem_cons_of_mem _ hv)
    · exact h2 r (List.mem_cons_of_mem _ hr)
  obtain ⟨S2, W2, e2, L2', _⟩ := sums_det hm1 hm4 g2
  let FD : List (List Int) := ((-1 :: ys) :: (t ++ [7]) :: ss).dropLast
  have hFD : (((-1 : Int) :: ys) :: (t ++ [7]) :: ss).eraseIdx (ss.length + 1) = FD := by
    show _ = (((-1 : Int) :: ys) :: (t ++ [7]) :: ss).dropLast
    rw [List.eraseIdx_eq_take_drop_succ]
    rw [List.drop_of_length_le (by simp), List.append_nil, List.dropLast_eq_take]
    simp
  have pf : Pd (matD true FD) := .inr (sol_mat FD)
  have l1 := lendL s0 (sv (.int k)) (sv (.int c)) (.lst true [.int n]) (matD false rows) (matD true FD) (matD true S) hm1 g2 e2 h0 (pi _) (pi _) ps pr pf (.inr (sol_mat S))
  refine ⟨.lst true [.int n], matD false rows, matD true (((x + 1) % 10 ^ 30 :: xs) :: rr), matD true FD, matD true S, ?_, pf, .inr (sol_mat S)⟩
  unfold fb1_law
  rw [hA]
  clear hA
  have hir := ices_rows rows
  have hir2 := ices_rows rr
  have hrx := ices_ints xs
  have hry := ices_ints ys
  have hrt := ices_ints t
  have hpop : (((D.lst true (D.int (-1) :: ys.map .int)) :: (D.lst true (t.map .int ++ [.int 7])) :: ss.map (rowD true)).eraseIdx (ss.length + 1)) = FD.map (rowD true) := by
    rw [← hFD]
    have := erase_mapB (rowD true) (((-1 : Int) :: ys) :: (t ++ [7]) :: ss) (ss.length + 1)
    rw [this]
    simp [rowD]
  have cp : L2.CPow 10 30 := by decide
  have e30 : (10 : Int) ^ 30 = 1000000000000000000000000000000 := by decide
  unfold le1_law
  have hMT : matD true rows = .lst true (.lst true (.int x :: xs.map .int) :: rr.map (rowD true)) := by rw [hrows, hr0]; rfl
  have hMS : matD true S = .lst true (.lst true (.int y :: ys.map .int) :: .lst true (t.map .int) :: ss.map (rowD true)) := by rw [hS, hs1]; rfl
  have hM2 : matD true (((x + 1) % 10 ^ 30 :: xs) :: rr) = .lst true (.lst true (.int ((x + 1) % 10 ^ 30) :: xs.map .int) :: rr.map (rowD true)) := rfl
  have hMF : matD true FD = .lst true (FD.map (rowD true)) := rfl
  generalize eLend 5 (eCall d_least_rinses [] (eCons (eN 5) eNil)) = f2 at l1 ⊢
  generalize d_least_rinses = f3 at hl1 ⊢
  rw [hM2] at l1 ⊢
  rw [hMF] at l1 ⊢
  rw [hMS] at l1 hl1 gq ⊢
  rw [hMT]
  rw [e30] at *
  unfold matD at hl1 l1 ⊢
  generalize FD.map (rowD true) = FDD at *
  generalize S2.map (rowD true) = SS2 at *
  generalize rows.map (rowD false) = MF at *
  have hsl : (ss.map (rowD true)).length = ss.length := List.length_map _
  generalize ss.map (rowD true) = SSD at *
  generalize rr.map (rowD true) = RRD at *
  have htl2 : (t.map D.int).length = t.length := List.length_map _
  generalize t.map D.int = TD at *
  generalize xs.map D.int = XD at *
  generalize ys.map D.int = YD at *
  simp [fE, ice, ices, sSeq, sSet, sSub, sRet, sRetN, sIf, sX, sNil, sPass, sBrk, sCnt, sFor, eV, eIx, eOp2, eRd, eCons, eConsC, eNil, eN, eC, eMv, eAnd, eOr, eNot, eIf, eNeg, eB, eMk, eChain, eLc, eDic0, eInt, bT, bB, bAnd, bOr, bNot, bYes, tru, iSeq, itO, iRng1, iRng2, iRng3, iEnm, iZp, enumD, zipD, isLst, kidsI, R.bind, R.bindS, R.mapE, Out.mapE, lockO, unlockO, lockL, unlockL, setLk, lkAt, rdO, rdL, tmpL, mkLst, mkTup, ixO, ixD, pick, putAt, D.kids, D.setK, isOwn, g1L, g2L, gI, gI0, gAdd, gSub, gMul, gFdiv, gMod, gPow, gC, gLt, gLe, gGt, gGe, gEq_ii, gEq_ss, gEq_bb, gEq_nn, gEq_in, gEq_ni, gEq_sn, gEq_ns, gEq_ints, neB, gIs, gIsnt, gIn, gNotIn, gLen, gSum, gAll, gAny, gMaxL, gMinL, gMax2, gMin2, gAbs, gStr, gIsi, tyD, isiB, tyList, flatD, eqD, gSlice, oD, vlO, setN, gdNil, gdCons, gdTup, wipeE, lcL, forL, eCall, okS, argL, argO, slotO, liftG, mSet, mSetL, mAppend, mClear, mReverse, chkT, ddA, wrL, wr1, back, setD, outs, L2.ixN, fz, fzs, line24, ices_ints, ices_strs, ices_bls, fzs_ints, fzs_strs, intsD_map, blsD_map, strsD_map, ices_app, fzs_app, gListOf, mPop, mPopAt, mInsert, gInX, gNotInX, inDic, keyD, isSc, gIntOf, gRevL, eFld, fldO, mFld, sFldS, sTupS, setNs, eMake, chkI, mSetD, ixl_1_0, ixm_1, ixl_2_0, ixl_2_1, ixm_2, ixl_3_0, ixl_3_1, ixl_3_2, ixm_3, ixl_4_0, ixl_4_1, ixl_4_2, ixl_4_3, ixm_4, ixl_5_0, ixl_5_1, ixl_5_2, ixl_5_3, ixl_5_4, ixm_5, ixl_6_0, ixl_6_1, ixl_6_2, ixl_6_3, ixl_6_4, ixl_6_5, ixm_6, eFz, gNe_ii, gNe_ss, gNe_bb, gNe_nn, gNe_in, gNe_ni, gMaxE, gMinE, ixN_zero, ixN_end, sof_inj, putAt, mPop, hl1, l1, gq, hpop, cp, hir, hsl, htl2, hrx, hry, hrt, show t.length < 16777216 by omega, show (0 : Int) < (ss.length : Int) + 1 + 1 by omega, show (1 : Int) < (ss.length : Int) + 1 + 1 by omega]
end Rw

set_option maxRecDepth 100000
set_option maxHeartbeats 400000
set_option linter.all false
set_option exponentiation.threshold 3000
namespace Rw
open DL
theorem law_true (ns : List Int) (h : ns.length ≤ 63) (hb : ∀ z ∈ ns, PySem.Builtin.Int.intBits z ≤ 1048576) : ∃ ds, d_law (scr ns) = .ok (.bl true) ds := by
  have hcut : cutD (ns.map D.int) none (some 8) = (ns.take 8).map .int := cutD_to D.int ns 8
  have hl8 : (ns.take 8).length ≤ 8 := by rw [List.length_take]; omega
  generalize ns.take 8 = ms at hcut hl8
  have hs0 : Pd (.lst false (ns.map .int)) := .inl (by simp [ice, ices_ints])
  obtain ⟨δ', h4, a1, a2, a3, a4, a5, a6, a7, p6, p7, rfl⟩ := forL_inv (gd := gdTup 2 (gdCons (setN 1) (gdCons (setN 2) gdNil))) (bf := fb1_law) (fun _ δ => ∃ d1 d2 d3 d4 d5 d6 d7, Pd d6 ∧ Pd d7 ∧ δ = [⟨false, false, .lst false (ns.map .int)⟩, sv d1, sv d2, sv d3, sv d4, sv d5, sv d6, sv d7, sh])
    (enumD ((ms ++ [0]).map D.int)) 0 [⟨false, false, .lst false (ns.map .int)⟩, sh, sh, sh, sh, sh, sh, sh, sh] ⟨_, _, _, _, _, _, _, .inr rfl, .inr rfl, rfl⟩
    (fun i d δ hd ⟨a1, a2, a3, a4, a5, a6, a7, p6, p7, e⟩ => by
      subst e
      obtain ⟨y, hy, rfl⟩ := enumD_get hd
      rw [List.getElem?_map, Option.map_eq_some_iff] at hy
      obtain ⟨c, _, rfl⟩ := hy
      obtain ⟨b3, b4, b5, b6, b7, hb, q6, q7⟩ := law_st ⟨false, false, .lst false (ns.map .int)⟩ i c a3 a4 a5 a6 a7 hs0 p6 p7
      exact ⟨_, _, rfl, .inl hb, _, _, _, _, _, _, _, q6, q7, rfl⟩)
  have hz := fzs_ints (ms ++ [0])
  simp only [List.map_append, List.map] at h4 hz
  refine ⟨[.lst false (ns.map .int)], ?_⟩
  unfold d_law mkFn b_law f1_law
  generalize fb1_law = f at h4 ⊢
  simp [fE, ice, ices, sSeq, sSet, sSub, sRet, sRetN, sIf, sX, sNil, sPass, sBrk, sCnt, sFor, eV, eIx, eOp2, eRd, eCons, eConsC, eNil, eN, eC, eMv, eAnd, eOr, eNot, eIf, eNeg, eB, eMk, eChain, eLc, eDic0, eInt, bT, bB, bAnd, bOr, bNot, bYes, tru, iSeq, itO, iRng1, iRng2, iRng3, iEnm, iZp, zipD, isLst, kidsI, R.bind, R.bindS, R.mapE, Out.mapE, lockO, unlockO, lockL, unlockL, setLk, lkAt, rdO, rdL, tmpL, mkLst, mkTup, ixO, ixD, pick, putAt, D.kids, D.setK, isOwn, g1L, g2L, gI, gI0, gAdd, gSub, gMul, gFdiv, gMod, gPow, gC, gLt, gLe, gGt, gGe, gEq_ii, gEq_ss, gEq_bb, gEq_nn, gEq_in, gEq_ni, gEq_sn, gEq_ns, gEq_ints, gNe, neB, gIs, gIsnt, gIn, gNotIn, gLen, gSum, gAll, gAny, gMaxL, gMinL, gMax2, gMin2, gAbs, gStr, gIsi, tyD, isiB, tyList, flatD, eqD, gSlice, oD, vlO, setN, gdNil, gdCons, gdTup, wipeE, lcL, eCall, okS, argL, argO, slotO, liftG, mSet, mSetL, mAppend, mClear, mReverse, chkT, ddA, wrL, wr1, back, setD, outs, L2.ixN, fz, fzs, line24, ices_ints, ices_strs, ices_bls, fzs_ints, fzs_strs, intsD_map, blsD_map, strsD_map, ices_app, fzs_app, gListOf, mPop, mPopAt, mInsert, gInX, gNotInX, inDic, keyD, isSc, gIntOf, gRevL, eFld, fldO, mFld, sFldS, sTupS, setNs, eMake, chkI, mSetD, ixl_1_0, ixm_1, ixl_2_0, ixl_2_1, ixm_2, ixl_3_0, ixl_3_1, ixl_3_2, ixm_3, ixl_4_0, ixl_4_1, ixl_4_2, ixl_4_3, ixm_4, ixl_5_0, ixl_5_1, ixl_5_2, ixl_5_3, ixl_5_4, ixm_5, ixl_6_0, ixl_6_1, ixl_6_2, ixl_6_3, ixl_6_4, ixl_6_5, ixm_6, eFz, gNe_ii, gNe_ss, gNe_bb, gNe_nn, gNe_in, gNe_ni, gMaxE, gMinE, ixN_zero, ixN_end, sof_inj, scr, h4, hz, hcut, show ns.length ≤ 16777216 by omega, show ms.length + 1 ≤ 16777216 by omega]
end Rw

open PySem PySem.W PySem.Calls PyProof.Rows
theorem PySem.Challenge.cw_rinsework_k03_least_rinses_holds : PySem.Challenge.rw_rinsework_k03_least_rinses.Holds := by
  w_on; o_law
  refine HandSHeadRun.head_any (r := OpenLaw.row PySem.Challenge.rw_rinsework_k03_least_rinses) (q := view (OpenLaw.row PySem.Challenge.rw_rinsework_k03_least_rinses).prog [19]) (H := Rw.hk) (ob := Rw.ob) (M := 4000) (loose := Rw.loose) (d := HandSHeadRun.topDef (OpenLaw.row PySem.Challenge.rw_rinsework_k03_least_rinses).prog 19) (kwd := []) Rw.ob_eq
    (by kernel_rfl) (fun s => by kernel_rfl) Rw.run (by kernel_rfl) (by kernel_rfl) (by kernel_rfl) (by rfl) (by first | assumption | decide +kernel) (by decide +kernel) ⟨rfl, rfl, rfl, rfl, rfl, by decide +kernel⟩ ?hw ?hc
  case hw => w_witness2
  case hc =>
    refine DL.walk_ofD (l := PySem.Challenge.rw_rinsework_k03_least_rinses) (n := 63) (k := 7) (x := "script") rfl (by decide) (by kernel_rfl) ⟨rfl, by decide, by decide⟩ ?F
    intro w mg fa h Y G hmg0
    obtain ⟨K, KX, c, hT⟩ := Y
    have hmg : mg ("law" : PySem.Str) = some (.ref fa) := by
      have e : (HandSHeadRun.topDef (OpenLaw.row PySem.Challenge.rw_rinsework_k03_least_rinses).prog 19).name = ("law" : PySem.Str) := by kernel_rfl
      rw [← e]
      exact hmg0
    obtain ⟨fd, F⟩ := DL.SaysZ.def_ c 12 rfl
    have e := hmg.symm.trans (He.glo_ok KX G (DL.SaysZ.fact c 12 (f := .glo "law") rfl))
    cases e
    have b := L2.FunD.bindsA (ps := ["script"]) F fun _ _ _ _ _ _ us hl => match us, hl with | [_], _ => rfl
    exact ⟨K, fd, Rw.d_law, KX, hT, fun s v => b s [v] rfl, fun ns h1 h2 => Rw.law_true ns h1 h2, fun base X0 G0 T0 => Rw.fo_law F c X0 G0 T0⟩
